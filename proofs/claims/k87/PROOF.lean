import PyProof.Rows.All
import Wide.All
import OpenK.AllK
import Wide.FinOn
import HandS.ForMost
import HandS.IsInst
import HandS.FStr
import HandS.DictComp
import HandS.ListItems
import HandS.TupAny
import HandS.More
import HandS.Conv
import HandS.Style
import HandS.Flow
import HandS.Walk
import HandS.ForExc
import HandS.ExcInit
import HandS.ExcField
import HandS.TryMany
import HandS.CallSlots
import PyProof.ReprRoads
import HandS.Words
import HandS.StrMore
import HandS.WideBits
import HandS.SortInts
import HandS.Finally
import HandS.ListItems
import HandS.Text
import HandS.Deep
import HandS.SortOrd
import HandS.Conv
import PySem.Challenge.RW_farmarks_k87_whole_kinds_tell
set_option Elab.async false
set_option linter.all false
set_option maxRecDepth 100000
set_option maxHeartbeats 4000000
namespace Fm
open PySem L2 LiI
section
variable {X : Cx} {K : PySem.W.Frag}
theorem op_in_seqK (h : X.K = K) : OpR X (compareOp .In) (rIn K false) := by subst h; exact op_in_seq
theorem op_notIn_seqK (h : X.K = K) : OpR X (compareOp .NotIn) (rIn K true) := by subst h; exact op_notIn_seq
theorem op_eqDK (h : X.K = K) (hu : X.A.units + 64 < cLine) : OpR X (compareOp .Eq) (rEqD K) := by subst h; exact op_eqD hu
theorem op_neDK (h : X.K = K) (hu : X.A.units + 64 < cLine) : OpR X (compareOp .NotEq) (rNeD K) := by subst h; exact op_neD hu
theorem ix_listK (h : X.K = K) : IxR X (rIxL K) := by subst h; exact ix_list
theorem ix_tupK (h : X.K = K) : IxR X (rIxT K) := by subst h; exact ix_tup
theorem ix_seqK (h : X.K = K) : IxR X (rIx K) := by subst h; exact ix_seq
theorem sl_listK (h : X.K = K) : SlR X (rSlL K) := by subst h; exact sl_list
theorem sl_tupAK (h : X.K = K) : SlR X (rSlA K) := by subst h; exact sl_tupA
def rLenSeq (K : PySem.W.Frag) : List V → Hp → VK → Prop := fun xs H Q => ∃ p ys, xs = [.ref p] ∧ (SqL K H p ys ∨ SqT K H p ys) ∧ Q (.int ys.length) H
theorem call_len_seqK (h : X.K = K) : CallR X (.builtin "len") (rLenSeq K) := by subst h; exact call_len_seq
def rListOf (K : PySem.W.Frag) : List V → Hp → VK → Prop := fun xs H Q => ∃ p ys, xs = [.ref p] ∧ (SqL K H p ys ∨ SqT K H p ys) ∧ ∀ l, H l = none → Q (.ref l) (upd H l (.lst ys))
theorem call_list_ofK (h : X.K = K) : CallR X (.type "list") (rListOf K) := by subst h; exact call_list_of
def rTupleOf (K : PySem.W.Frag) : List V → Hp → VK → Prop := fun xs H Q => ∃ p ys, xs = [.ref p] ∧ ((SqL K H p ys ∧ ∀ l, H l = none → Q (.ref l) (upd H l (.tup ys))) ∨ (SqT K H p ys ∧ Q (.ref p) H))
theorem call_tuple_ofK (h : X.K = K) : CallR X (.type "tuple") (rTupleOf K) := by subst h; exact call_tuple_of
def rDictP (K : PySem.W.Frag) : List V → Hp → VK → Prop := fun xs H Q => ∃ (a : Addr) (ps : List Addr) (kvs : List (Key × V)), xs = [.ref a] ∧ SqL K H a (ps.map V.ref) ∧ Paired (fun p kv => SqT K H p [kV kv.1, kv.2]) ps kvs ∧ ∀ p, H p = none → Q (.ref p) (upd H p (.dK (mergeK [] kvs)))
theorem call_dictPK (h : X.K = K) (hc : X.calm = true) : CallR X (.type "dict") (rDictP K) := by subst h; exact call_dictP hc
theorem call_isi_K (h : X.K = K) : CallR X (.builtin "isinstance") (rIsi K) := by subst h; exact call_isi
theorem call_isiTK (h : X.K = K) : CallR X (.builtin "isinstance") (rIsiT K) := by subst h; exact call_isiT
def rJoin (K : PySem.W.Frag) : V → List V → Hp → VK → Prop := fun x xs H Q => ∃ a p, ∃ ys : List Str, x = .str a ∧ xs = [.ref p] ∧ (SqL K H p (ys.map V.str) ∨ SqT K H p (ys.map V.str)) ∧ (ys.map (·.length)).sum + ys.length * a.length ≤ 16777216 ∧ Q (.str (Txt.join a ys)) H
theorem mt_joinK (h : X.K = K) : MtR X "str.join" (rJoin K) := by subst h; exact mt_join
theorem mt_indexK (h : X.K = K) : MtR X "list.index" (rIndex K) := by subst h; exact mt_index
theorem cr_allK (h : X.K = K) (hc : X.calm = true) : CallR X (.builtin "all") (rAll K) := by subst h; exact cr_all hc
theorem cr_anyK (h : X.K = K) (hc : X.calm = true) : CallR X (.builtin "any") (rAny K) := by subst h; exact cr_any hc
theorem cr_sumK (h : X.K = K) (hc : X.calm = true) : CallR X (.builtin "sum") (rSum K) := by subst h; exact cr_sum hc
theorem cr_maxK (h : X.K = K) (hc : X.calm = true) : CallR X (.builtin "max") (rMax K) := by subst h; exact cr_max hc
theorem cr_minK (h : X.K = K) (hc : X.calm = true) : CallR X (.builtin "min") (rMin K) := by subst h; exact cr_min hc
theorem pe_bmK {T : String} {name : Str} {id : String} {r : V → List V → Hp → VK → Prop} {o e : Expr} {es : List Expr} {to : TE} {t : TA} {apos cpos : Pos} (hK : X.K = K) (pa : PlainAttrs T) (slot : Slot T name id) (hty : typeOf (.builtin id) = pure (.type "method_descriptor")) (hm : MtR X id r) (ho : PE X o to) (ha : PA X (e :: es) t)
    (hbase : attributeBase o name X.env (eval o X.env) = eval o X.env := by rfl)
    (hfew : ((backTo cpos (starEach (e :: es) X.env)).all (fun x => !x.1) && (backToKw cpos (keywordEach [] X.env)).all (fun x => x.1.isSome)
      && decide ((e :: es).length + ([] : List Keyword).length + (if ([] : List Keyword).isEmpty then 0 else 1) < 30)) = true := by rfl)
    (hline : (apos.endLine == cpos.line) = true := by rfl) (hs : starEach (e :: es) X.env = (false, eval e X.env) :: starEach es X.env := by rfl) (hplain : (backTo cpos (starEach es X.env)).any (·.1) = false := by rfl) :
    PE X (.Call (.Attribute o name apos) (e :: es) [] cpos) (tBM K T r to t) := by subst hK; exact pe_bm pa slot hty hm ho ha hbase hfew hline hs hplain
theorem pe_bm0K {T : String} {name : Str} {id : String} {r : V → List V → Hp → VK → Prop} {o : Expr} {to : TE} {apos cpos : Pos} (hK : X.K = K) (pa : PlainAttrs T) (slot : Slot T name id) (hty : typeOf (.builtin id) = pure (.type "method_descriptor")) (hm : MtR X id r) (ho : PE X o to)
    (hbase : attributeBase o name X.env (eval o X.env) = eval o X.env := by rfl) (hline : (apos.endLine == cpos.line) = true := by rfl) : PE X (.Call (.Attribute o name apos) [] [] cpos) (tBM0 K T r to) := by subst hK; exact pe_bm0 pa slot hty hm ho hbase hline
theorem pi_listK {tg l : Expr} {tl : TE} (hK : X.K = K) (hl : PE X l tl) : PI X tg l (iList K tl) := by subst hK; exact pi_list hl
theorem pi_tupK {tg l : Expr} {tl : TE} (hK : X.K = K) (hl : PE X l tl) : PI X tg l (iTup K tl) := by subst hK; exact pi_tup hl
/-- a list or a tuple -/
def iSeq (K : PySem.W.Frag) (tl : TE) : TI := fun σ H R => iList K tl σ H R ∨ iTup K tl σ H R
theorem pi_seqK {tg l : Expr} {tl : TE} (hK : X.K = K) (hl : PE X l tl) : PI X tg l (iSeq K tl) := by
  subst hK
  exact ⟨fun pins s σ H R I h => h.elim (fun h => (pi_list hl).run pins s σ H R I h) (fun h => (pi_tup hl).run pins s σ H R I h)⟩
theorem pi_enumK {e : Expr} {ta : TA} {p pos tpos : Pos} {elts : List Expr} {kk : Nat} (hK : X.K = K) (hg : Gl X "enumerate") (hm : X.mg "enumerate" = none) (ha : PA X [e] ta) (hs : starEach [e] X.env = [(false, eval e X.env)] := by rfl) :
    PI X (.Tuple elts kk tpos) (.Call (.Name "enumerate" p) [e] [] pos) (iEnum K ta) := by subst hK; exact pi_enum hg hm ha hs
theorem pi_zipK {e e2 : Expr} {ta : TA} {p pos tpos : Pos} {elts : List Expr} {kk : Nat} (hK : X.K = K) (hg : Gl X "zip") (hm : X.mg "zip" = none) (ha : PA X [e, e2] ta)
    (hs : starEach [e, e2] X.env = (false, eval e X.env) :: starEach [e2] X.env := by rfl) (hpl : (backTo pos (starEach [e2] X.env)).any (·.1) = false := by rfl) :
    PI X (.Tuple elts kk tpos) (.Call (.Name "zip" p) [e, e2] [] pos) (iZip K ta) := by subst hK; exact pi_zip hg hm ha hs hpl
theorem pg_tupK {es : List Expr} {k : Nat} {t : TGs} {pos : Pos} (hK : X.K = K) (hc : X.calm = true) (h : PGs X es t)
    (hn : (assignEach es X.env).length = es.length := by rfl) (hst : (assignEach es X.env).findIdx? (·.1) = none := by rfl) : PG X (.Tuple es k pos) (gTup K es.length t) := by subst hK; exact pg_tup hc h hn hst
theorem pe_revLK {e : Expr} {te : TE} {k : Nat} {p1 p2 p3 pos : Pos} (hK : X.K = K) (he : PE X e te) : PE X (.Subscript e (.Slice none none (some (.UnaryOp .USub (.Constant (.int 1) k p1) p2)) p3) pos) (tRevL K te) := by subst hK; exact pe_revL he
theorem pe_fldK {f : Str} {a : Expr} {ta : TE} {pos : Pos} (hK : X.K = K) (ha : PE X a ta) (hb : attributeBase a f X.env (eval a X.env) = eval a X.env) : PE X (.Attribute a f pos) (tFld K ta f) := by subst hK; exact pe_fld ha hb
theorem pe_globI {x : Str} {i : Int} {t : Tok} {pos : Pos} (hg : Gl X x) (hm : X.mg x = some (.int i t)) (hd : (x == ("__debug__" : Str)) = false := by decide) : PE X (.Name x pos) (tC (.int i)) := pe_glob hg hm ⟨_, rfl⟩ hd
theorem pe_globS {x y : Str} {t : Tok} {pos : Pos} (hg : Gl X x) (hm : X.mg x = some (.str y t)) (hd : (x == ("__debug__" : Str)) = false := by decide) : PE X (.Name x pos) (tC (.str y)) := pe_glob hg hm ⟨_, rfl⟩ hd
theorem pe_globR {x : Str} {a : Addr} {pos : Pos} (hg : Gl X x) (hm : X.mg x = some (.ref a)) (hd : (x == ("__debug__" : Str)) = false := by decide) : PE X (.Name x pos) (tC (.ref a)) := pe_glob (v := .ref a) hg hm rfl hd
theorem pe_bltnT {x : Str} {n : String} {pos : Pos} (hg : Gl X x) (hm : X.mg x = none) (hv : bootBuiltins x = some (.type n)) (hn : x ≠ "__name__" := by decide) (hd : (x == ("__debug__" : Str)) = false := by decide) : PE X (.Name x pos) (tC (.ty n)) := pe_bltn (v := .ty n) hg hm hv rfl hn hd
end
/-! ### heaps: what stood stands -/
theorem _root_.L2.Same.new {H : Hp} {p : Addr} {o : HO} (h : H p = none) : Same H (upd H p o) := fun a u e => by
  rw [upd_ne (ne_of_none e h)]; exact e
theorem _root_.L2.Same.mut {F H : Hp} {p : Addr} {o : HO} (s : Same F H) (h : F p = none) : Same F (upd H p o) := fun a u e => by
  rw [upd_ne (ne_of_none e h)]; exact s a u e
theorem _root_.L2.Same.tup {K : PySem.W.Frag} {H H' : Hp} {a : Addr} {xs : List V} (e : Same H H') (h : SqT K H a xs) : SqT K H' a xs := by
  rcases h with (h | ⟨o, h⟩) | h
  · exact .inl (.inl (e _ _ h))
  · exact .inl (.inr ⟨o, e _ _ h⟩)
  · exact .inr h
/-- F the part that stays as it is; F' ⊇ F, H' ⊇ H, and of H's own cells none has come into F' -/
structure Ext (F H F' H' : Hp) : Prop where
  ff : Same F F'
  fh : Same F' H'
  hh : Same H H'
  nw : ∀ b, H b ≠ none → F b = none → F' b = none
theorem Ext.refl {F H : Hp} (s : Same F H) : Ext F H F H := ⟨Same.refl F, s, Same.refl H, fun _ _ h => h⟩
theorem Ext.trans {F H F1 H1 F2 H2 : Hp} (a : Ext F H F1 H1) (b : Ext F1 H1 F2 H2) : Ext F H F2 H2 :=
  ⟨a.ff.trans b.ff, b.fh, a.hh.trans b.hh, fun c hc hf => b.nw c (fun z => hc (a.hh.free z)) (a.nw c hc hf)⟩
/-- a new object, taken into F -/
theorem Ext.new {F H : Hp} {p : Addr} {o : HO} (s : Same F H) (h : H p = none) : Ext F H (upd F p o) (upd H p o) := by
  have hF : F p = none := s.free h
  refine ⟨Same.new hF, fun a u e => ?_, Same.new h, fun b hb hf => ?_⟩
  · by_cases q : a = p
    · subst q; rw [upd_same] at e ⊢; exact e
    · rw [upd_ne q] at e ⊢; exact s a u e
  · have q : b ≠ p := fun z => hb (by rw [z]; exact h)
    rw [upd_ne q]; exact hf
/-- a new object, not taken into F -/
theorem Ext.loose {F H : Hp} {p : Addr} {o : HO} (s : Same F H) (h : H p = none) : Ext F H F (upd H p o) :=
  ⟨Same.refl F, s.mut (s.free h), Same.new h, fun _ _ h => h⟩
theorem Ext.same {F H H' : Hp} (s : Same F H) (h : Same H H') : Ext F H F H' := ⟨Same.refl F, s.trans h, h, fun _ _ h => h⟩

/-! ### data -/
def kD : Key → PyData
  | .inl i => .int i
  | .inr s => .str s
mutual
/-- at v data d is to be read -/
inductive Is (K : PySem.W.Frag) (H : Hp) : V → PyData → Prop
  | non : Is K H .non .none
  | bl (b : Bool) : Is K H (.bl b) (.bool b)
  | int (i : Int) : Is K H (.int i) (.int i)
  | str (x : Str) : Is K H (.str x) (.str x)
  | lst {a : Addr} {xs : List V} {ds : List PyData} : SqL K H a xs → IsAll K H xs ds → Is K H (.ref a) (.list ds)
  | tup {a : Addr} {xs : List V} {ds : List PyData} : SqT K H a xs → IsAll K H xs ds → Is K H (.ref a) (.tuple ds)
  | dct {a : Addr} {kvs : List (Key × V)} {es : List (PyData × PyData)} : Rd H a (.dK kvs) → IsKv K H kvs es → Is K H (.ref a) (.dict es)
inductive IsAll (K : PySem.W.Frag) (H : Hp) : List V → List PyData → Prop
  | nil : IsAll K H [] []
  | cons {v : V} {vs : List V} {d : PyData} {ds : List PyData} : Is K H v d → IsAll K H vs ds → IsAll K H (v :: vs) (d :: ds)
inductive IsKv (K : PySem.W.Frag) (H : Hp) : List (Key × V) → List (PyData × PyData) → Prop
  | nil : IsKv K H [] []
  | cons {k : Key} {v : V} {kvs : List (Key × V)} {d : PyData} {es : List (PyData × PyData)} : Is K H v d → IsKv K H kvs es → IsKv K H ((k, v) :: kvs) ((kD k, d) :: es)
end
section
variable {K : PySem.W.Frag} {H H' : Hp}
mutual
theorem Is.mono (s : Same H H') : ∀ {v : V} {d : PyData}, Is K H v d → Is K H' v d
  | _, _, .non => .non
  | _, _, .bl b => .bl b
  | _, _, .int i => .int i
  | _, _, .str x => .str x
  | _, _, .lst h a => .lst (s.seq h) (IsAll.mono s a)
  | _, _, .tup h a => .tup (s.tup h) (IsAll.mono s a)
  | _, _, .dct h a => .dct (h.imp (s _ _) fun ⟨u, h⟩ => ⟨u, s _ _ h⟩) (IsKv.mono s a)
theorem IsAll.mono (s : Same H H') : ∀ {vs : List V} {ds : List PyData}, IsAll K H vs ds → IsAll K H' vs ds
  | _, _, .nil => .nil
  | _, _, .cons h t => .cons (Is.mono s h) (IsAll.mono s t)
theorem IsKv.mono (s : Same H H') : ∀ {vs : List (Key × V)} {ds : List (PyData × PyData)}, IsKv K H vs ds → IsKv K H' vs ds
  | _, _, .nil => .nil
  | _, _, .cons h t => .cons (Is.mono s h) (IsKv.mono s t)
end
theorem IsAll.length : ∀ {vs : List V} {ds : List PyData}, IsAll K H vs ds → vs.length = ds.length
  | _, _, .nil => rfl
  | _, _, .cons _ t => congrArg Nat.succ (IsAll.length t)
theorem IsAll.get : ∀ {vs : List V} {ds : List PyData} {i : Nat} {v : V}, IsAll K H vs ds → vs[i]? = some v → ∃ d, ds[i]? = some d ∧ Is K H v d
  | _, _, _, _, .nil, h => by simp at h
  | _, _, 0, _, .cons q _, h => by simp at h; subst h; exact ⟨_, rfl, q⟩
  | _, _, i + 1, _, .cons _ t, h => by
    obtain ⟨d, h1, h2⟩ := IsAll.get (i := i) t (by simpa using h)
    exact ⟨d, by simpa using h1, h2⟩
theorem IsAll.get' : ∀ {vs : List V} {ds : List PyData} {i : Nat} {d : PyData}, IsAll K H vs ds → ds[i]? = some d → ∃ v, vs[i]? = some v ∧ Is K H v d
  | _, _, _, _, .nil, h => by simp at h
  | _, _, 0, _, .cons q _, h => by simp at h; subst h; exact ⟨_, rfl, q⟩
  | _, _, i + 1, _, .cons _ t, h => by
    obtain ⟨d, h1, h2⟩ := IsAll.get' (i := i) t (by simpa using h)
    exact ⟨d, by simpa using h1, h2⟩
theorem IsAll.append : ∀ {vs ws : List V} {ds es : List PyData}, IsAll K H vs ds → IsAll K H ws es → IsAll K H (vs ++ ws) (ds ++ es)
  | _, _, _, _, .nil, s => s
  | _, _, _, _, .cons r t, s => .cons r (IsAll.append t s)
theorem IsAll.one {v : V} {d : PyData} (h : Is K H v d) : IsAll K H [v] [d] := .cons h .nil
theorem IsAll.drop : ∀ {vs : List V} {ds : List PyData} (n : Nat), IsAll K H vs ds → IsAll K H (vs.drop n) (ds.drop n)
  | _, _, 0, h => h
  | _, _, _ + 1, .nil => .nil
  | _, _, n + 1, .cons _ t => IsAll.drop n t
theorem IsAll.take : ∀ {vs : List V} {ds : List PyData} (n : Nat), IsAll K H vs ds → IsAll K H (vs.take n) (ds.take n)
  | _, _, 0, _ => .nil
  | _, _, _ + 1, .nil => .nil
  | _, _, n + 1, .cons h t => .cons h (IsAll.take n t)
theorem IsAll.reverse : ∀ {vs : List V} {ds : List PyData}, IsAll K H vs ds → IsAll K H vs.reverse ds.reverse
  | _, _, .nil => .nil
  | _, _, .cons h t => by rw [List.reverse_cons, List.reverse_cons]; exact (IsAll.reverse t).append (.one h)
theorem IsAll.eraseIdx : ∀ {vs : List V} {ds : List PyData} (n : Nat), IsAll K H vs ds → IsAll K H (vs.eraseIdx n) (ds.eraseIdx n)
  | _, _, _, .nil => .nil
  | _, _, 0, .cons _ t => t
  | _, _, n + 1, .cons h t => .cons h (IsAll.eraseIdx n t)
/-! whatever is flat is what it says -/
theorem isAll_strs : ∀ (xs : List Str), IsAll K H (xs.map V.str) (xs.map PyData.str)
  | [] => .nil
  | x :: xs => .cons (.str x) (isAll_strs xs)
theorem isAll_ints : ∀ (xs : List Int), IsAll K H (xs.map V.int) (xs.map PyData.int)
  | [] => .nil
  | x :: xs => .cons (.int x) (isAll_ints xs)
theorem IsAll.strs : ∀ {xs : List Str} {vs : List V}, IsAll K H vs (xs.map PyData.str) → vs = xs.map V.str
  | [], _, .nil => rfl
  | _ :: _, _, .cons (.str _) t => by rw [IsAll.strs t]; rfl
theorem Is.str_inv {v : V} {x : Str} (h : Is K H v (.str x)) : v = .str x := by cases h; rfl
theorem Is.int_inv {v : V} {x : Int} (h : Is K H v (.int x)) : v = .int x := by cases h; rfl
theorem Is.none_inv {v : V} (h : Is K H v .none) : v = .non := by cases h; rfl
theorem Is.bool_inv {v : V} {b : Bool} (h : Is K H v (.bool b)) : v = .bl b := by cases h; rfl
theorem Is.list_inv {v : V} {ds : List PyData} (h : Is K H v (.list ds)) : ∃ a xs, v = .ref a ∧ SqL K H a xs ∧ IsAll K H xs ds := by cases h; exact ⟨_, _, rfl, ‹_›, ‹_›⟩
theorem Is.tuple_inv {v : V} {ds : List PyData} (h : Is K H v (.tuple ds)) : ∃ a xs, v = .ref a ∧ SqT K H a xs ∧ IsAll K H xs ds := by cases h; exact ⟨_, _, rfl, ‹_›, ‹_›⟩
theorem Is.dict_inv {v : V} {es : List (PyData × PyData)} (h : Is K H v (.dict es)) : ∃ a kvs, v = .ref a ∧ Rd H a (.dK kvs) ∧ IsKv K H kvs es := by cases h; exact ⟨_, _, rfl, ‹_›, ‹_›⟩
/-- data without dicts is what the library's deep equality reads -/
def noDict : PyData → Bool
  | .list ds => noDictAll ds
  | .tuple ds => noDictAll ds
  | .dict _ => false
  | _ => true
where noDictAll : List PyData → Bool
  | [] => true
  | d :: ds => noDict d && noDictAll ds
mutual
theorem Is.dp : ∀ {v : V} {d : PyData}, Is K H v d → noDict d = true → Dp K H v d
  | _, _, .non, _ => .non
  | _, _, .bl b, _ => .bl b
  | _, _, .int i, _ => .int i
  | _, _, .str x, _ => .str x
  | _, _, .lst h a, q => .lst h (IsAll.dp a (by simpa [noDict] using q))
  | _, _, .tup h a, q => .tup h (IsAll.dp a (by simpa [noDict] using q))
  | _, _, .dct _ _, q => by simp [noDict] at q
theorem IsAll.dp : ∀ {vs : List V} {ds : List PyData}, IsAll K H vs ds → noDict.noDictAll ds = true → DpAll K H vs ds
  | _, _, .nil, _ => .nil
  | _, _, .cons h t, q => by
    simp only [noDict.noDictAll, Bool.and_eq_true] at q
    exact .cons (Is.dp h q.1) (IsAll.dp t q.2)
end
end
/-! ### one step of a reading -/
section
variable {K : PySem.W.Frag} {σ : St} {H : Hp} {Q : VK} {D : Ends} {R : St → Hp → Prop}
theorem w_var {i : Nat} {v : V} (h : σ[i]? = some (some v)) (k : Q v H) : tVar i σ H Q := ⟨v, h, k⟩
theorem w_c {v : V} (k : Q v H) : tC v σ H Q := k
theorem w_op {r : R2} {ta tb : TE} (k : ta σ H fun x H1 => tb σ H1 fun y H2 => r x y H2 Q) : tOp r ta tb σ H Q := k
theorem w_un {r : V → Hp → VK → Prop} {ta : TE} (k : ta σ H fun x H1 => r x H1 Q) : tUn r ta σ H Q := k
theorem w_rI0 {g : Int → Int → V} {i j : Int} (k : Q (g i j) H) : rI0 g (.int i) (.int j) H Q := ⟨i, j, rfl, rfl, k⟩
theorem w_rI {C : Int → Int → Prop} {g : Int → Int → V} {i j : Int} (c : C i j) (k : Q (g i j) H) : rI C g (.int i) (.int j) H Q := ⟨i, j, rfl, rfl, c, k⟩
theorem w_rU {g : Int → V} {i : Int} (k : Q (g i) H) : rU g (.int i) H Q := ⟨i, rfl, k⟩
theorem dec_int (i j : Int) : decide (V.int i = V.int j) = decide (i = j) := by
  by_cases h : i = j
  · rw [h]; simp
  · rw [decide_eq_false h, decide_eq_false fun q => h (V.int.inj q)]
theorem dec_str (i j : Str) : decide (V.str i = V.str j) = decide (i = j) := by
  by_cases h : i = j
  · rw [h]; simp
  · rw [decide_eq_false h, decide_eq_false fun q => h (V.str.inj q)]
theorem w_eqI {i j : Int} (k : Q (.bl (decide (i = j))) H) : rEq (.int i) (.int j) H Q := ⟨rfl, by rw [dec_int]; exact k⟩
theorem w_neI {i j : Int} (k : Q (.bl (!decide (i = j))) H) : rNe (.int i) (.int j) H Q := ⟨rfl, by rw [dec_int]; exact k⟩
theorem w_eqS {i j : Str} (k : Q (.bl (decide (i = j))) H) : rEq (.str i) (.str j) H Q := ⟨rfl, by rw [dec_str]; exact k⟩
theorem w_neS {i j : Str} (k : Q (.bl (!decide (i = j))) H) : rNe (.str i) (.str j) H Q := ⟨rfl, by rw [dec_str]; exact k⟩
theorem w_test {t : TE} {Q : Bool → Hp → Prop} (k : t σ H fun x H' => ∃ c, x = .bl c ∧ Q c H') : tTest t σ H Q := k
theorem w_tB {t : TE} {Q : Bool → Hp → Prop} (k : t σ H fun x H' => ∃ c, x = .bl c ∧ Q c H') : tB t σ H Q := k
theorem w_exb {b : Bool} {P : Bool → Prop} (k : P b) : ∃ c, V.bl b = .bl c ∧ P c := ⟨b, rfl, k⟩
theorem w_exi {b : Int} {P : Int → Prop} (k : P b) : ∃ c, V.int b = .int c ∧ P c := ⟨b, rfl, k⟩
theorem w_exs {b : Str} {P : Str → Prop} (k : P b) : ∃ c, V.str b = .str c ∧ P c := ⟨b, rfl, k⟩
theorem w_exli {b : Int} {P : Int → Prop} (k : P b) : ∃ c, [V.int b] = [.int c] ∧ P c := ⟨b, rfl, k⟩
theorem w_exls {b : Str} {P : Str → Prop} (k : P b) : ∃ c, [V.str b] = [.str c] ∧ P c := ⟨b, rfl, k⟩
theorem w_exlii {a b : Int} {P : Int → Int → Prop} (k : P a b) : ∃ i j, [V.int a, V.int b] = [.int i, .int j] ∧ P i j := ⟨a, b, rfl, k⟩
theorem w_exss {a b : Str} {P : Str → Str → Prop} (k : P a b) : ∃ i j, V.str a = .str i ∧ V.str b = .str j ∧ P i j := ⟨a, b, rfl, rfl, k⟩
theorem w_and {t u : TT} {Q : Bool → Hp → Prop} (k : t σ H fun c H1 => if c = true then u σ H1 Q else Q false H1) : tAnd t u σ H Q := k
theorem w_or {t u : TT} {Q : Bool → Hp → Prop} (k : t σ H fun c H1 => if c = true then Q true H1 else u σ H1 Q) : tOr t u σ H Q := k
theorem w_not {t : TT} {Q : Bool → Hp → Prop} (k : t σ H fun c H1 => Q (!c) H1) : tNot t σ H Q := k
theorem w_andV {ta tb : TE} (k : ta σ H fun x H1 => ∃ c, x = .bl c ∧ if c = true then tb σ H1 Q else Q (.bl false) H1) : tAndV ta tb σ H Q := k
theorem w_orV {ta tb : TE} (k : ta σ H fun x H1 => ∃ c, x = .bl c ∧ if c = true then Q (.bl true) H1 else tb σ H1 Q) : tOrV ta tb σ H Q := k
theorem w_notV {ta : TE} (k : ta σ H fun x H1 => ∃ c, x = .bl c ∧ Q (.bl (!c)) H1) : tNotV ta σ H Q := k
theorem w_if {t : TT} {ta tb : TE} (k : t σ H fun c H1 => if c = true then ta σ H1 Q else tb σ H1 Q) : tIf t ta tb σ H Q := k
theorem w_chain {r r' : R2} {ta tb tc : TE} (k : ta σ H fun x H1 => tb σ H1 fun y H2 => r x y H2 fun z H3 => ∃ c, z = .bl c ∧ (if c = true then tc σ H3 fun w' H4 => r' y w' H4 Q else Q (.bl false) H3)) : tChain r r' ta tb tc σ H Q := k
theorem w_next (k : D.nx σ H) : tNext D σ H := k
theorem w_seq {t u : TS} (k : t { D with nx := u D } σ H) : tSeq t u D σ H := k
theorem w_brk (k : D.bk σ H) : tBreak D σ H := k
theorem w_cont (k : D.ct σ H) : tCont D σ H := k
theorem w_drop {te : TE} (k : te σ H fun _ H1 => D.nx σ H1) : tDrop te D σ H := k
theorem w_ret {te : TE} (k : te σ H D.rt) : tRet te D σ H := k
theorem w_retN (k : D.rt .non H) : tRetN D σ H := k
theorem w_ifS {c : TT} {t u : TS} (k : c σ H fun b H1 => if b = true then t D σ H1 else u D σ H1) : tIfS c t u D σ H := k
theorem w_asg {te : TE} {g : TG} (k : te σ H fun x H1 => g x σ H1 D.nx) : tAsg te g D σ H := k
theorem w_gName {i : Nat} {v : V} (k : R (σ.set i (some v)) H) : gName i v σ H R := k
theorem w_gSub {to ti : TE} {t : TSet} {v : V} (k : to σ H fun o H1 => ti σ H1 fun i H2 => t o i v H2 fun H3 => R σ H3) : gSub to ti t v σ H R := k
theorem w_nil {Q : List V → Hp → Prop} (k : Q [] H) : tNil σ H Q := k
theorem w_cons {ta : TE} {tr : TA} {Q : List V → Hp → Prop} (k : ta σ H fun x H1 => tr σ H1 fun xs H2 => Q (x :: xs) H2) : tCons ta tr σ H Q := k
theorem w_tup {t : TA} (k : t σ H fun xs H1 => xs.length ≤ sizeLine ∧ ∀ p, H1 p = none → Q (.ref p) (upd H1 p (.tup xs))) : tTup t σ H Q := k
theorem w_lst {t : TA} (k : t σ H fun xs H1 => xs.length ≤ sizeLine ∧ ∀ p, H1 p = none → Q (.ref p) (upd H1 p (.lst xs))) : tLst t σ H Q := k
theorem w_call {sp : Sp} {dvs : List V} {E : XK} {t : TA} (k : t σ H fun vs H1 => sp (vs ++ dvs) H1 Q E) : tCall sp dvs E t σ H Q := k
theorem w_cb {r : List V → Hp → VK → Prop} {t : TA} (k : t σ H fun vs H1 => r vs H1 Q) : tCB r t σ H Q := k
theorem w_noPart {Q : Option Int → Hp → Prop} (k : Q none H) : tNoPart σ H Q := k
theorem w_part {t : TE} {Q : Option Int → Hp → Prop} (k : t σ H fun x H1 => ∃ i, x = .int i ∧ Q (some i) H1) : tPart t σ H Q := k
theorem w_sl {r : V → Option Int → Option Int → Hp → VK → Prop} {te : TE} {tl th : TO} (k : te σ H fun x H1 => tl σ H1 fun l H2 => th σ H2 fun u H3 => r x l u H3 Q) : tSl r te tl th σ H Q := k
theorem w_bm {T : String} {r : V → List V → Hp → VK → Prop} {to : TE} {t : TA} (k : to σ H fun x H1 => tyV K T x H1 ∧ t σ H1 fun xs H2 => r x xs H2 Q) : tBM K T r to t σ H Q := k
theorem w_bm0 {T : String} {r : V → List V → Hp → VK → Prop} {to : TE} (k : to σ H fun x H1 => tyV K T x H1 ∧ r x [] H1 Q) : tBM0 K T r to σ H Q := k
theorem w_dnewK (k : ∀ p, H p = none → Q (.ref p) (upd H p (.dK []))) : tDNewK σ H Q := k
theorem w_dget {td ty : TE} (k : td σ H fun x H1 => ty σ H1 fun y H2 => ∃ a v, x = .ref a ∧ DGet H2 a y (some v) ∧ Q v H2) : tDGet td ty σ H Q := k
theorem w_din {td ty : TE} (k : ty σ H fun y H1 => td σ H1 fun x H2 => ∃ a o, x = .ref a ∧ DGet H2 a y o ∧ Q (.bl o.isSome) H2) : tDIn ty td σ H Q := k
theorem w_dnotin {td ty : TE} (k : ty σ H fun y H1 => td σ H1 fun x H2 => ∃ a o, x = .ref a ∧ DGet H2 a y o ∧ Q (.bl (!o.isSome)) H2) : tDNotIn ty td σ H Q := k
theorem w_rLt {i j : Int} (k : Q (.bl (decide (i < j))) H) : rI0 (fun i j => .bl (decide (i < j))) (.int i) (.int j) H Q := ⟨i, j, rfl, rfl, k⟩
theorem w_tyL {a : Addr} {xs : List V} {P : Prop} (h : SqL K H a xs) (k : P) : tyV K "list" (.ref a) H ∧ P := ⟨.inl ⟨rfl, xs, h⟩, k⟩
theorem w_append {l : Addr} {xs : List V} {y : V} (h : H l = some (.lst xs)) (z : xs.length < sizeLine) (k : Q .non (upd H l (.lst (xs ++ [y])))) : rAppend (.ref l) [y] H Q := ⟨l, xs, y, rfl, rfl, h, z, k⟩
theorem w_ixL {p : Addr} {xs : List V} {i : Int} {v : V} (h : SqL K H p xs) (e : atI xs i = some v) (k : Q v H) : rIxL K (.ref p) (.int i) H Q := ⟨p, xs, i, v, rfl, rfl, h, e, k⟩
theorem w_ixT {p : Addr} {xs : List V} {i : Int} {v : V} (h : SqT K H p xs) (e : atI xs i = some v) (k : Q v H) : rIxT K (.ref p) (.int i) H Q := ⟨p, xs, i, v, rfl, rfl, h, e, k⟩
theorem w_ixS {z : Str} {i : Int} {c : Nat} (h : z.length ≤ sizeLine) (e : atI z.cps.toList i = some c) (k : Q (.str ⟨#[c]⟩) H) : rIxS (.str z) (.int i) H Q := ⟨z, i, c, rfl, rfl, h, e, k⟩
theorem w_lenL {p : Addr} {xs : List V} (h : SqL K H p xs) (k : Q (.int xs.length) H) : rLenSeq K [.ref p] H Q := ⟨p, xs, rfl, .inl h, k⟩
theorem w_lenT {p : Addr} {xs : List V} (h : SqT K H p xs) (k : Q (.int xs.length) H) : rLenSeq K [.ref p] H Q := ⟨p, xs, rfl, .inr h, k⟩
theorem w_ifT {A B : Prop} {b : Bool} (e : b = true) (k : A) : if b = true then A else B := by rw [if_pos e]; exact k
theorem w_ifF {A B : Prop} {b : Bool} (e : b = false) (k : B) : if b = true then A else B := by rw [if_neg (by rw [e]; decide)]; exact k
theorem w_if2 {A B : Prop} {b : Bool} (h1 : b = true → A) (h2 : b = false → B) : if b = true then A else B := by
  cases b with
  | true => exact w_ifT rfl (h1 rfl)
  | false => exact w_ifF rfl (h2 rfl)
theorem w_yes {Q : Bool → Hp → Prop} (k : Q true H) : tYes σ H Q := k
theorem w_insign {c : Nat} {z : Str} {P : Nat → Str → Prop} (k : P c z) : ∃ (c' : Nat) (z' : Str), V.str ⟨#[c]⟩ = .str ⟨#[c']⟩ ∧ V.str z = .str z' ∧ P c' z' := ⟨c, z, rfl, rfl, k⟩
theorem w_ifd {p : Prop} [Decidable p] {A B : Prop} (h1 : p → A) (h2 : ¬ p → B) : if decide p = true then A else B := by
  by_cases h : p
  · exact w_ifT (decide_eq_true h) (h1 h)
  · exact w_ifF (decide_eq_false h) (h2 h)
theorem w_ifnd {p : Prop} [Decidable p] {A B : Prop} (h1 : ¬ p → A) (h2 : p → B) : if (!decide p) = true then A else B := by
  by_cases h : p
  · exact w_ifF (by rw [decide_eq_true h]; rfl) (h2 h)
  · exact w_ifT (by rw [decide_eq_false h]; rfl) (h1 h)
theorem w_ifn {b : Bool} {A B : Prop} (h1 : b = false → A) (h2 : b = true → B) : if (!b) = true then A else B := by
  cases b with
  | true => exact w_ifF rfl (h2 rfl)
  | false => exact w_ifT rfl (h1 rfl)
theorem atI_nat' {α : Type} {xs : List α} {n : Nat} {v : α} (h : xs[n]? = some v) : atI xs (n : Int) = some v := atI_nat h
end
/-! ### isinstance over data -/
def tyOf : PyData → String
  | .none => "NoneType"
  | .bool _ => "bool"
  | .int _ => "int"
  | .str _ => "str"
  | .list _ => "list"
  | .tuple _ => "tuple"
  | .dict _ => "dict"
def isTy (T : String) (d : PyData) : Bool := tyOf d == T || (T == "int" && tyOf d == "bool")
section
variable {K : PySem.W.Frag} {H : Hp} {Q : VK}
theorem Is.ty {v : V} {d : PyData} (h : Is K H v d) : TyX K H v (.type (tyOf d)) := by
  cases h with
  | non => exact .base .non
  | bl b => exact .base (.bl b)
  | int i => exact .base (.int i)
  | str x => exact .base (.str x)
  | lst q _ =>
    rcases q with (q | ⟨o, q⟩) | ⟨o, its, n, hk, hc, _⟩
    · exact .base (.lst q)
    · exact .base (.frz q)
    · exact .kList hk hc
  | tup q _ =>
    rcases q with (q | ⟨o, q⟩) | ⟨o, its, n, hk, hc, _⟩
    · exact .base (.tup q)
    · exact .fTuple q
    · exact .kTuple hk hc
  | dct q _ =>
    rcases q with q | ⟨o, q⟩
    · exact .base (.dK q)
    · exact .fDict q
theorem tyOf_cases (d : PyData) : tyOf d = "NoneType" ∨ tyOf d = "bool" ∨ tyOf d = "int" ∨ tyOf d = "str" ∨ tyOf d = "list" ∨ tyOf d = "tuple" ∨ tyOf d = "dict" := by
  cases d <;> simp [tyOf]
theorem kit_is (d : PyData) {T : String} (hT : T = "int" ∨ T = "bool" ∨ T = "str" ∨ T = "list" ∨ T = "tuple" ∨ T = "dict") : PySem.W.kitOne K (.type (tyOf d)) (.type T) = some (isTy T d) := by
  unfold isTy
  rcases tyOf_cases d with e | e | e | e | e | e | e <;> rw [e] <;> rcases hT with rfl | rfl | rfl | rfl | rfl | rfl <;> exact kit_ty (by decide +kernel)
theorem w_isi {v : V} {d : PyData} {T : String} (hT : T = "int" ∨ T = "bool" ∨ T = "str" ∨ T = "list" ∨ T = "tuple" ∨ T = "dict") (h : Is K H v d) (k : Q (.bl (isTy T d)) H) : rIsi K [v, .ty T] H Q :=
  ⟨v, .ty T, .type (tyOf d), .type T, isTy T d, rfl, .ty T, h.ty, kit_is d hT, k⟩
/-- isinstance(x, (list, tuple)) -/
theorem w_isiLT {v : V} {d : PyData} {tp : Addr} (h : Is K H v d) (ht : H tp = some (.tup [.ty "list", .ty "tuple"])) (k : Q (.bl (isTy "list" d || isTy "tuple" d)) H) : rIsiT K [v, .ref tp] H Q := by
  refine ⟨v, tp, _, .type (tyOf d), [.type "list", .type "tuple"], _, rfl, ht, .cons (.ty _) (.cons (.ty _) .nil), h.ty, ?_, k⟩
  have h1 := kit_is (K := K) d (T := "list") (by simp)
  have h2 := kit_is (K := K) d (T := "tuple") (by simp)
  cases e : isTy "list" d with
  | true => exact kitAny_cons (b := true) (h1.trans (by rw [e])) (fun z => nomatch z) (fun _ => rfl)
  | false =>
    refine kitAny_cons (b := false) (h1.trans (by rw [e])) (fun _ => ?_) (fun z => nomatch z)
    cases e2 : isTy "tuple" d with
    | true => exact kitAny_cons (b := true) (h2.trans (by rw [e2])) (fun z => nomatch z) (fun _ => rfl)
    | false => exact kitAny_cons (b := false) (h2.trans (by rw [e2])) (fun _ => rfl) (fun z => nomatch z)
end
/-! ### comprehensions, loops: the walk by itself -/
def LcW (J : It) (g : TG) (tt : TT) (te : TE) (vs : List Nat) (σ : St) (H1 : Hp) (Q : VK) : Prop := ∀ D, H1 D = none → ∃ W : Nat → Nat → Hp → Prop, (∃ m, W 0 m (upd H1 D (.lst []))) ∧ ∀ i m H, W i m H →
  (J.stop i H ∧ Q (.ref D) H) ∨ (J.go i H ∧ ∃ Nx : Hp → Prop, (∀ H', Nx H' → ∃ m', m' < m ∧ W (i + 1) m' H') ∧ ∀ x H', J.yld i H x H' → g x (wipe σ vs) H' fun σ2 H2 => wipe σ2 vs = wipe σ vs ∧ tt σ2 H2 fun b H3 =>
    if b = true then te σ2 H3 fun y H4 => ∃ acc, H4 D = some (.lst acc) ∧ acc.length < sizeLine ∧ Nx (upd H4 D (.lst (acc ++ [y]))) else Nx H3)
theorem w_lc {wi : TI} {g : TG} {tt : TT} {te : TE} {vs : List Nat} {σ : St} {H : Hp} {Q : VK} (k : wi σ H fun J H1 => LcW J g tt te vs σ H1 Q) : tLc wi g tt te vs σ H Q := k
def ForW (J : It) (g : TG) (tb : TS) (D : Ends) (σ : St) (H1 : Hp) : Prop := ∃ W : Nat → Nat → St → Hp → Prop, (∃ m, W 0 m σ H1) ∧ ∀ i m σ H, W i m σ H →
  (J.stop i H ∧ D.nx σ H) ∨ (J.go i H ∧ ∃ N : St → Hp → Prop, (∀ σ' H', N σ' H' → ∃ m', m' < m ∧ W (i + 1) m' σ' H') ∧ ∀ x H', J.yld i H x H' → g x σ H' fun σ2 H2 => tb { D with nx := N, ct := N, bk := D.nx } σ2 H2)
theorem w_for {wi : TI} {g : TG} {tb : TS} {D : Ends} {σ : St} {H : Hp} (k : wi σ H fun J H1 => ForW J g tb D σ H1) : tFor wi g tb D σ H := k
section
variable {K : PySem.W.Frag} {σ : St} {H : Hp} {R : It → Hp → Prop}
theorem w_iStr {te : TE} (k : te σ H fun v H1 => ∃ x, v = .str x ∧ R (Its x) H1) : iStr te σ H R := k
theorem w_iList {te : TE} (k : te σ H fun x H1 => ∃ a, x = .ref a ∧ (∃ xs, SqL K H1 a xs) ∧ R (Itl K a) H1) : iList K te σ H R := k
theorem w_iTup {te : TE} (k : te σ H fun x H1 => ∃ a, x = .ref a ∧ (∃ xs, SqT K H1 a xs) ∧ R (Itt K a) H1) : iTup K te σ H R := k
theorem w_iRng1 {ta : TA} (k : ta σ H fun vs H1 => ∃ j : Int, vs = [.int j] ∧ -(2 ^ 62) ≤ j ∧ j < 2 ^ 62 ∧ R (Itr 0 j.toNat) H1) : iRng1 ta σ H R := k
theorem w_exl {a : Addr} {xs : List V} {P : Addr → Prop} (h : SqL K H a xs) (k : P a) : ∃ b, V.ref a = .ref b ∧ (∃ ys, SqL K H b ys) ∧ P b := ⟨a, rfl, ⟨xs, h⟩, k⟩
theorem w_ext {a : Addr} {xs : List V} {P : Addr → Prop} (h : SqT K H a xs) (k : P a) : ∃ b, V.ref a = .ref b ∧ (∃ ys, SqT K H b ys) ∧ P b := ⟨a, rfl, ⟨xs, h⟩, k⟩
theorem w_rng1 {j : Int} {P : Int → Prop} (h : 0 ≤ j ∧ j ≤ 1000000) (k : P j) : ∃ i : Int, [V.int j] = [.int i] ∧ -(2 ^ 62) ≤ i ∧ i < 2 ^ 62 ∧ P i := ⟨j, rfl, by omega, by omega, k⟩
end
theorem range_filterMap {α β : Type} (f : α → Option β) : ∀ (ds : List α), (List.range ds.length).filterMap (fun i => ds[i]?.bind f) = ds.filterMap f := by
  intro ds
  induction ds with
  | nil => rfl
  | cons d ds ih =>
    rw [List.length_cons, List.range_succ_eq_map, List.filterMap_cons, List.filterMap_cons, List.filterMap_map]
    have e : (List.range ds.length).filterMap ((fun i => (d :: ds)[i]?.bind f) ∘ Nat.succ) = ds.filterMap f := by
      rw [← ih]; rfl
    rw [e]
    rfl
theorem range_map {α β : Type} (f : α → β) (ds : List α) : (List.range ds.length).filterMap (fun i => ds[i]?.map f) = ds.map f := by
  have h := range_filterMap (fun a => some (f a)) ds
  rw [List.filterMap_eq_map'] at h
  rw [← h]
  congr 1
  funext i
  cases ds[i]? <;> rfl
section
variable {K : PySem.W.Frag} {J : It} {n : Nat} {G : Hp → Prop} {Y : Nat → Hp → V → Hp → Prop} {g : TG} {tt : TT} {te : TE} {vs : List Nat} {σ : St} {F H : Hp} {Q : VK}
/-- a comprehension that changes nothing that stood: el i is the i-th turn's datum, none where the test leaves it out -/
theorem comp_pure (w : Walk J n G Y) (s : Same F H) (hG : ∀ H', Same H H' → G H') (hz : n < sizeLine) (el : Nat → Option PyData)
    (hs : ∀ i x F1 H1 H1', i < n → Ext F H F1 H1 → Y i H1 x H1' → ∀ (N : V → Hp → Prop) (N0 : Hp → Prop),
      (∀ y d F4 H4, el i = some d → Ext F1 H1 F4 H4 → Is K F4 y d → N y H4) → (∀ F3 H3, el i = none → Ext F1 H1 F3 H3 → N0 H3) →
      g x (wipe σ vs) H1' fun σ2 H2 => wipe σ2 vs = wipe σ vs ∧ tt σ2 H2 fun b H3 => if b = true then te σ2 H3 N else N0 H3)
    (k : ∀ D ys F' H', H D = none → Ext F H F' H' → F' D = none → H' D = some (.lst ys) → IsAll K F' ys ((List.range n).filterMap el) → Q (.ref D) H') : LcW J g tt te vs σ H Q := by
  intro D hD
  have sh : ∀ {H' : Hp} {o : HO}, Same H H' → Same H (upd H' D o) := fun q => q.mut hD
  refine lc_it w (Pv := fun i H' => ∃ F1 ys, Ext F H F1 H' ∧ F1 D = none ∧ H' D = some (.lst ys) ∧ ys.length ≤ i ∧ IsAll K F1 ys ((List.range i).filterMap el)) ?_ ?_ ?_ ?_
  · exact ⟨F, [], ⟨Same.refl F, s.mut (s.free hD), sh (Same.refl H), fun _ _ h => h⟩, s.free hD, upd_same, Nat.le_refl _, .nil⟩
  · rintro i H' hi ⟨F1, ys, e, _⟩
    exact hG H' e.hh
  · rintro i x H1 H1' hi ⟨F1, ys, e, h1, h2, hl, h3⟩ y
    refine hs i x F1 H1 H1' hi e y _ _ (fun y d F4 H4 he e4 hI => ?_) fun F3 H3 he e3 => ?_
    · have hD1 : H1 D ≠ none := by rw [h2]; exact fun z => nomatch z
      have h4 : F4 D = none := e4.nw D hD1 h1
      refine ⟨ys, e4.hh _ _ h2, by omega, F4, ys ++ [y], ⟨e.ff.trans e4.ff, e4.fh.mut h4, sh (e.hh.trans e4.hh), fun b hb hf => e4.nw b (fun z => hb (e.hh.free z)) (e.nw b hb hf)⟩, h4, upd_same, by rw [List.length_append]; exact Nat.succ_le_succ hl, ?_⟩
      rw [List.range_succ, List.filterMap_append]
      refine (h3.mono e4.ff).append ?_
      rw [List.filterMap_cons, he]
      exact .one hI
    · have hD1 : H1 D ≠ none := by rw [h2]; exact fun z => nomatch z
      refine ⟨F3, ys, e.trans e3, e3.nw D hD1 h1, e3.hh _ _ h2, by omega, ?_⟩
      rw [List.range_succ, List.filterMap_append, List.filterMap_cons, he]
      show IsAll K F3 ys (_ ++ [])
      rw [List.append_nil]
      exact h3.mono e3.ff
  · rintro H' ⟨F1, ys, e, h1, h2, hl, h3⟩
    exact k D ys F1 H' hD e h1 h2 h3
end
section
variable {K : PySem.W.Frag} {H : Hp}
theorem IsAll.bools : ∀ {xs : List Bool} {vs : List V}, IsAll K H vs (xs.map PyData.bool) → vs = xs.map V.bl
  | [], _, .nil => rfl
  | _ :: _, _, .cons (.bl _) t => by rw [IsAll.bools t]; rfl
theorem IsAll.ints : ∀ {xs : List Int} {vs : List V}, IsAll K H vs (xs.map PyData.int) → vs = xs.map V.int
  | [], _, .nil => rfl
  | _ :: _, _, .cons (.int _) t => by rw [IsAll.ints t]; rfl
/-- all(a new list of truths) -/
theorem w_all {a : Addr} {bs : List Bool} {xs : List V} {Q : VK} (h : H a = some (.lst xs)) (e : xs = bs.map V.bl) (k : Q (.bl (bs.all id)) H) : rAll K [.ref a] H Q := ⟨a, bs, rfl, .of (by rw [h, e]), k⟩
end
/-- all([sign in Z for sign in x]) -/
def tAllS (te : TE) (Z : Str) : TE := fun σ H Q => te σ H fun v H1 => ∃ x, v = .str x ∧ x.length < sizeLine ∧ ∀ H', Same H1 H' → Q (.bl (x.cps.toList.all fun c => decide (c ∈ Z.cps.toList))) H'
theorem w_allS {te : TE} {Z : Str} {σ : St} {H : Hp} {Q : VK} (k : te σ H fun v H1 => ∃ x, v = .str x ∧ x.length < sizeLine ∧ ∀ H', Same H1 H' → Q (.bl (x.cps.toList.all fun c => decide (c ∈ Z.cps.toList))) H') : tAllS te Z σ H Q := k
theorem _root_.L2.PE.imp {X : Cx} {e : Expr} {t t' : TE} (p : PE X e t) (h : ∀ σ H Q, σ.length = X.N.length → t' σ H Q → t σ H Q) : PE X e t' := ⟨fun pins s σ H Q I q => p.run pins s σ H Q I (h σ H Q I.len q)⟩
theorem allS_imp {K : PySem.W.Frag} {i : Nat} {te : TE} {Z : Str} {σ : St} {H : Hp} {Q : VK} (hm : ∀ σ H Q Q', (∀ v H', Q v H' → Q' v H') → te σ H Q → te σ H Q') (hi : i < σ.length) (k : tAllS te Z σ H Q) :
    tCB (rAll K) (tCons (tLc (iStr te) (gName i) tYes (tOp (fun x y H Q => ∃ (c : Nat) (z : Str), x = .str ⟨#[c]⟩ ∧ y = .str z ∧ Q (.bl (decide (c ∈ z.cps.toList))) H) (tVar i) (tC (.str Z))) [i]) tNil) σ H Q := by
  refine w_cb (w_cons (w_lc (w_iStr (hm _ _ _ _ ?_ k))))
  rintro v H1 ⟨x, rfl, hz, k⟩
  refine w_exs ?_
  refine comp_pure (K := K) (F := H1) walk_str (Same.refl H1) (fun _ _ => trivial) hz (fun i => x.cps.toList[i]?.map fun c => .bool (decide (c ∈ Z.cps.toList))) ?_ ?_
  · rintro n y F1 H1 H1' hn e1 ⟨rfl, c, hc, rfl⟩ N N0 k1 k0
    refine w_gName ⟨?_, w_yes (w_ifT rfl (w_op (w_var (v := .str ⟨#[c]⟩) ?_ (w_c (w_insign ?_)))))⟩
    · show (((σ.set i none).set i (some (V.str ⟨#[c]⟩))).set i none) = σ.set i none
      rw [List.set_set, List.set_set]
    · show (((σ.set i none).set i (some (V.str ⟨#[c]⟩))))[i]? = _
      rw [List.getElem?_set_self (by rw [List.length_set]; exact hi)]
    exact k1 _ (.bool (decide (c ∈ Z.cps.toList))) F1 _ (by rw [Array.getElem?_toList, hc]; rfl) (Ext.refl e1.fh) (.bl _)
  · intro D ys F' H' hD eE hF hL hI
    refine w_nil ?_
    have hI' : IsAll K F' ys ((x.cps.toList.map fun c => decide (c ∈ Z.cps.toList)).map PyData.bool) := by
      rw [List.map_map]
      have := range_map (fun c => PyData.bool (decide (c ∈ Z.cps.toList))) x.cps.toList
      rw [Array.length_toList] at this
      rw [this] at hI; exact hI
    refine w_all hL hI'.bools ?_
    have := k H' eE.hh
    rw [List.all_map]
    exact this
theorem mono_var {i : Nat} : ∀ (σ : St) (H : Hp) (Q Q' : VK), (∀ v H', Q v H' → Q' v H') → tVar i σ H Q → tVar i σ H Q' := fun _ _ _ _ f ⟨v, h, q⟩ => ⟨v, h, f _ _ q⟩
theorem pe_allS {X : Cx} {K : PySem.W.Frag} {e : Expr} {i j : Nat} {Z : Str} (hi : i < X.N.length) (p : PE X e (tCB (rAll K) (tCons (tLc (iStr (tVar j)) (gName i) tYes (tOp (fun x y H Q => ∃ (c : Nat) (z : Str), x = .str ⟨#[c]⟩ ∧ y = .str z ∧ Q (.bl (decide (c ∈ z.cps.toList))) H) (tVar i) (tC (.str Z))) [i]) tNil))) :
    PE X e (tAllS (tVar j) Z) := p.imp fun σ H Q hl k => allS_imp mono_var (by rw [hl]; exact hi) k
def optI : Option Int → V
  | none => .non
  | some n => .int n
/-! ### texts within data are no longer than a line -/
mutual
def small : PyData → Prop
  | .str s => s.length ≤ sizeLine
  | .list ds => smallAll ds
  | .tuple ds => smallAll ds
  | .dict es => smallKv es
  | _ => True
def smallAll : List PyData → Prop
  | [] => True
  | d :: ds => small d ∧ smallAll ds
def smallKv : List (PyData × PyData) → Prop
  | [] => True
  | (k, d) :: es => small k ∧ small d ∧ smallKv es
end
theorem small.name {d : PyData} (h : small d) : ∀ s, d = .str s → s.length ≤ sizeLine := fun s e => by subst e; simpa [small] using h
theorem smallAll.get : ∀ {ds : List PyData} {i : Nat} {d : PyData}, smallAll ds → ds[i]? = some d → small d
  | [], _, _, _, h => by simp at h
  | _ :: _, 0, _, h, e => by simp at e; subst e; exact (by simpa [smallAll] using h : _ ∧ _).1
  | _ :: _, i + 1, _, h, e => smallAll.get (i := i) (by simpa [smallAll] using h : _ ∧ _).2 (by simpa using e)
theorem smallAll.of : ∀ {ds : List PyData}, (∀ d ∈ ds, small d) → smallAll ds
  | [], _ => by simp [smallAll]
  | d :: ds, h => by
    show small d ∧ smallAll ds
    exact ⟨h d List.mem_cons_self, smallAll.of fun e he => h e (List.mem_cons_of_mem _ he)⟩
/-! ### in a list of texts -/
theorem inV_strs (n : Str) : ∀ ns : List Str, inV (.str n) (ns.map V.str) = decide (n ∈ ns)
  | [] => by simp [inV]
  | m :: ns => by
    have ih := inV_strs n ns
    unfold inV at ih ⊢
    rw [List.map_cons, List.any_cons, ih]
    by_cases h : m = n
    · subst h
      have e : eqV (.str m) (.str m) = true := by unfold eqV; simp
      rw [e]; simp
    · have e : eqV (.str m) (.str n) = false := by unfold eqV; simp [h]
      rw [e, Bool.false_or]
      have : (n ∈ m :: ns) ↔ n ∈ ns := by simp [List.mem_cons, Ne.symm h]
      exact (decide_eq_decide.mpr this).symm
theorem flat_strs (ns : List Str) : (ns.map V.str).all flatV = true := by
  rw [List.all_eq_true]
  intro v hv
  obtain ⟨s, _, rfl⟩ := List.mem_map.mp hv
  rfl
section
variable {K : PySem.W.Frag} {H : Hp} {Q : VK}
theorem w_inStrs {p : Addr} {ns : List Str} {n : Str} (h : SqL K H p (ns.map V.str)) (k : Q (.bl (decide (n ∈ ns))) H) : rIn K false (.str n) (.ref p) H Q :=
  ⟨p, _, rfl, .inl h, rfl, flat_strs ns, by rw [inV_strs]; exact k⟩
theorem w_inStrsT {p : Addr} {ns : List Str} {n : Str} (h : SqT K H p (ns.map V.str)) (k : Q (.bl (decide (n ∈ ns))) H) : rIn K false (.str n) (.ref p) H Q :=
  ⟨p, _, rfl, .inr h, rfl, flat_strs ns, by rw [inV_strs]; exact k⟩
theorem w_notInStrs {p : Addr} {ns : List Str} {n : Str} (h : SqL K H p (ns.map V.str)) (k : Q (.bl (!decide (n ∈ ns))) H) : rIn K true (.str n) (.ref p) H Q :=
  ⟨p, _, rfl, .inl h, rfl, flat_strs ns, by rw [inV_strs]; exact k⟩
theorem w_notInStrsT {p : Addr} {ns : List Str} {n : Str} (h : SqT K H p (ns.map V.str)) (k : Q (.bl (!decide (n ∈ ns))) H) : rIn K true (.str n) (.ref p) H Q :=
  ⟨p, _, rfl, .inr h, rfl, flat_strs ns, by rw [inV_strs]; exact k⟩
/-- names: a list or a tuple of texts -/
def SeqS (K : PySem.W.Frag) (H : Hp) (p : Addr) (ns : List Str) : Prop := SqL K H p (ns.map V.str) ∨ SqT K H p (ns.map V.str)
theorem SeqS.mono {H' : Hp} {p : Addr} {ns : List Str} (s : Same H H') (h : SeqS K H p ns) : SeqS K H' p ns := h.imp (fun h => s.seq h) (fun h => s.tup h)
theorem w_inSeq {p : Addr} {ns : List Str} {n : Str} (h : SeqS K H p ns) (k : Q (.bl (decide (n ∈ ns))) H) : rIn K false (.str n) (.ref p) H Q := h.elim (fun h => w_inStrs h k) (fun h => w_inStrsT h k)
theorem w_notInSeq {p : Addr} {ns : List Str} {n : Str} (h : SeqS K H p ns) (k : Q (.bl (!decide (n ∈ ns))) H) : rIn K true (.str n) (.ref p) H Q := h.elim (fun h => w_notInStrs h k) (fun h => w_notInStrsT h k)
theorem w_lenSeq {p : Addr} {ns : List Str} (h : SeqS K H p ns) (k : Q (.int ns.length) H) : rLenSeq K [.ref p] H Q := ⟨p, _, rfl, h, by rw [List.length_map]; exact k⟩
theorem Is.seqS {v : V} {ns : List Str} (h : Is K H v (.list (ns.map .str)) ∨ Is K H v (.tuple (ns.map .str))) : ∃ p, v = .ref p ∧ SeqS K H p ns := by
  rcases h with h | h
  · obtain ⟨a, xs, rfl, h1, h2⟩ := h.list_inv
    rw [h2.strs] at h1; exact ⟨a, rfl, .inl h1⟩
  · obtain ⟨a, xs, rfl, h1, h2⟩ := h.tuple_inv
    rw [h2.strs] at h1; exact ⟨a, rfl, .inr h1⟩
end
section
variable {K : PySem.W.Frag} {σ : St} {H : Hp} {Q : VK} {D : Ends}
theorem _root_.L2.SqL.at' {K : PySem.W.Frag} {H H' : Hp} {a : Addr} {xs : List V} (h : SqL K H a xs) (e : ∀ o, H a = some o → H' a = some o) : SqL K H' a xs := by
  rcases h with (h | ⟨o, h⟩) | h
  · exact .inl (.inl (e _ h))
  · exact .inl (.inr ⟨o, e _ h⟩)
  · exact .inr h
theorem _root_.L2.SqT.at' {K : PySem.W.Frag} {H H' : Hp} {a : Addr} {xs : List V} (h : SqT K H a xs) (e : ∀ o, H a = some o → H' a = some o) : SqT K H' a xs := by
  rcases h with (h | ⟨o, h⟩) | h
  · exact .inl (.inl (e _ h))
  · exact .inl (.inr ⟨o, e _ h⟩)
  · exact .inr h
/-- names walked, a list or a tuple: what stands at p stays -/
theorem w_iSeqV {i : Nat} {p : Addr} {ns : List Str} {R : It → Hp → Prop} {F : Hp} (h : σ[i]? = some (some (.ref p))) (s : Same F H) (hp : SeqS K F p ns)
    (k : ∀ J, Walk J ns.length (fun H' => ∀ o, F p = some o → H' p = some o) (YAt (ns.map V.str)) → R J H) : iSeq K (tVar i) σ H R := by
  rcases hp with hp | hp
  · refine .inl (w_iList (w_var h (w_exl (s.seq hp) (k _ ?_))))
    have w := walk_list (K := K) (a := p) (xs := ns.map V.str)
    rw [List.length_map] at w
    exact w.mono (fun H' e => hp.at' e) fun _ _ _ _ _ _ y => y
  · refine .inr (w_iTup (w_var h (w_ext (s.tup hp) (k _ ?_))))
    have w := walk_tup (K := K) (a := p) (xs := ns.map V.str)
    rw [List.length_map] at w
    exact w.mono (fun H' e => hp.at' e) fun _ _ _ _ _ _ y => y
theorem yat_str {ns : List Str} {i : Nat} {H H' : Hp} {x : V} (y : YAt (ns.map V.str) i H x H') : H' = H ∧ ∃ n, ns[i]? = some n ∧ x = .str n := by
  obtain ⟨e, y⟩ := y
  rw [List.getElem?_map] at y
  cases hn : ns[i]? with
  | none => rw [hn] at y; cases y
  | some n => rw [hn] at y; exact ⟨e, n, rfl, (Option.some.inj y).symm⟩
theorem w_dput {td ty tv : TE} (k : tv σ H fun v H1 => td σ H1 fun x H2 => ty σ H2 fun y H3 => ∃ a H4, x = .ref a ∧ DPut H3 a y v H4 ∧ D.nx σ H4) : sDPut td ty tv D σ H := k
theorem w_dputS {a : Addr} {kvs : List (Key × V)} {n : Str} {v : V} {P : Hp → Prop} (h : H a = some (.dK kvs)) (hl : kvs.length < sizeLine) (k : P (upd H a (.dK (putK kvs (Sum.inr n) v)))) :
    ∃ a' H4, V.ref a = .ref a' ∧ DPut H a' (.str n) v H4 ∧ P H4 := ⟨a, _, rfl, DPut.k (k := Sum.inr n) h hl, k⟩
theorem w_dinS {a : Addr} {kvs : List (Key × V)} {n : Str} {P : Option V → Prop} (h : Rd H a (.dK kvs)) (k : P (valV kvs (Sum.inr n))) :
    ∃ a' o, V.ref a = .ref a' ∧ DGet H a' (.str n) o ∧ P o := ⟨a, _, rfl, .inl ⟨kvs, Sum.inr n, h, rfl, rfl⟩, k⟩
theorem w_dgetS {a : Addr} {kvs : List (Key × V)} {n : Str} {v : V} {P : V → Prop} (h : Rd H a (.dK kvs)) (e : valV kvs (Sum.inr n) = some v) (k : P v) :
    ∃ a' v', V.ref a = .ref a' ∧ DGet H a' (.str n) (some v') ∧ P v' := ⟨a, v, rfl, .inl ⟨kvs, Sum.inr n, h, rfl, e.symm⟩, k⟩
theorem nodup_get {α : Type} {ns : List α} (h : ns.Nodup) {i : Nat} {n : α} (e : ns[i]? = some n) : n ∉ ns.take i := by
  intro hm
  obtain ⟨j, hj, e2⟩ := List.mem_iff_getElem.mp hm
  rw [List.length_take] at hj
  rw [List.getElem_take] at e2
  have hi := (List.getElem?_eq_some_iff.mp e)
  obtain ⟨hi, e3⟩ := hi
  have := (List.getElem_inj h (h₀ := by omega) (h₁ := hi)).mp (e2.trans e3.symm)
  omega
theorem take_snoc {α : Type} {ns : List α} {i : Nat} {n : α} (e : ns[i]? = some n) : ns.take (i + 1) = ns.take i ++ [n] := by
  rw [List.take_add_one, e]; rfl
end
section
variable {K : PySem.W.Frag} {σ : St} {H F : Hp} {Q : VK} {D : Ends} {R : St → Hp → Prop}
theorem w_gTup2 {a : Addr} {x y : V} {i j n : Nat} (h : SqT K H a [x, y]) (k : R ((σ.set i (some x)).set j (some y)) H) (hn : n = 2 := by rfl) : gTup K n (gCons (gName i) (gCons (gName j) gNil)) (.ref a) σ H R :=
  ⟨a, _, rfl, h, hn.symm, x, _, rfl, y, _, rfl, rfl, k⟩
theorem w_gTup3 {a : Addr} {x y z : V} {i j l n : Nat} (h : SqT K H a [x, y, z]) (k : R (((σ.set i (some x)).set j (some y)).set l (some z)) H) (hn : n = 3 := by rfl) : gTup K n (gCons (gName i) (gCons (gName j) (gCons (gName l) gNil))) (.ref a) σ H R :=
  ⟨a, _, rfl, h, hn.symm, x, _, rfl, y, _, rfl, z, _, rfl, rfl, k⟩
/-- what a def hands back: a new list | some value, its parts in F' -/
def RetList (K : PySem.W.Frag) (F H : Hp) (ds : List PyData) (Q : VK) : Prop := ∀ p ys F' H', H p = none → Ext F H F' H' → F' p = none → H' p = some (.lst ys) → IsAll K F' ys ds → Q (.ref p) H'
def RetVal (K : PySem.W.Frag) (F H : Hp) (d : PyData) (Q : VK) : Prop := ∀ v F' H', Ext F H F' H' → Is K F' v d → Q v H'
/-- the pairs of texts and ints -/
def encE (p : Str × Int) : PyData := .tuple [.str p.1, .int p.2]
def encR (r : List (Str × Int)) : PyData := .list (r.map encE)
theorem Is.encE_inv {v : V} {p : Str × Int} (h : Is K H v (encE p)) : ∃ a, v = .ref a ∧ SqT K H a [.str p.1, .int p.2] := by
  obtain ⟨a, xs, rfl, h1, h2⟩ := h.tuple_inv
  cases h2 with
  | cons h0 t =>
    cases t with
    | cons h3 t2 =>
      cases t2
      rw [h0.str_inv, h3.int_inv] at h1
      exact ⟨a, rfl, h1⟩
theorem Is.mkE {a : Addr} {n : Str} {i : Int} (h : SqT K H a [.str n, .int i]) : Is K H (.ref a) (encE (n, i)) := .tup h (.cons (.str n) (.cons (.int i) .nil))
theorem IsAll.getE {vs : List V} {r : List (Str × Int)} {i : Nat} {v : V} (h : IsAll K H vs (r.map encE)) (e : vs[i]? = some v) : ∃ p a, r[i]? = some p ∧ v = .ref a ∧ SqT K H a [.str p.1, .int p.2] := by
  obtain ⟨d, h1, h2⟩ := h.get e
  rw [List.getElem?_map] at h1
  cases hp : r[i]? with
  | none => rw [hp] at h1; cases h1
  | some p =>
    rw [hp] at h1
    cases h1
    obtain ⟨a, rfl, ha⟩ := h2.encE_inv
    exact ⟨p, a, rfl, rfl, ha⟩
end
/-! ### one dict locked: all else stays -/
def But (a : Addr) (H H' : Hp) : Prop := ∀ b o, H b = some o → b ≠ a → H' b = some o
section
variable {K : PySem.W.Frag} {H H' : Hp} {a : Addr} {kvs : List (Key × V)}
theorem But.seq {b : Addr} {xs : List V} (s : But a H H') (ha : H a = some (.dK kvs)) (h : SqL K H b xs) : SqL K H' b xs := by
  rcases h with (h | ⟨o, h⟩) | h
  · exact .inl (.inl (s _ _ h fun z => by rw [z, ha] at h; cases h))
  · exact .inl (.inr ⟨o, s _ _ h fun z => by rw [z, ha] at h; cases h⟩)
  · exact .inr h
theorem But.tup {b : Addr} {xs : List V} (s : But a H H') (ha : H a = some (.dK kvs)) (h : SqT K H b xs) : SqT K H' b xs := by
  rcases h with (h | ⟨o, h⟩) | h
  · exact .inl (.inl (s _ _ h fun z => by rw [z, ha] at h; cases h))
  · exact .inl (.inr ⟨o, s _ _ h fun z => by rw [z, ha] at h; cases h⟩)
  · exact .inr h
mutual
theorem Is.but (s : But a H H') (ha : H a = some (.dK kvs)) : ∀ {v : V} {d : PyData}, Is K H v d → noDict d = true → Is K H' v d
  | _, _, .non, _ => .non
  | _, _, .bl b, _ => .bl b
  | _, _, .int i, _ => .int i
  | _, _, .str x, _ => .str x
  | _, _, .lst h q, e => .lst (s.seq ha h) (IsAll.but s ha q (by simpa [noDict] using e))
  | _, _, .tup h q, e => .tup (s.tup ha h) (IsAll.but s ha q (by simpa [noDict] using e))
  | _, _, .dct _ _, e => by simp [noDict] at e
theorem IsAll.but (s : But a H H') (ha : H a = some (.dK kvs)) : ∀ {vs : List V} {ds : List PyData}, IsAll K H vs ds → noDict.noDictAll ds = true → IsAll K H' vs ds
  | _, _, .nil, _ => .nil
  | _, _, .cons h t, e => by
    simp only [noDict.noDictAll, Bool.and_eq_true] at e
    exact .cons (Is.but s ha h e.1) (IsAll.but s ha t e.2)
end
theorem SeqS.but {p : Addr} {ns : List Str} (s : But a H H') (ha : H a = some (.dK kvs)) (h : SeqS K H p ns) : SeqS K H' p ns := h.imp (fun h => s.seq ha h) (fun h => s.tup ha h)
theorem But.trans {H2 : Hp} (s : But a H H') (t : Same H' H2) : But a H H2 := fun b o e n => t b o (s b o e n)
theorem But.lock {o : Obj} : But a H (upd H a (.frz o (.dK kvs))) := fun b o e n => by rw [upd_ne n]; exact e
theorem But.unlock (s : But a H H') (ha : H a = some (.dK kvs)) : Same H (upd H' a (.dK kvs)) := fun b o e => by
  by_cases q : b = a
  · subst q; rw [upd_same, ← ha]; exact e
  · rw [upd_ne q]; exact s b o e q
theorem noDict_all {ds : List PyData} (h : ∀ d ∈ ds, noDict d = true) : noDict.noDictAll ds = true := by
  induction ds with
  | nil => rfl
  | cons d ds ih =>
    simp only [noDict.noDictAll, Bool.and_eq_true]
    exact ⟨h d List.mem_cons_self, ih fun e he => h e (List.mem_cons_of_mem _ he)⟩
theorem noDict_encR (r : List (Str × Int)) : noDict (encR r) = true := by
  show noDict.noDictAll (r.map encE) = true
  refine noDict_all fun d hd => ?_
  obtain ⟨p, _, rfl⟩ := List.mem_map.mp hd
  rfl
theorem noDict_strs (ns : List Str) : noDict.noDictAll (ns.map PyData.str) = true := noDict_all fun d hd => by
  obtain ⟨p, _, rfl⟩ := List.mem_map.mp hd
  rfl
theorem NamesAt'.but {v : V} {ns : List Str} (s : But a H H') (ha : H a = some (.dK kvs)) (h : Is K H v (.list (ns.map .str)) ∨ Is K H v (.tuple (ns.map .str))) : Is K H' v (.list (ns.map .str)) ∨ Is K H' v (.tuple (ns.map .str)) :=
  h.imp (fun h => h.but s ha (noDict_strs ns)) (fun h => h.but s ha (noDict_strs ns))
theorem w_lock {t : TS} {D : Ends} {σ : St} {d : Addr} {u : HO} (h : H d = some u) (m : Mut (some u))
    (k : ∀ od, t ⟨fun σ' H' => H' d = some (.frz od u) ∧ D.nx σ' (upd H' d u), fun v H' => H' d = some (.frz od u) ∧ D.rt v (upd H' d u), fun σ' H' => H' d = some (.frz od u) ∧ D.bk σ' (upd H' d u), fun σ' H' => H' d = some (.frz od u) ∧ D.ct σ' (upd H' d u)⟩ σ (upd H d (.frz od u))) : tLock t D σ H := ⟨d, u, h, m, k⟩
theorem w_iItems {te : TE} {σ : St} {R : It → Hp → Prop} (k : te σ H fun x H1 => ∃ d o kvs, x = .ref d ∧ H1 d = some (.frz o (.dK kvs)) ∧ R (Iti d o kvs) H1) : iItems te σ H R := k
theorem w_iVals {te : TE} {σ : St} {R : It → Hp → Prop} (k : te σ H fun x H1 => ∃ d o kvs, x = .ref d ∧ H1 d = some (.frz o (.dK kvs)) ∧ R (Itd d o kvs) H1) : iVals te σ H R := k
theorem w_exfz {d : Addr} {o : Obj} {P : Addr → Obj → List (Key × V) → Prop} (h : H d = some (.frz o (.dK kvs))) (k : P d o kvs) : ∃ d' o' kvs', V.ref d = .ref d' ∧ H d' = some (.frz o' (.dK kvs')) ∧ P d' o' kvs' := ⟨d, o, kvs, rfl, h, k⟩
end
theorem yitems {kvs : List (Key × V)} {i : Nat} {H H' : Hp} {v : V} (y : YPair (fun i => kvs[i]?.map fun kv => kV kv.1) (fun i => kvs[i]?.map Prod.snd) i H v H') :
    ∃ T k w, kvs[i]? = some (k, w) ∧ v = .ref T ∧ H T = none ∧ H' = upd H T (.tup [kV k, w]) := by
  obtain ⟨T, x, z, e1, e2, e3, e4, e5⟩ := y
  cases h : kvs[i]? with
  | none => have e4' : Option.map (fun kv : Key × V => kV kv.1) kvs[i]? = some x := e4
            rw [h] at e4'; cases e4'
  | some kv =>
    have e4' : Option.map (fun kv : Key × V => kV kv.1) kvs[i]? = some x := e4
    have e5' : Option.map Prod.snd kvs[i]? = some z := e5
    rw [h] at e4' e5'
    cases e4'; cases e5'
    exact ⟨T, kv.1, kv.2, rfl, e1, e2, e3⟩
/-! ### a row as a dict -/
def look {α : Type} (r : List (Str × α)) (n : Str) : Option α := (r.find? fun p => decide (p.1 = n)).map (·.2)
def kvR (r : List (Str × Int)) : List (Key × V) := r.map fun p => (Sum.inr p.1, V.int p.2)
theorem mergeK_app : ∀ (more kvs : List (Key × V)), ((kvs ++ more).map (·.1)).Nodup → mergeK kvs more = kvs ++ more
  | [], kvs, _ => by show kvs = kvs ++ []; rw [List.append_nil]
  | p :: more, kvs, h => by
    have e : valV kvs p.1 = none := by
      cases hv : valV kvs p.1 with
      | none => rfl
      | some v =>
        exfalso
        obtain ⟨q, hq, e⟩ := Option.map_eq_some_iff.mp hv
        have h1 := List.find?_some hq
        have h2 := List.mem_of_find?_eq_some hq
        have h3 : q.1 = p.1 := of_decide_eq_true h1
        rw [List.map_append, List.nodup_append] at h
        exact h.2.2 q.1 (List.mem_map_of_mem h2) p.1 (by rw [List.map_cons]; exact List.mem_cons_self) h3
    have h' : ((kvs ++ [p] ++ more).map (·.1)).Nodup := by rw [List.append_assoc]; exact h
    show mergeK (putK kvs p.1 p.2) more = _
    rw [putK_new _ e, mergeK_app more _ h', List.append_assoc]; rfl
theorem kvR_nd {r : List (Str × Int)} (h : (r.map (·.1)).Nodup) : mergeK [] (kvR r) = kvR r := by
  refine mergeK_app _ _ ?_
  rw [List.nil_append]
  unfold kvR
  rw [List.map_map]
  have : (r.map ((fun x : Key × V => x.1) ∘ fun p : Str × Int => ((Sum.inr p.1 : Key), V.int p.2))) = (r.map (·.1)).map Sum.inr := by rw [List.map_map]; rfl
  rw [this]
  exact h.map (f := Sum.inr) (fun a b hab e => hab (Sum.inr.inj e))
theorem valV_inr {α : Type} (f : α → V) (n : Str) : ∀ (r : List (Str × α)), valV (r.map fun p => ((Sum.inr p.1 : Key), f p.2)) (Sum.inr n) = (look r n).map f
  | [] => rfl
  | p :: r => by
    by_cases h : p.1 = n
    · have e : valV (((Sum.inr p.1 : Key), f p.2) :: r.map fun p => ((Sum.inr p.1 : Key), f p.2)) (Sum.inr n) = some (f p.2) := valV_pos (by rw [h])
      rw [List.map_cons, e]; unfold look; rw [List.find?_cons, decide_eq_true h]; rfl
    · have e : valV (((Sum.inr p.1 : Key), f p.2) :: r.map fun p => ((Sum.inr p.1 : Key), f p.2)) (Sum.inr n) = valV (r.map fun p => ((Sum.inr p.1 : Key), f p.2)) (Sum.inr n) := valV_neg (fun z => h (Sum.inr.inj z))
      rw [List.map_cons, e, valV_inr f n r]; unfold look; rw [List.find?_cons, decide_eq_false h]
theorem IsAll.pairs {K : PySem.W.Frag} {H : Hp} : ∀ {xs : List V} {r : List (Str × Int)}, IsAll K H xs (r.map encE) → ∃ ps : List Addr, xs = ps.map V.ref ∧ Paired (fun p (kv : Key × V) => SqT K H p [kV kv.1, kv.2]) ps (kvR r)
  | _, [], .nil => ⟨[], rfl, .nil⟩
  | _, p :: r, .cons h t => by
    obtain ⟨a, rfl, ha⟩ := h.encE_inv
    obtain ⟨ps, rfl, hp⟩ := IsAll.pairs t
    exact ⟨a :: ps, rfl, .cons ha hp⟩
def inOrder (ns : List Str) (r : List (Str × Int)) : List (Str × Int) := ns.filterMap fun n => (look r n).map fun i => (n, i)
/-! ### xs[::2], xs[1::2] -/
def pickV (xs : List V) (lo st : Option Int) : List V := (sliceRange (sliceBounds lo none st xs.length).1 (sliceBounds lo none st xs.length).2.1 (sliceBounds lo none st xs.length).2.2).filterMap (xs[·]?)
theorem vals_pick {xs : List V} {us : List Value} (r : Vals xs us) : ∀ L : List Nat, Vals (L.filterMap (xs[·]?)) (L.filterMap (us[·]?))
  | [] => .nil
  | i :: L => by
    rw [List.filterMap_cons, List.filterMap_cons]
    cases h : xs[i]? with
    | none => rw [r.none_of h]; exact vals_pick r L
    | some x =>
      obtain ⟨u, h1, h2⟩ := r.get h
      rw [h1]
      exact .cons h2 (vals_pick r L)
theorem pick_len {α : Type} (xs : List α) : ∀ L : List Nat, (L.filterMap (xs[·]?)).length ≤ L.length := fun L => List.length_filterMap_le _ _
section
open PySem.Spec PyProof.Rows
variable {X : Cx}
def tPickV (K : PySem.W.Frag) (te : TE) (lo st : Option Int) : TE := fun σ H Q => te σ H fun x H1 => ∃ a xs, x = .ref a ∧ SqL K H1 a xs ∧ (pickV xs lo st).length ≤ sizeLine ∧ ∀ p, H1 p = none → Q (.ref p) (upd H1 p (.lst (pickV xs lo st)))
theorem pe_pick {e : Expr} {te : TE} {plo : Option Expr} {tlo : TO} {lo : Option Int} {k : Nat} {st : Int} {p1 p3 pos : Pos} (he : PE X e te) (hlo : PO X plo tlo) (hl : ∀ (σ : L2.St) (H : Hp), tlo σ H fun o H' => o = lo ∧ H' = H) (h0 : st ≠ 0)
    (hops : ∀ (s : Shared) (a b : Addr), subscripted (.Slice plo none (some (.Constant (.int st) k p1)) p3) false (.ref a) (.ref b) = operate [.ref a, .ref b] (getItem (.ref a) (.ref b)) := by intros; with_unfolding_all rfl) :
    PE X (.Subscript e (.Slice plo none (some (.Constant (.int st) k p1)) p3) pos) (tPickV X.K te lo (some st)) := by
  refine ⟨fun pins s σ H Q I h => ?_⟩
  refine Subscript_ (thn (he.run pins s σ H _ I h) fun v s1 ⟨x, H1, I1, r1, q1⟩ => ?_)
  obtain ⟨a, xs, ex, hx, hzz, q⟩ := q1
  subst ex
  cases r1
  have hst : PO X (some (.Constant (.int st) k p1)) (tPart (tC (.int st))) := po_some pe_int
  refine wpAny_Slice (thn (hlo.run pins s1 σ H1 (fun o H2 => o = lo ∧ H2 = H1) I1 (hl σ H1)) fun vl s2 ⟨l, H2, I2, pl, el, e2⟩ => ?_)
  subst el e2
  refine thn (po_none.run pins s2 σ H2 (fun o H3 => o = none ∧ H3 = H2) I2 ⟨rfl, rfl⟩) fun vu s3 ⟨u, H3, I3, pu, eu, e3⟩ => ?_
  subst eu e3
  refine thn (hst.run pins s3 σ H3 (fun o H4 => o = some st ∧ H4 = H3) I3 ⟨st, rfl, rfl, rfl⟩) fun vs s4 ⟨o, H4, I4, ps, eo, e4⟩ => ?_
  subst eo e4
  have I5 : Inv X pins σ H4 { s4 with heap := s4.heap.push { cls := .type "slice", data := .fields #[vl, vu, vs] } } := I4.kept (t' := s4.toks) fun b ob q => Heap.get?_push_of_some _ q
  obtain ⟨its, r, ht, hz⟩ := I5.list hx
  have hlen := r.length
  show wpAny (model X.prog X.w) X.A (subscriptTail e (.Slice plo none (some (.Constant (.int st) k p1)) p3) (.ref a) (.ref s4.heap.objs.size)) (EP X pins σ Q) X.xe { s4 with heap := s4.heap.push { cls := .type "slice", data := .fields #[vl, vu, vs] } }
  refine tail_any (ops := [.ref a, .ref s4.heap.objs.size]) ht.isList.typeIs (PySem.slot_list_getitem.lookup) ?_ (hops s4 _ _)
  refine wpAny_getItem_list_slice ht.isList (Heap.IsSliceOf.new _ vl vu vs) pl pu ps (fun z => h0 (Option.some.inj z)) ?_ (by rw [List.size_toArray]; omega)
  have e5 : slicePick its.toArray l none (some st) = (List.filterMap (its[·]?) (sliceRange (sliceBounds l none (some st) xs.length).1 (sliceBounds l none (some st) xs.length).2.1 (sliceBounds l none (some st) xs.length).2.2)).toArray := by
    unfold slicePick
    rw [List.size_toArray, ← hlen]
    simp only [List.getElem?_toArray]
  rw [e5]
  refine ⟨.ref _, _, I5.laid (t' := s4.toks) (o := .lst (pickV xs l (some st))) (fun b ob q => Heap.get?_push_of_some _ q) (Nat.le_refl _) ?_, rfl, q _ (I5.hok.fresh (Nat.le_refl _))⟩
  exact ⟨hzz, _, 0, vals_pick r _, Heap.get?_push_size _ rfl⟩
theorem pe_evenK {K : PySem.W.Frag} {e : Expr} {te : TE} {k : Nat} {p1 p3 pos : Pos} (hK : X.K = K) (he : PE X e te) : PE X (.Subscript e (.Slice none none (some (.Constant (.int 2) k p1)) p3) pos) (tPickV K te none (some 2)) := by
  subst hK; exact pe_pick he po_none (fun _ _ => ⟨rfl, rfl⟩) (by decide)
theorem pe_oddK {K : PySem.W.Frag} {e : Expr} {te : TE} {k k2 : Nat} {p0 p1 p3 pos : Pos} (hK : X.K = K) (he : PE X e te) : PE X (.Subscript e (.Slice (some (.Constant (.int 1) k2 p0)) none (some (.Constant (.int 2) k p1)) p3) pos) (tPickV K te (some 1) (some 2)) := by
  subst hK; exact pe_pick he (po_some pe_int) (fun _ _ => ⟨1, rfl, rfl, rfl⟩) (by decide)
end
theorem w_pick {K : PySem.W.Frag} {te : TE} {lo st : Option Int} {σ : St} {H : Hp} {Q : VK} (k : te σ H fun x H1 => ∃ a xs, x = .ref a ∧ SqL K H1 a xs ∧ (pickV xs lo st).length ≤ sizeLine ∧ ∀ p, H1 p = none → Q (.ref p) (upd H1 p (.lst (pickV xs lo st)))) : tPickV K te lo st σ H Q := k
def evens {α : Type} : List α → List α
  | x :: _ :: t => x :: evens t
  | [x] => [x]
  | [] => []
def odds {α : Type} : List α → List α
  | _ :: y :: t => y :: odds t
  | _ => []
theorem pick_even {α : Type} : ∀ (xs : List α), ((List.range ((xs.length + 1) / 2)).map fun k => 2 * k).filterMap (xs[·]?) = evens xs
  | [] => by simp [evens]
  | [x] => by simp [evens, List.range_succ]
  | x :: y :: t => by
    have e : ((x :: y :: t).length + 1) / 2 = (t.length + 1) / 2 + 1 := by simp only [List.length_cons]; omega
    have ih := pick_even t
    rw [e, List.range_succ_eq_map, List.map_cons, List.filterMap_cons, List.map_map]
    show x :: _ = x :: evens t
    rw [← ih, List.filterMap_map, List.filterMap_map]
    rfl
theorem pick_odd {α : Type} : ∀ (xs : List α), ((List.range (xs.length / 2)).map fun k => 1 + 2 * k).filterMap (xs[·]?) = odds xs
  | [] => by simp [odds]
  | [x] => by simp [odds]
  | x :: y :: t => by
    have e : (x :: y :: t).length / 2 = t.length / 2 + 1 := by simp only [List.length_cons]; omega
    have ih := pick_odd t
    rw [e, List.range_succ_eq_map, List.map_cons, List.filterMap_cons, List.map_map]
    show y :: _ = y :: odds t
    rw [← ih, List.filterMap_map, List.filterMap_map]
    refine congrArg (y :: ·) (congrArg (fun f => List.filterMap f (List.range (t.length / 2))) (funext fun k => ?_))
    show (x :: y :: t)[1 + 2 * (k + 1)]? = t[1 + 2 * k]?
    rw [show 1 + 2 * (k + 1) = (1 + 2 * k) + 1 + 1 by omega]
    rfl
theorem pickV_even (xs : List V) : pickV xs none (some 2) = evens xs := by
  rw [← pick_even]
  unfold pickV
  have e : sliceBounds none none (some 2) xs.length = (0, (xs.length : Int), 2) := rfl
  rw [e]
  show (sliceRange 0 (xs.length : Int) 2).filterMap _ = _
  congr 1
  unfold sliceRange
  have e2 : (if (2 : Int) > 0 then if (0 : Int) < (xs.length : Int) then ((xs.length : Int) - 0 + 2 - 1) / 2 else 0 else if (0 : Int) > (xs.length : Int) then (0 - (xs.length : Int) - 2 - 1) / -2 else 0).toNat = (xs.length + 1) / 2 := by
    rw [if_pos (by decide)]
    split <;> omega
  simp only [e2]
  refine List.map_congr_left fun k _ => ?_
  omega
theorem pickV_odd (xs : List V) : pickV xs (some 1) (some 2) = odds xs := by
  rw [← pick_odd]
  unfold pickV
  have e : sliceBounds (some 1) none (some 2) xs.length = (max 0 (min 1 (xs.length : Int)), (xs.length : Int), 2) := rfl
  rw [e]
  show (sliceRange (max 0 (min 1 (xs.length : Int))) (xs.length : Int) 2).filterMap _ = _
  by_cases h : xs.length = 0
  · have : xs = [] := List.length_eq_zero_iff.mp h
    subst this; rfl
  · rw [show max 0 (min 1 (xs.length : Int)) = 1 by omega]
    congr 1
    unfold sliceRange
    have e2 : (if (2 : Int) > 0 then if (1 : Int) < (xs.length : Int) then ((xs.length : Int) - 1 + 2 - 1) / 2 else 0 else if (1 : Int) > (xs.length : Int) then (1 - (xs.length : Int) - 2 - 1) / -2 else 0).toNat = xs.length / 2 := by
      rw [if_pos (by decide)]
      split <;> omega
    simp only [e2]
    refine List.map_congr_left fun k _ => ?_
    omega
theorem evens_map {α β : Type} (f : α → β) : ∀ xs : List α, evens (xs.map f) = (evens xs).map f
  | [] => rfl
  | [_] => rfl
  | _ :: _ :: t => congrArg _ (evens_map f t)
theorem odds_map {α β : Type} (f : α → β) : ∀ xs : List α, odds (xs.map f) = (odds xs).map f
  | [] => rfl
  | [_] => rfl
  | _ :: _ :: t => congrArg _ (odds_map f t)
theorem evens_len {α : Type} : ∀ xs : List α, (evens xs).length = (xs.length + 1) / 2
  | [] => by simp [evens]
  | [x] => by simp [evens]
  | x :: y :: t => by
    show (evens t).length + 1 = ((t.length + 1 + 1) + 1) / 2
    rw [evens_len t]; omega
theorem odds_len {α : Type} : ∀ xs : List α, (odds xs).length = xs.length / 2
  | [] => by simp [odds]
  | [x] => by simp [odds]
  | x :: y :: t => by
    show (odds t).length + 1 = (t.length + 1 + 1) / 2
    rw [odds_len t]; omega
/-! ### slices of lists -/
theorem cutV_from (xs : List V) {i : Int} (h : 0 ≤ i) : cutV xs (some i) none = xs.drop i.toNat := by
  obtain ⟨n, rfl⟩ := Int.eq_ofNat_of_zero_le h
  unfold cutV
  rw [HT.sIx_none, HT.sIx_nat, Int.toNat_natCast]
  by_cases hn : n ≤ xs.length
  · rw [Nat.min_eq_left hn, List.take_of_length_le (by rw [List.length_drop]; omega)]
  · rw [Nat.min_eq_right (by omega), List.drop_eq_nil_of_le (Nat.le_refl _), List.drop_eq_nil_of_le (by omega), List.take_nil]
theorem cutV_to (xs : List V) {i : Int} (h : 0 ≤ i) : cutV xs none (some i) = xs.take i.toNat := by
  obtain ⟨n, rfl⟩ := Int.eq_ofNat_of_zero_le h
  unfold cutV
  rw [HT.sIx_none, HT.sIx_nat, Int.toNat_natCast, List.drop_zero, Nat.sub_zero]
  by_cases hn : n ≤ xs.length
  · rw [Nat.min_eq_left hn]
  · rw [Nat.min_eq_right (by omega), List.take_of_length_le (Nat.le_refl _), List.take_of_length_le (by omega)]
/-! ### f-strings -/
section
variable {σ : St} {H : Hp} {Q : Str → Hp → Prop}
theorem w_jsN {acc : Str} (k : Q acc H) : tJs [] acc σ H Q := k
theorem w_jsC {t : TE} {ts : List TE} {acc : Str} (k : t σ H fun x H1 => ∃ y : Str, x = .str y ∧ (acc ++ y).length ≤ sizeLine ∧ tJs ts (acc ++ y) σ H1 Q) : tJs (t :: ts) acc σ H Q := k
theorem w_fmt {te : TE} {Q : VK} (k : te σ H fun x H1 => (∃ y : Str, x = .str y ∧ y.length ≤ sizeLine ∧ Q (.str y) H1) ∨ ∃ i : Int, x = .int i ∧ i.natAbs.log2 < 1920 ∧ Q (.str (toString i)) H1) : tFmt te σ H Q := k
theorem w_fmtS {y : Str} {P : Str → Prop} {R : Int → Prop} (h : y.length ≤ sizeLine) (k : P y) : (∃ z : Str, V.str y = .str z ∧ z.length ≤ sizeLine ∧ P z) ∨ ∃ i : Int, V.str y = .int i ∧ R i := .inl ⟨y, rfl, h, k⟩
theorem w_fmtI {i : Int} {P : Str → Prop} {R : Int → Prop} (h : i.natAbs.log2 < 1920) (k : R i) : (∃ z : Str, V.int i = .str z ∧ P z) ∨ ∃ j : Int, V.int i = .int j ∧ j.natAbs.log2 < 1920 ∧ R j := .inr ⟨i, rfl, h, k⟩
theorem log2_of {i : Int} {n : Nat} (h : i.natAbs < 2 ^ n) (hn : n ≤ 1920) (h0 : 0 < n) : i.natAbs.log2 < 1920 := by
  by_cases hz : i.natAbs = 0
  · rw [hz]; decide
  · exact Nat.lt_of_lt_of_le ((Nat.log2_lt hz).mpr h) hn
theorem w_tyS {K : PySem.W.Frag} {x : Str} {P : Prop} (k : P) : tyV K "str" (.str x) H ∧ P := ⟨rfl, k⟩
/-- two lists at hand joined into a new one -/
theorem w_cat {l b : Addr} {xs zs : List V} {Q : VK} (h1 : H l = some (.lst xs)) (h2 : H b = some (.lst zs)) (h3 : xs.length + zs.length ≤ sizeLine) (k : ∀ p, H p = none → Q (.ref p) (upd H p (.lst (xs ++ zs)))) : rCat (.ref l) (.ref b) H Q := ⟨l, b, xs, zs, rfl, rfl, h1, h2, h3, k⟩
theorem w_join {K : PySem.W.Frag} {a : Str} {p : Addr} {ys : List Str} {Q : VK} (h : SqL K H p (ys.map V.str)) (z : (ys.map (·.length)).sum + ys.length * a.length ≤ 16777216) (k : Q (.str (Txt.join a ys)) H) : rJoin K (.str a) [.ref p] H Q := ⟨a, p, ys, rfl, rfl, .inl h, z, k⟩
theorem sum_le {α : Type} {f : α → Nat} {c : Nat} : ∀ {l : List α}, (∀ x ∈ l, f x ≤ c) → (l.map f).sum ≤ l.length * c
  | [], _ => by simp
  | x :: l, h => by
    rw [List.map_cons, List.sum_cons, List.length_cons, Nat.succ_mul]
    have := sum_le (l := l) fun y hy => h y (List.mem_cons_of_mem _ hy)
    have := h x List.mem_cons_self
    omega
end
/-! ### the first place of a text in a list -/
def idx (ns : List Str) (n : Str) : Nat := ns.findIdx fun m => decide (m = n)
def after (ns : List Str) (n : Str) : List Str := ns.drop (idx ns n + 1)
theorem idx_lt {ns : List Str} {n : Str} (h : n ∈ ns) : idx ns n < ns.length := List.findIdx_lt_length_of_exists ⟨n, h, decide_eq_true rfl⟩
theorem idx_get {ns : List Str} {n : Str} (h : n ∈ ns) : ns[idx ns n]? = some n := by
  have hl := idx_lt h
  rw [List.getElem?_eq_getElem hl]
  have := List.findIdx_getElem (p := fun m => decide (m = n)) (xs := ns) (w := hl)
  exact congrArg some (of_decide_eq_true (p := ns[idx ns n] = n) this)
theorem idx_before {ns : List Str} {n : Str} {j : Nat} (h : j < idx ns n) : ns[j]? ≠ some n := by
  intro e
  have hj : j < ns.length := (List.getElem?_eq_some_iff.mp e).1
  have := List.not_of_lt_findIdx (p := fun m => decide (m = n)) (xs := ns) h
  have e2 := (List.getElem?_eq_some_iff.mp e).2
  rw [e2] at this
  simp at this
section
variable {K : PySem.W.Frag} {H : Hp} {Q : VK}
theorem w_nonEq {P : Prop} (k : P) : V.non = V.non ∧ P := ⟨rfl, k⟩
theorem w_index {p : Addr} {ns : List Str} {n : Str} (h : SqL K H p (ns.map V.str)) (hm : n ∈ ns) (k : Q (.int ((idx ns n : Nat) : Int)) H) : rIndex K (.ref p) [.str n] H Q := by
  refine ⟨p, _, .str n, idx ns n, .str n, rfl, rfl, h, rfl, flat_strs ns, by rw [List.getElem?_map, idx_get hm]; rfl, by unfold eqV; simp, fun m z hz e => ?_, k⟩
  rw [List.getElem?_map] at e
  cases hx : ns[m]? with
  | none => rw [hx] at e; cases e
  | some x =>
    rw [hx] at e
    cases e
    have hne : x ≠ n := fun q => idx_before hz (by rw [hx, q])
    show eqV (.str x) (.str n) = false
    unfold eqV; simp [hne]
theorem w_slFrom {p : Addr} {xs : List V} {i : Int} (h : SqL K H p xs) (h0 : 0 ≤ i) (k : ∀ q, H q = none → Q (.ref q) (upd H q (.lst (xs.drop i.toNat)))) : rSlL K (.ref p) (some i) none H Q :=
  ⟨p, xs, rfl, h, fun q hq => by rw [cutV_from xs h0]; exact k q hq⟩
theorem w_slTo {p : Addr} {xs : List V} {i : Int} (h : SqL K H p xs) (h0 : 0 ≤ i) (k : ∀ q, H q = none → Q (.ref q) (upd H q (.lst (xs.take i.toNat)))) : rSlL K (.ref p) none (some i) H Q :=
  ⟨p, xs, rfl, h, fun q hq => by rw [cutV_to xs h0]; exact k q hq⟩
theorem w_listOf {p : Addr} {ns : List Str} (h : SeqS K H p ns) (k : ∀ l, H l = none → Q (.ref l) (upd H l (.lst (ns.map V.str)))) : rListOf K [.ref p] H Q := ⟨p, _, rfl, h, k⟩
theorem w_iZip {ta : TA} {σ : St} {R : It → Hp → Prop} (k : ta σ H fun vs H1 => ∃ a b xs ys, vs = [.ref a, .ref b] ∧ SqL K H1 a xs ∧ SqL K H1 b ys ∧ R (Itz K a b) H1) : iZip K ta σ H R := k
theorem w_exz {a b : Addr} {xs ys : List V} {P : Addr → Addr → Prop} (h1 : SqL K H a xs) (h2 : SqL K H b ys) (k : P a b) : ∃ a' b' xs' ys', [V.ref a, V.ref b] = [.ref a', .ref b'] ∧ SqL K H a' xs' ∧ SqL K H b' ys' ∧ P a' b' := ⟨a, b, xs, ys, rfl, h1, h2, k⟩
end
theorem ypair {xs ys : List V} {i : Nat} {H H' : Hp} {v : V} (y : YPair (fun i => xs[i]?) (fun i => ys[i]?) i H v H') :
    ∃ T x y, v = .ref T ∧ H T = none ∧ H' = upd H T (.tup [x, y]) ∧ xs[i]? = some x ∧ ys[i]? = some y := y
/-! ### texts cut at a sign -/
theorem spl_len (S : List Nat) : ∀ (l : List Nat) (k : Nat) (acc : List Nat), (TL.spl S k acc l).length ≤ l.length + 1
  | [], k, acc => by rw [TL.spl_nil]; simp
  | c :: r, 0, acc => by
    show (if TL.pre S (c :: r) = true then acc :: TL.spl S (S.length - 1) [] r else TL.spl S 0 (acc ++ [c]) r).length ≤ _
    split
    · have := spl_len S r (S.length - 1) []; simp only [List.length_cons]; omega
    · have := spl_len S r 0 (acc ++ [c]); simp only [List.length_cons]; omega
  | c :: r, k + 1, acc => by
    show (TL.spl S k acc r).length ≤ _
    have := spl_len S r k acc; simp only [List.length_cons]; omega
theorem spl_mem (S : List Nat) : ∀ (l : List Nat) (k : Nat) (acc x : List Nat), x ∈ TL.spl S k acc l → x.length ≤ acc.length + l.length
  | [], k, acc, x, h => by rw [TL.spl_nil] at h; rw [List.mem_singleton.mp h]; simp
  | c :: r, 0, acc, x, h => by
    have h' : x ∈ (if TL.pre S (c :: r) = true then acc :: TL.spl S (S.length - 1) [] r else TL.spl S 0 (acc ++ [c]) r) := h
    split at h'
    · rcases List.mem_cons.mp h' with rfl | h'
      · omega
      · have := spl_mem S r (S.length - 1) [] x h'; simp only [List.length_cons, List.length_nil] at *; omega
    · have := spl_mem S r 0 (acc ++ [c]) x h'; simp only [List.length_cons, List.length_append, List.length_nil] at *; omega
  | c :: r, k + 1, acc, x, h => by
    have h' : x ∈ TL.spl S k acc r := h
    have := spl_mem S r k acc x h'; simp only [List.length_cons]; omega
theorem spl_ne (S : List Nat) : ∀ (l : List Nat) (k : Nat) (acc : List Nat), TL.spl S k acc l ≠ []
  | [], k, acc => by rw [TL.spl_nil]; simp
  | c :: r, 0, acc => by
    show (if TL.pre S (c :: r) = true then acc :: TL.spl S (S.length - 1) [] r else TL.spl S 0 (acc ++ [c]) r) ≠ []
    split
    · simp
    · exact spl_ne S r 0 _
  | c :: r, k + 1, acc => by show TL.spl S k acc r ≠ []; exact spl_ne S r k acc
section
variable {x y : Str} (hy : TL.tl y ≠ []) (hk : y.cps.all (· < 256) = true)
include hy hk
theorem split_len : (Txt.split x y).length ≤ x.length + 1 := by
  have e := congrArg List.length (TL.split_spl x y hy (TL.kind_ok hk))
  rw [List.length_map] at e
  rw [e, TL.len_tl]; exact spl_len _ _ _ _
theorem split_mem {z : Str} (h : z ∈ Txt.split x y) : z.length ≤ x.length := by
  have e := TL.split_spl x y hy (TL.kind_ok hk)
  have hm : TL.tl z ∈ (Txt.split x y).map TL.tl := List.mem_map_of_mem h
  rw [e] at hm
  have := spl_mem _ _ _ _ _ hm
  rw [TL.len_tl, TL.len_tl]; simpa using this
theorem split_ne : Txt.split x y ≠ [] := by
  have e := TL.split_spl x y hy (TL.kind_ok hk)
  intro z
  rw [z] at e
  exact spl_ne _ _ _ _ e.symm
end
theorem blank_ok : TL.tl (" " : Str) ≠ [] ∧ (" " : Str).cps.all (· < 256) = true := by decide +kernel
theorem feed_ok : TL.tl ("\n" : Str) ≠ [] ∧ ("\n" : Str).cps.all (· < 256) = true := by decide +kernel
section
variable {K : PySem.W.Frag} {H : Hp} {Q : VK} {σ : L2.St}
theorem w_split {a b : Str} (hb : (b.length == 0) = false) (hl : a.length + 2 ≤ sizeLine) (k : ∀ p, H p = none → Q (.ref p) (upd H p (.lst ((Txt.split a b).map V.str)))) :
    (fun x xs H Q => ∃ a b, x = V.str a ∧ xs = [V.str b] ∧ (b.length == 0) = false ∧ a.length + 2 ≤ sizeLine ∧ rNewStrs (Txt.split a b) H Q) (V.str a) [V.str b] H Q := ⟨a, b, rfl, rfl, hb, hl, k⟩
theorem w_splitE {a b : Str} {P : Str → Str → Prop} (k : P a b) : ∃ a' b', V.str a = .str a' ∧ [V.str b] = [.str b'] ∧ P a' b' := ⟨a, b, rfl, rfl, k⟩
theorem w_iEnum {ta : TA} {R : It → Hp → Prop} (k : ta σ H fun vs H1 => ∃ a xs, vs = [.ref a] ∧ SqL K H1 a xs ∧ R (Ite K a) H1) : iEnum K ta σ H R := k
theorem w_exen {a : Addr} {xs : List V} {P : Addr → Prop} (h : SqL K H a xs) (k : P a) : ∃ b ys, [V.ref a] = [.ref b] ∧ SqL K H b ys ∧ P b := ⟨a, xs, rfl, h, k⟩
end
/-- both ways of a conditional expression at once -/
theorem w_ifK {t : TT} {ta tb : TE} {σ : L2.St} {H : Hp} {Q : VK} (P : V → Hp → Prop) (h : ∀ Q' : VK, (∀ x H', P x H' → Q' x H') → t σ H fun c H1 => if c = true then ta σ H1 Q' else tb σ H1 Q') (k : ∀ x H', P x H' → Q x H') : tIf t ta tb σ H Q := h Q k
/-! ### a box of draws -/
def BoxAt (H : Hp) (a : Addr) (n : Nat) : Prop := ∃ x y z : Int, H a = some (.lst [.int x, .int y, .int z]) ∧ 0 ≤ x ∧ 0 ≤ y ∧ y < 2147483648 ∧ 0 ≤ z ∧ z ≤ (n : Int)
theorem BoxAt.le {H : Hp} {a : Addr} {n m : Nat} (h : BoxAt H a n) (q : n ≤ m) : BoxAt H a m := by
  obtain ⟨x, y, z, h1, h2, h3, h4, h5, h6⟩ := h
  exact ⟨x, y, z, h1, h2, h3, h4, h5, by omega⟩
theorem BoxAt.at {H H' : Hp} {a : Addr} {n : Nat} (h : BoxAt H a n) (e : H' a = H a) : BoxAt H' a n := by
  obtain ⟨x, y, z, h1, r⟩ := h
  exact ⟨x, y, z, e.trans h1, r⟩
theorem BoxAt.ne {H : Hp} {a : Addr} {n : Nat} (h : BoxAt H a n) : H a ≠ none := by obtain ⟨x, y, z, h1, _⟩ := h; rw [h1]; exact fun z => nomatch z
theorem BoxAt.same {H H' : Hp} {a : Addr} {n : Nat} (h : BoxAt H a n) (s : Same H H') : BoxAt H' a n := by
  obtain ⟨x, y, z, h1, r⟩ := h
  exact ⟨x, y, z, s _ _ h1, r⟩
theorem But.refl (a : Addr) (H : Hp) : But a H H := fun _ _ h _ => h
theorem But.of {a : Addr} {H H' : Hp} (s : Same H H') : But a H H' := fun b o h _ => s b o h
theorem But.tr {a : Addr} {H H1 H2 : Hp} (s : But a H H1) (t : But a H1 H2) : But a H H2 := fun b o e n => t b o (s b o e n) n
theorem But.free {a b : Addr} {H H' : Hp} (s : But a H H') (n : b ≠ a) (h : H' b = none) : H b = none := by
  cases q : H b with
  | none => rfl
  | some o => rw [s b o q n] at h; cases h
/-- F stays, the box at a turns, all else stays -/
structure ExtB (a : Addr) (F H F' H' : Hp) : Prop where
  ff : Same F F'
  fh : Same F' H'
  hh : But a H H'
  nw : ∀ b, H b ≠ none → F b = none → F' b = none
  th : H a ≠ none → H' a ≠ none
theorem ExtB.refl {a : Addr} {F H : Hp} (s : Same F H) : ExtB a F H F H := ⟨Same.refl F, s, But.refl a H, fun _ _ h => h, fun h => h⟩
theorem ExtB.of {a : Addr} {F H F' H' : Hp} (e : Ext F H F' H') : ExtB a F H F' H' := ⟨e.ff, e.fh, But.of e.hh, e.nw, fun h z => h (e.hh.free z)⟩
theorem ExtB.trans {a : Addr} {F H F1 H1 F2 H2 : Hp} (p : ExtB a F H F1 H1) (q : ExtB a F1 H1 F2 H2) : ExtB a F H F2 H2 :=
  ⟨p.ff.trans q.ff, q.fh, p.hh.tr q.hh, fun c hc hf => q.nw c (fun z => by
    by_cases e : c = a
    · subst e; exact p.th hc z
    · exact hc (p.hh.free e z)) (p.nw c hc hf), fun h => q.th (p.th h)⟩
theorem ExtB.free {a b : Addr} {F H F' H' : Hp} (p : ExtB a F H F' H') (ha : H a ≠ none) (h : H' b = none) : H b = none := by
  by_cases e : b = a
  · subst e; exact absurd h (p.th ha)
  · exact p.hh.free e h
/-- the box turned alone -/
theorem ExtB.turn {a : Addr} {F H : Hp} {o : HO} (s : Same F H) (hF : F a = none) : ExtB a F H F (upd H a o) :=
  ⟨Same.refl F, s.mut hF, fun b u e n => by rw [upd_ne n]; exact e, fun _ _ h => h, fun _ => by rw [upd_same]; exact fun z => nomatch z⟩
/-- a comprehension that draws: at most c draws a turn; P by the turn and what is made so far -/
theorem comp_drawn {K : PySem.W.Frag} {J : It} {n : Nat} {G : Hp → Prop} {Y : Nat → Hp → V → Hp → Prop} {g : TG} {tt : TT} {te : TE} {vs : List Nat} {σ : L2.St} {F H : Hp} {Q : VK} {a : Addr} {N c : Nat}
    (w : Walk J n G Y) (s : Same F H) (hF : F a = none) (hb : BoxAt H a N) (hG : ∀ H', But a H H' → G H') (hz : n < sizeLine) (P : Nat → List PyData → Prop) (p0 : P 0 [])
    (hs : ∀ i x ds F1 H1 H1', i < n → ExtB a F H F1 H1 → BoxAt H1 a (N + i * c) → Y i H1 x H1' → P i ds → ∀ (M : V → Hp → Prop) (M0 : Hp → Prop),
      (∀ y d F4 H4, ExtB a F1 H1 F4 H4 → BoxAt H4 a (N + (i + 1) * c) → Is K F4 y d → P (i + 1) (ds ++ [d]) → M y H4) → (∀ F3 H3, ExtB a F1 H1 F3 H3 → BoxAt H3 a (N + (i + 1) * c) → P (i + 1) ds → M0 H3) →
      g x (wipe σ vs) H1' fun σ2 H2 => wipe σ2 vs = wipe σ vs ∧ tt σ2 H2 fun b H3 => if b = true then te σ2 H3 M else M0 H3)
    (k : ∀ D ys ds F' H', H D = none → ExtB a F H F' H' → F' D = none → BoxAt H' a (N + n * c) → H' D = some (.lst ys) → IsAll K F' ys ds → P n ds → Q (.ref D) H') : LcW J g tt te vs σ H Q := by
  intro D hD
  have hDa : D ≠ a := fun z => hb.ne (by rw [← z]; exact hD)
  refine lc_it w (Pv := fun i H' => ∃ F1 ys ds, ExtB a F H F1 H' ∧ F1 D = none ∧ BoxAt H' a (N + i * c) ∧ H' D = some (.lst ys) ∧ ys.length ≤ i ∧ IsAll K F1 ys ds ∧ P i ds) ?_ ?_ ?_ ?_
  · exact ⟨F, [], [], ExtB.of (Ext.loose s hD), s.free hD, by rw [Nat.zero_mul]; exact hb.same (Same.new hD), upd_same, Nat.le_refl _, .nil, p0⟩
  · rintro i H' hi ⟨F1, ys, ds, e, _⟩
    exact hG H' e.hh
  · rintro i x H1 H1' hi ⟨F1, ys, ds, e, h1, hbx, h2, hl, h3, hP⟩ y
    have hD1 : H1 D ≠ none := by rw [h2]; exact fun z => nomatch z
    refine hs i x ds F1 H1 H1' hi e hbx y hP _ _ (fun y d F4 H4 e4 hb4 hI hP4 => ?_) fun F3 H3 e3 hb3 hP3 => ?_
    · have h4 : F4 D = none := e4.nw D hD1 h1
      have h5 : H4 D = some (.lst ys) := e4.hh _ _ h2 hDa
      refine ⟨ys, h5, by omega, F4, ys ++ [y], ds ++ [d], ?_, h4, hb4.at (upd_ne (Ne.symm hDa)), upd_same, by rw [List.length_append]; exact Nat.succ_le_succ hl, (h3.mono e4.ff).append (.one hI), hP4⟩
      have e5 := e.trans e4
      exact ⟨e5.ff, e5.fh.mut h4, fun b o eb nb => by rw [upd_ne (ne_of_none eb hD)]; exact e5.hh b o eb nb, e5.nw, fun h => by rw [upd_ne (Ne.symm hDa)]; exact e5.th h⟩
    · exact ⟨F3, ys, ds, e.trans e3, e3.nw D hD1 h1, hb3, e3.hh _ _ h2 hDa, by omega, h3.mono e3.ff, hP3⟩
  · rintro H' ⟨F1, ys, ds, e, h1, hbx, h2, hl, h3, hP⟩
    exact k D ys ds F1 H' hD e h1 hbx h2 h3 hP
/-! ### numbers in a list -/
section
variable {K : PySem.W.Frag} {H : Hp} {Q : VK} {σ : L2.St} {D : Ends}
theorem w_setL {p : Addr} {xs : List V} {n : Nat} {i : Int} {v : V} {P : Hp → Prop} (h : H p = some (.lst xs)) (e : ixN xs.length i = some n) (k : P (upd H p (.lst (xs.set n v)))) : rSetL (.ref p) (.int i) v H P := ⟨p, xs, i, n, rfl, rfl, h, e, k⟩
theorem w_popAt {l : Addr} {xs : List V} {i : Int} {y : V} (h : H l = some (.lst xs)) (h0 : 0 ≤ i) (h1 : i < xs.length) (hl : xs.length < 1000000) (e : xs[i.toNat]? = some y) (k : Q y (upd H l (.lst (xs.eraseIdx i.toNat)))) : rPopAt (.ref l) [.int i] H Q :=
  ⟨l, xs, i, i.toNat, y, rfl, rfl, h, by omega, by omega, seqIndex_of h0 h1, e, k⟩
theorem shaped_strs {ns : List Str} (h : ∀ n ∈ ns, PyData.strOk n = true) : SeqAt.shaped (.list (ns.map .str)) = true := by
  unfold SeqAt.shaped
  have h1 : ∀ ns : List Str, (∀ n ∈ ns, PyData.strOk n = true) → PyData.canLayAll0 (ns.map .str) = true := by
    intro ns
    induction ns with
    | nil => intro _; simp [PyData.canLayAll0]
    | cons n ns ih =>
      intro h
      simp only [List.map_cons, PyData.canLayAll0, PyData.canLay0, Bool.and_eq_true]
      exact ⟨h n List.mem_cons_self, ih fun m hm => h m (List.mem_cons_of_mem _ hm)⟩
  have h2 : ∀ ns : List Str, PyData.depthAll (ns.map .str) = 0 := by
    intro ns
    induction ns with
    | nil => simp [PyData.depthAll]
    | cons n ns ih => simp only [List.map_cons, PyData.depthAll, PyData.depth, ih]; rfl
  simp only [PyData.canLay0, PyData.depth, Bool.and_eq_true, decide_eq_true_eq, h2]
  exact ⟨h1 ns h, by decide⟩
theorem w_neNil {l e : Addr} {ns : List Str} (h : SqL K H l (ns.map V.str)) (he : SqL K H e []) (ok : ∀ n ∈ ns, PyData.strOk n = true) (k : Q (.bl (!ns.isEmpty)) H) : rNeD K (.ref l) (.ref e) H Q := by
  refine ⟨.list (ns.map .str), .list [], (Is.lst h (isAll_strs ns)).dp (noDict_strs ns), .lst he .nil, shaped_strs ok, by decide +kernel, ?_⟩
  have e : PyData.eqv (.list (ns.map .str)) (.list []) = ns.isEmpty := by
    cases ns with
    | nil => simp [PyData.eqv, PyData.eqvAll]
    | cons n ns => simp [PyData.eqv, PyData.eqvAll]
  rw [e]; exact k
end
/-! ### names made -/
theorem abc_at {i : Int} (h0 : 0 ≤ i) (h1 : i < 26) : atI ("abcdefghijklmnopqrstuvwxyz" : Str).cps.toList i = some (97 + i.toNat) := by
  obtain ⟨n, rfl⟩ := Int.eq_ofNat_of_zero_le h0
  have hf : ∀ n : Fin 26, ("abcdefghijklmnopqrstuvwxyz" : Str).cps.toList[n.1]? = some (97 + n.1) := by decide +kernel
  exact atI_nat' (hf ⟨n, by omega⟩)
theorem abc_small : ("abcdefghijklmnopqrstuvwxyz" : Str).length ≤ sizeLine := by decide +kernel
theorem cut_to {z : Str} {k : Nat} (hk : k ≤ z.cps.toList.length) : (cutS z none (some (k : Int))).cps.toList = z.cps.toList.take k := by
  show (z.cps.toList.drop 0).take (HT.sIx z.length z.length (some (k : Int)) - 0) = _
  rw [HT.sIx_nat]
  have : z.length = z.cps.toList.length := by rw [Array.length_toList]; rfl
  rw [this, Nat.min_eq_left hk]; rfl
theorem cut_mid {z : Str} {i k : Nat} (hi : i ≤ k) (hk : k ≤ z.cps.toList.length) : (cutS z (some (i : Int)) (some (k : Int))).cps.toList = (z.cps.toList.drop i).take (k - i) := by
  show (z.cps.toList.drop (HT.sIx z.length 0 (some (i : Int)))).take (HT.sIx z.length z.length (some (k : Int)) - HT.sIx z.length 0 (some (i : Int))) = _
  have : z.length = z.cps.toList.length := by rw [Array.length_toList]; rfl
  rw [HT.sIx_nat, HT.sIx_nat, this, Nat.min_eq_left hk, Nat.min_eq_left (Nat.le_trans hi hk)]
theorem str_app (x y : Str) : (x ++ y).cps.toList = x.cps.toList ++ y.cps.toList := TL.tl_append x y
theorem w_slS {K : PySem.W.Frag} {H : Hp} {Q : VK} {z : Str} {lo hi : Option Int} (h : z.length ≤ sizeLine) (k : Q (.str (cutS z lo hi)) H) : rSlS (.str z) lo hi H Q := ⟨z, rfl, h, k⟩
theorem range_nodup {α : Type} {g : Nat → α} {m : Nat} (inj : ∀ j k, j < k → k < m → g j ≠ g k) : ((List.range m).map g).Nodup := by
  unfold List.Nodup
  rw [List.pairwise_map]
  exact (List.pairwise_lt_range (n := m)).imp_of_mem fun {a b} ha hb h => inj a b h (List.mem_range.mp hb)
theorem filterMap_range_some {α β : Type} (g : Nat → α) (f : α → β) (m : Nat) : (List.range m).filterMap (fun k => some (f (g k))) = ((List.range m).map g).map f := by
  rw [List.filterMap_eq_map', List.map_map]; rfl
/-! ### lists that shrink, boxes that turn -/
theorem _root_.Fm.ExtB.mut {a : Addr} {F H F' H' : Hp} {L : Addr} {o : HO} (e : ExtB a F H F' H') (h : H L = none) (f : F' L = none) : ExtB a F H F' (upd H' L o) :=
  ⟨e.ff, e.fh.mut f, fun b u q n => by rw [upd_ne (ne_of_none q h)]; exact e.hh b u q n, e.nw, fun h2 => by
    by_cases q : a = L
    · rw [q, upd_same]; exact fun z => nomatch z
    · rw [upd_ne q]; exact e.th h2⟩
/-- a new thing, taken in late -/
theorem _root_.Fm.ExtB.takeIn {a : Addr} {F H F' H' : Hp} {p : Addr} {o : HO} (e : ExtB a F H F' H') (h : H p = none) (f : F' p = none) (g : H' p = some o) : ExtB a F H (upd F' p o) H' := by
  refine ⟨fun b u q => ?_, fun b u q => ?_, e.hh, fun b hb hf => ?_, e.th⟩
  · have h1 := e.ff b u q
    rw [upd_ne (ne_of_none h1 f)]; exact h1
  · by_cases z : b = p
    · subst z; rw [upd_same] at q; cases q; exact g
    · rw [upd_ne z] at q; exact e.fh b u q
  · have z : b ≠ p := fun z => hb (by rw [z]; exact h)
    rw [upd_ne z]; exact e.nw b hb hf
theorem w_while {c : TT} {tb : TS} {D : Ends} {σ : L2.St} {H : Hp} (W : Nat → L2.St → Hp → Prop) {m : Nat} (h0 : W m σ H)
    (hs : ∀ m σ H, W m σ H → c σ H fun b H1 => if b = true then ∃ N : L2.St → Hp → Prop, (∀ σ' H', N σ' H' → ∃ m', m' < m ∧ W m' σ' H') ∧ tb { D with nx := N, ct := N, bk := D.nx } σ H1 else D.nx σ H1) : tWhile c tb D σ H := ⟨W, ⟨m, h0⟩, hs⟩
theorem erase_map {α β : Type} (f : α → β) (l : List α) (c : Nat) : (l.map f).eraseIdx c = (l.eraseIdx c).map f := by
  rw [List.eraseIdx_eq_take_drop_succ, List.eraseIdx_eq_take_drop_succ, List.map_append, List.map_take, List.map_drop]
theorem erase_facts {α : Type} {l : List α} {c : Nat} {y : α} (e : l[c]? = some y) : y ∈ l ∧ (l.eraseIdx c).length + 1 = l.length ∧ (∀ z ∈ l.eraseIdx c, z ∈ l) ∧ (l.Nodup → (l.eraseIdx c).Nodup ∧ y ∉ l.eraseIdx c) := by
  have hl : c < l.length := (List.getElem?_eq_some_iff.mp e).1
  have e1 : l = l.take c ++ y :: l.drop (c + 1) := by
    have h1 := List.take_append_drop c l
    rw [List.drop_eq_getElem_cons hl, (List.getElem?_eq_some_iff.mp e).2] at h1
    exact h1.symm
  refine ⟨List.mem_of_getElem? e, by rw [List.length_eraseIdx]; simp [hl]; omega, fun z hz => (List.eraseIdx_sublist l c).subset hz, fun hn => ⟨(List.eraseIdx_sublist l c).nodup hn, ?_⟩⟩
  rw [List.eraseIdx_eq_take_drop_succ]
  rw [e1] at hn
  have h2 := List.nodup_append.mp hn
  intro hm
  rcases List.mem_append.mp hm with h3 | h3
  · exact h2.2.2 y h3 y List.mem_cons_self rfl
  · exact (List.nodup_cons.mp h2.2.1).1 h3
theorem valV_notin {k : Key} : ∀ {kvs : List (Key × V)}, k ∉ kvs.map (·.1) → valV kvs k = none
  | [], _ => rfl
  | kv :: kvs, h => by
    rw [valV_neg (fun z => h (by rw [List.map_cons, z]; exact List.mem_cons_self))]
    exact valV_notin fun z => h (List.mem_cons_of_mem _ z)
theorem IsKv.append {K : PySem.W.Frag} {H : Hp} : ∀ {as bs : List (Key × V)} {xs ys : List (PyData × PyData)}, IsKv K H as xs → IsKv K H bs ys → IsKv K H (as ++ bs) (xs ++ ys)
  | _, _, _, _, .nil, h => h
  | _, _, _, _, .cons a t, h => .cons a (IsKv.append t h)
theorem empty_app (x : Str) : Str.empty ++ x = x := by
  have h := TL.tl_append Str.empty x
  exact TL.ext_tl (h.trans (List.nil_append _))
theorem take_sub_snoc {α : Type} {l ns : List α} {i : Nat} {n : α} (h : l.Sublist (ns.take i)) (e : ns[i]? = some n) : (l ++ [n]).Sublist (ns.take (i + 1)) ∧ l.Sublist (ns.take (i + 1)) := by
  rw [take_snoc e]
  exact ⟨h.append (List.Sublist.refl _), h.trans (List.sublist_append_left _ _)⟩
/-! ### data with still parts by value and changing parts by their address -/
inductive D where
  | non | bl (b : Bool) | int (i : Int) | str (x : Str) | ty (n : String)
  | lst (ds : List D) | tup (ds : List D)
  | dct (es : List (Key × D)) | dcT (es : List (List Key × D))
  | obj (C : Addr) (fs : List (Str × D))
  | scr (ns : List Int) | ktp (ss : List Str)
  | loc (a : Addr)
  | exc (a dd : Addr) (fs : List (Str × D))
/-- an object that may change -/
inductive MO where
  | lst (ds : List D) | dct (es : List (Key × D)) | dcT (es : List (List Key × D)) | ins (C : Addr) (fs : List (Str × D))
  | lck (o : Obj) (kvs : List (Key × V)) (es : List (Key × D))
abbrev DEnv := List (Option D)
abbrev MS := List (Addr × MO)
mutual
/-- at v datum d is to be read, F the part of the heap that stays -/
inductive At (K : PySem.W.Frag) (F : Hp) : V → D → Prop
  | non : At K F .non .non
  | bl (b : Bool) : At K F (.bl b) (.bl b)
  | int (i : Int) : At K F (.int i) (.int i)
  | str (x : Str) : At K F (.str x) (.str x)
  | ty (n : String) : At K F (.ty n) (.ty n)
  | lst {a : Addr} {xs : List V} {ds : List D} : F a = some (.lst xs) → Ats K F xs ds → At K F (.ref a) (.lst ds)
  | tup {a : Addr} {xs : List V} {ds : List D} : F a = some (.tup xs) → Ats K F xs ds → At K F (.ref a) (.tup ds)
  | dct {a : Addr} {kvs : List (Key × V)} {es : List (Key × D)} : Rd F a (.dK kvs) → AtK K F kvs es → At K F (.ref a) (.dct es)
  | dcT {a : Addr} {kvs : List (List Key × V)} {es : List (List Key × D)} : Rd F a (.dT kvs) → AtT K F kvs es → At K F (.ref a) (.dcT es)
  | obj {a C dx : Addr} {vs : List (Str × V)} {fs : List (Str × D)} : F a = some (.ins C dx vs) → AtF K F vs fs → At K F (.ref a) (.obj C fs)
  | scr {a : Addr} {ns : List Int} : SqL K F a (ns.map V.int) → At K F (.ref a) (.scr ns)
  | ktp {a : Addr} {ss : List Str} : SqT K F a (ss.map V.str) → At K F (.ref a) (.ktp ss)
  | loc (a : Addr) : At K F (.ref a) (.loc a)
  | exc {a dd : Addr} {vs : List (Str × V)} {fs : List (Str × D)} : F dd = some (.xd vs) → AtF K F vs fs → At K F (.ref a) (.exc a dd fs)
inductive Ats (K : PySem.W.Frag) (F : Hp) : List V → List D → Prop
  | nil : Ats K F [] []
  | cons {v : V} {vs : List V} {d : D} {ds : List D} : At K F v d → Ats K F vs ds → Ats K F (v :: vs) (d :: ds)
inductive AtK (K : PySem.W.Frag) (F : Hp) : List (Key × V) → List (Key × D) → Prop
  | nil : AtK K F [] []
  | cons {k : Key} {v : V} {vs : List (Key × V)} {d : D} {ds : List (Key × D)} : At K F v d → AtK K F vs ds → AtK K F ((k, v) :: vs) ((k, d) :: ds)
inductive AtT (K : PySem.W.Frag) (F : Hp) : List (List Key × V) → List (List Key × D) → Prop
  | nil : AtT K F [] []
  | cons {k : List Key} {v : V} {vs : List (List Key × V)} {d : D} {ds : List (List Key × D)} : At K F v d → AtT K F vs ds → AtT K F ((k, v) :: vs) ((k, d) :: ds)
inductive AtF (K : PySem.W.Frag) (F : Hp) : List (Str × V) → List (Str × D) → Prop
  | nil : AtF K F [] []
  | cons {k : Str} {v : V} {vs : List (Str × V)} {d : D} {ds : List (Str × D)} : At K F v d → AtF K F vs ds → AtF K F ((k, v) :: vs) ((k, d) :: ds)
end
/-- F' reads as F does, and may have more; a dict that stays may have become a known one -/
structure Sm (F F' : Hp) : Prop where
  ot : ∀ a o, F a = some o → (∀ kvs, o ≠ .dK kvs) → (∀ kvs, o ≠ .dT kvs) → F' a = some o
  dk : ∀ a kvs, F a = some (.dK kvs) → Rd F' a (.dK kvs)
  dt : ∀ a kvs, F a = some (.dT kvs) → Rd F' a (.dT kvs)
theorem Sm.of {F F' : Hp} (s : Same F F') : Sm F F' := ⟨fun a o h _ _ => s a o h, fun a _ h => .inl (s _ _ h), fun a _ h => .inl (s _ _ h)⟩
theorem Sm.refl (F : Hp) : Sm F F := Sm.of (Same.refl F)
theorem Sm.rdK {F F' : Hp} {a : Addr} {kvs : List (Key × V)} (s : Sm F F') (h : Rd F a (.dK kvs)) : Rd F' a (.dK kvs) := by
  rcases h with h | ⟨o, h⟩
  · exact s.dk _ _ h
  · exact .inr ⟨o, s.ot _ _ h (fun _ z => nomatch z) (fun _ z => nomatch z)⟩
theorem Sm.rdT {F F' : Hp} {a : Addr} {kvs : List (List Key × V)} (s : Sm F F') (h : Rd F a (.dT kvs)) : Rd F' a (.dT kvs) := by
  rcases h with h | ⟨o, h⟩
  · exact s.dt _ _ h
  · exact .inr ⟨o, s.ot _ _ h (fun _ z => nomatch z) (fun _ z => nomatch z)⟩
theorem Sm.trans {F F1 F2 : Hp} (s : Sm F F1) (t : Sm F1 F2) : Sm F F2 := ⟨fun a o h n m => t.ot a o (s.ot a o h n m) n m, fun a _ h => t.rdK (s.dk a _ h), fun a _ h => t.rdT (s.dt a _ h)⟩
theorem Sm.sqL {K : PySem.W.Frag} {F F' : Hp} {a : Addr} {xs : List V} (s : Sm F F') (h : SqL K F a xs) : SqL K F' a xs := by
  rcases h with (h | ⟨o, h⟩) | h
  · exact .inl (.inl (s.ot _ _ h (fun _ z => nomatch z) (fun _ z => nomatch z)))
  · exact .inl (.inr ⟨o, s.ot _ _ h (fun _ z => nomatch z) (fun _ z => nomatch z)⟩)
  · exact .inr h
theorem Sm.sqT {K : PySem.W.Frag} {F F' : Hp} {a : Addr} {xs : List V} (s : Sm F F') (h : SqT K F a xs) : SqT K F' a xs := by
  rcases h with (h | ⟨o, h⟩) | h
  · exact .inl (.inl (s.ot _ _ h (fun _ z => nomatch z) (fun _ z => nomatch z)))
  · exact .inl (.inr ⟨o, s.ot _ _ h (fun _ z => nomatch z) (fun _ z => nomatch z)⟩)
  · exact .inr h
theorem Sm.lst {F F' : Hp} {a : Addr} {xs : List V} (s : Sm F F') (h : F a = some (.lst xs)) : F' a = some (.lst xs) := s.ot _ _ h (fun _ z => nomatch z) (fun _ z => nomatch z)
theorem Sm.tup {F F' : Hp} {a : Addr} {xs : List V} (s : Sm F F') (h : F a = some (.tup xs)) : F' a = some (.tup xs) := s.ot _ _ h (fun _ z => nomatch z) (fun _ z => nomatch z)
theorem Sm.ins {F F' : Hp} {a C dx : Addr} {xs : List (Str × V)} (s : Sm F F') (h : F a = some (.ins C dx xs)) : F' a = some (.ins C dx xs) := s.ot _ _ h (fun _ z => nomatch z) (fun _ z => nomatch z)
section
variable {K : PySem.W.Frag} {F F' : Hp}
mutual
theorem At.mono (s : Sm F F') : ∀ {v : V} {d : D}, At K F v d → At K F' v d
  | _, _, .non => .non
  | _, _, .bl b => .bl b
  | _, _, .int i => .int i
  | _, _, .str x => .str x
  | _, _, .ty x => .ty x
  | _, _, .lst h a => .lst (s.lst h) (Ats.mono s a)
  | _, _, .tup h a => .tup (s.tup h) (Ats.mono s a)
  | _, _, .dct h a => .dct (s.rdK h) (AtK.mono s a)
  | _, _, .dcT h a => .dcT (s.rdT h) (AtT.mono s a)
  | _, _, .obj h a => .obj (s.ins h) (AtF.mono s a)
  | _, _, .scr h => .scr (s.sqL h)
  | _, _, .ktp h => .ktp (s.sqT h)
  | _, _, .exc h g => .exc (s.ot _ _ h (fun _ z => nomatch z) (fun _ z => nomatch z)) (AtF.mono s g)
  | _, _, .loc a => .loc a
theorem Ats.mono (s : Sm F F') : ∀ {v : List V} {d : List D}, Ats K F v d → Ats K F' v d
  | _, _, .nil => .nil
  | _, _, .cons h t => .cons (At.mono s h) (Ats.mono s t)
theorem AtK.mono (s : Sm F F') : ∀ {v : List (Key × V)} {d : List (Key × D)}, AtK K F v d → AtK K F' v d
  | _, _, .nil => .nil
  | _, _, .cons h t => .cons (At.mono s h) (AtK.mono s t)
theorem AtT.mono (s : Sm F F') : ∀ {v : List (List Key × V)} {d : List (List Key × D)}, AtT K F v d → AtT K F' v d
  | _, _, .nil => .nil
  | _, _, .cons h t => .cons (At.mono s h) (AtT.mono s t)
theorem AtF.mono (s : Sm F F') : ∀ {v : List (Str × V)} {d : List (Str × D)}, AtF K F v d → AtF K F' v d
  | _, _, .nil => .nil
  | _, _, .cons h t => .cons (At.mono s h) (AtF.mono s t)
end
theorem Ats.length : ∀ {vs : List V} {ds : List D}, Ats K F vs ds → vs.length = ds.length
  | _, _, .nil => rfl
  | _, _, .cons _ t => congrArg Nat.succ (Ats.length t)
theorem Ats.get : ∀ {vs : List V} {ds : List D} {i : Nat} {d : D}, Ats K F vs ds → ds[i]? = some d → ∃ v, vs[i]? = some v ∧ At K F v d
  | _, _, _, _, .nil, h => by simp at h
  | _, _, 0, _, .cons q _, h => by simp at h; subst h; exact ⟨_, rfl, q⟩
  | _, _, i + 1, _, .cons _ t, h => by
    obtain ⟨v, h1, h2⟩ := Ats.get (i := i) t (by simpa using h)
    exact ⟨v, by simpa using h1, h2⟩
theorem Ats.getV : ∀ {vs : List V} {ds : List D} {i : Nat} {v : V}, Ats K F vs ds → vs[i]? = some v → ∃ d, ds[i]? = some d ∧ At K F v d
  | _, _, _, _, .nil, h => by simp at h
  | _, _, 0, _, .cons q _, h => by simp at h; subst h; exact ⟨_, rfl, q⟩
  | _, _, i + 1, _, .cons _ t, h => by
    obtain ⟨v, h1, h2⟩ := Ats.getV (i := i) t (by simpa using h)
    exact ⟨v, by simpa using h1, h2⟩
theorem Ats.append : ∀ {vs ws : List V} {ds es : List D}, Ats K F vs ds → Ats K F ws es → Ats K F (vs ++ ws) (ds ++ es)
  | _, _, _, _, .nil, s => s
  | _, _, _, _, .cons r t, s => .cons r (Ats.append t s)
theorem Ats.one {v : V} {d : D} (h : At K F v d) : Ats K F [v] [d] := .cons h .nil
theorem Ats.drop : ∀ {vs : List V} {ds : List D} (n : Nat), Ats K F vs ds → Ats K F (vs.drop n) (ds.drop n)
  | _, _, 0, h => h
  | _, _, _ + 1, .nil => .nil
  | _, _, n + 1, .cons _ t => Ats.drop n t
theorem Ats.take : ∀ {vs : List V} {ds : List D} (n : Nat), Ats K F vs ds → Ats K F (vs.take n) (ds.take n)
  | _, _, 0, _ => .nil
  | _, _, _ + 1, .nil => .nil
  | _, _, n + 1, .cons h t => .cons h (Ats.take n t)
theorem Ats.reverse : ∀ {vs : List V} {ds : List D}, Ats K F vs ds → Ats K F vs.reverse ds.reverse
  | _, _, .nil => .nil
  | _, _, .cons h t => by rw [List.reverse_cons, List.reverse_cons]; exact (Ats.reverse t).append (.one h)
theorem Ats.eraseIdx : ∀ {vs : List V} {ds : List D} (n : Nat), Ats K F vs ds → Ats K F (vs.eraseIdx n) (ds.eraseIdx n)
  | _, _, _, .nil => .nil
  | _, _, 0, .cons _ t => t
  | _, _, n + 1, .cons h t => .cons h (Ats.eraseIdx n t)
theorem Ats.set {v : V} {d : D} (q : At K F v d) : ∀ {vs : List V} {ds : List D} (n : Nat), Ats K F vs ds → Ats K F (vs.set n v) (ds.set n d)
  | _, _, _, .nil => .nil
  | _, _, 0, .cons _ t => .cons q t
  | _, _, n + 1, .cons h t => .cons h (Ats.set q n t)
theorem Ats.dropLast {vs : List V} {ds : List D} (h : Ats K F vs ds) : Ats K F vs.dropLast ds.dropLast := by
  rw [List.dropLast_eq_take, List.dropLast_eq_take, h.length]; exact h.take _
theorem ats_strs : ∀ (xs : List Str), Ats K F (xs.map V.str) (xs.map D.str)
  | [] => .nil
  | x :: xs => .cons (.str x) (ats_strs xs)
theorem ats_ints : ∀ (xs : List Int), Ats K F (xs.map V.int) (xs.map D.int)
  | [] => .nil
  | x :: xs => .cons (.int x) (ats_ints xs)
theorem Ats.strs : ∀ {xs : List Str} {vs : List V}, Ats K F vs (xs.map D.str) → vs = xs.map V.str
  | [], _, .nil => rfl
  | _ :: _, _, .cons (.str _) t => by rw [Ats.strs t]; rfl
theorem Ats.ints : ∀ {xs : List Int} {vs : List V}, Ats K F vs (xs.map D.int) → vs = xs.map V.int
  | [], _, .nil => rfl
  | _ :: _, _, .cons (.int _) t => by rw [Ats.ints t]; rfl
theorem Ats.bls : ∀ {xs : List Bool} {vs : List V}, Ats K F vs (xs.map D.bl) → vs = xs.map V.bl
  | [], _, .nil => rfl
  | _ :: _, _, .cons (.bl _) t => by rw [Ats.bls t]; rfl
theorem At.int_inv {v : V} {i : Int} (h : At K F v (.int i)) : v = .int i := by cases h; rfl
theorem At.str_inv {v : V} {i : Str} (h : At K F v (.str i)) : v = .str i := by cases h; rfl
theorem At.bl_inv {v : V} {i : Bool} (h : At K F v (.bl i)) : v = .bl i := by cases h; rfl
theorem At.non_inv {v : V} (h : At K F v .non) : v = .non := by cases h; rfl
theorem At.loc_inv {v : V} {a : Addr} (h : At K F v (.loc a)) : v = .ref a := by cases h; rfl
end
/-! ### the state -/
section
variable (K : PySem.W.Frag) (F H : Hp)
def Ob (a : Addr) : MO → Prop
  | .lst ds => ∃ xs, H a = some (.lst xs) ∧ Ats K F xs ds
  | .dct es => ∃ kvs, H a = some (.dK kvs) ∧ AtK K F kvs es
  | .dcT es => ∃ kvs, H a = some (.dT kvs) ∧ AtT K F kvs es
  | .ins C fs => ∃ dx vs, H a = some (.ins C dx vs) ∧ AtF K F vs fs
  | .lck o kvs es => H a = some (.frz o (.dK kvs)) ∧ AtK K F kvs es
structure HR (M : MS) : Prop where
  s : Same F H
  nd : (M.map (·.1)).Nodup
  at' : ∀ p ∈ M, F p.1 = none ∧ Ob K F H p.1 p.2
inductive EnvAt : St → DEnv → Prop
  | nil : EnvAt [] []
  | non {σ : St} {env : DEnv} {o : Option V} : EnvAt σ env → EnvAt (o :: σ) (none :: env)
  | cons {σ : St} {env : DEnv} {v : V} {d : D} : At K F v d → EnvAt σ env → EnvAt (some v :: σ) (some d :: env)
end
section
variable {K : PySem.W.Frag} {F F' H H' : Hp} {M : MS} {σ : St} {env : DEnv}
theorem Ob.some {a : Addr} {o : MO} (h : Ob K F H a o) : ∃ u, H a = some u := by
  cases o with
  | lst => obtain ⟨_, h, _⟩ := h; exact ⟨_, h⟩
  | dct => obtain ⟨_, h, _⟩ := h; exact ⟨_, h⟩
  | dcT => obtain ⟨_, h, _⟩ := h; exact ⟨_, h⟩
  | ins => obtain ⟨_, _, h, _⟩ := h; exact ⟨_, h⟩
  | lck => exact ⟨_, h.1⟩
/-- F grows or reads alike, H keeps the cell -/
theorem Ob.move {a : Addr} {o : MO} (f : ∀ v d, At K F v d → At K F' v d) (fs : ∀ v d, Ats K F v d → Ats K F' v d) (fk : ∀ v d, AtK K F v d → AtK K F' v d) (ft : ∀ v d, AtT K F v d → AtT K F' v d) (ff : ∀ v d, AtF K F v d → AtF K F' v d)
    (e : H' a = H a) (h : Ob K F H a o) : Ob K F' H' a o := by
  cases o with
  | lst => obtain ⟨_, h, q⟩ := h; exact ⟨_, e.trans h, fs _ _ q⟩
  | dct => obtain ⟨_, h, q⟩ := h; exact ⟨_, e.trans h, fk _ _ q⟩
  | dcT => obtain ⟨_, h, q⟩ := h; exact ⟨_, e.trans h, ft _ _ q⟩
  | ins => obtain ⟨_, _, h, q⟩ := h; exact ⟨_, _, e.trans h, ff _ _ q⟩
  | lck => exact ⟨e.trans h.1, fk _ _ h.2⟩
theorem Ob.mono {a : Addr} {o : MO} (s : Sm F F') (e : H' a = H a) (h : Ob K F H a o) : Ob K F' H' a o :=
  h.move (fun _ _ => At.mono s) (fun _ _ => Ats.mono s) (fun _ _ => AtK.mono s) (fun _ _ => AtT.mono s) (fun _ _ => AtF.mono s) e
theorem EnvAt.mono (s : Sm F F') : ∀ {σ : St} {env : DEnv}, EnvAt K F σ env → EnvAt K F' σ env
  | _, _, .nil => .nil
  | _, _, .non t => .non (EnvAt.mono s t)
  | _, _, .cons h t => .cons (h.mono s) (EnvAt.mono s t)
theorem EnvAt.get : ∀ {σ : St} {env : DEnv} {i : Nat} {d : D}, EnvAt K F σ env → env[i]? = some (some d) → ∃ v, σ[i]? = some (some v) ∧ At K F v d
  | _, _, _, _, .nil, h => by simp at h
  | _, _, 0, _, .non _, h => by simp at h
  | _, _, 0, _, .cons q _, h => by simp at h; subst h; exact ⟨_, rfl, q⟩
  | _, _, i + 1, _, .non t, h => by
    obtain ⟨v, h1, h2⟩ := EnvAt.get (i := i) t (by simpa using h)
    exact ⟨v, by simpa using h1, h2⟩
  | _, _, i + 1, _, .cons _ t, h => by
    obtain ⟨v, h1, h2⟩ := EnvAt.get (i := i) t (by simpa using h)
    exact ⟨v, by simpa using h1, h2⟩
theorem EnvAt.length : ∀ {σ : St} {env : DEnv}, EnvAt K F σ env → σ.length = env.length
  | _, _, .nil => rfl
  | _, _, .non t => congrArg Nat.succ (EnvAt.length t)
  | _, _, .cons _ t => congrArg Nat.succ (EnvAt.length t)
theorem EnvAt.set {v : V} {d : D} (q : At K F v d) : ∀ {σ : St} {env : DEnv} (i : Nat), EnvAt K F σ env → EnvAt K F (σ.set i (some v)) (env.set i (some d))
  | _, _, _, .nil => .nil
  | _, _, 0, .non t => .cons q t
  | _, _, 0, .cons _ t => .cons q t
  | _, _, i + 1, .non t => .non (EnvAt.set q i t)
  | _, _, i + 1, .cons h t => .cons h (EnvAt.set q i t)
theorem EnvAt.setN {o : Option V} : ∀ {σ : St} {env : DEnv} (i : Nat), EnvAt K F σ env → EnvAt K F (σ.set i o) (env.set i none)
  | _, _, _, .nil => .nil
  | _, _, 0, .non t => .non t
  | _, _, 0, .cons _ t => .non t
  | _, _, i + 1, .non t => .non (EnvAt.setN i t)
  | _, _, i + 1, .cons h t => .cons h (EnvAt.setN i t)
/-- one cell changed in H -/
theorem HR.put {M1 M2 : MS} {a : Addr} {o o' : MO} {u : HO} (h : HR K F H (M1 ++ (a, o) :: M2)) (ob : ∀ H', H' a = some u → Ob K F H' a o') : HR K F (upd H a u) (M1 ++ (a, o') :: M2) := by
  have hm := h.at' (a, o) (by simp)
  have hnd := h.nd
  rw [List.map_append, List.map_cons] at hnd
  have h1 := List.nodup_append.mp hnd
  have h2 := List.nodup_cons.mp h1.2.1
  refine ⟨h.s.mut hm.1, by rw [List.map_append, List.map_cons]; exact hnd, fun p hp => ?_⟩
  rcases List.mem_append.mp hp with q | q
  · have hne : p.1 ≠ a := fun z => h1.2.2 p.1 (List.mem_map_of_mem q) a List.mem_cons_self z
    obtain ⟨f1, f2⟩ := h.at' p (List.mem_append_left _ q)
    exact ⟨f1, f2.mono (Sm.refl F) (upd_ne hne)⟩
  · rcases List.mem_cons.mp q with q | q
    · subst q; exact ⟨hm.1, ob _ upd_same⟩
    · have hne : p.1 ≠ a := fun z => h2.1 (by have y := List.mem_map_of_mem (f := fun x : Addr × MO => x.1) q; rw [z] at y; exact y)
      obtain ⟨f1, f2⟩ := h.at' p (List.mem_append_right _ (List.mem_cons_of_mem _ q))
      exact ⟨f1, f2.mono (Sm.refl F) (upd_ne hne)⟩
theorem HR.cell {M1 M2 : MS} {a : Addr} {o : MO} (h : HR K F H (M1 ++ (a, o) :: M2)) : Ob K F H a o := (h.at' (a, o) (by simp)).2
/-- H grows beside -/
theorem HR.grow (s : Same H H') (h : HR K F H M) : HR K F H' M :=
  ⟨h.s.trans s, h.nd, fun p hp => ⟨(h.at' p hp).1, by
    obtain ⟨u, e⟩ := (h.at' p hp).2.some
    exact (h.at' p hp).2.mono (Sm.refl F) (by rw [e, s _ _ e])⟩⟩
theorem HR.drop {M' : MS} (s : M'.Sublist M) (h : HR K F H M) : HR K F H M' := ⟨h.s, (s.map _).nodup h.nd, fun p hp => h.at' p (s.subset hp)⟩
theorem HR.perm {M' : MS} (s : M'.Perm M) (h : HR K F H M) : HR K F H M' := ⟨h.s, (s.map _).nodup_iff.mpr h.nd, fun p hp => h.at' p (s.subset hp)⟩
/-- a new changing object -/
theorem HR.new {a : Addr} {u : HO} {o : MO} (h : HR K F H M) (ha : H a = none) (ob : ∀ H', H' a = some u → Ob K F H' a o) : HR K F (upd H a u) ((a, o) :: M) := by
  have hn : ∀ p ∈ M, p.1 ≠ a := fun p hp z => by
    obtain ⟨v, e⟩ := (h.at' p hp).2.some
    rw [z, ha] at e; cases e
  refine ⟨h.s.mut (h.s.free ha), List.nodup_cons.mpr ⟨fun z => ?_, h.nd⟩, fun p hp => ?_⟩
  · obtain ⟨p, hp, e⟩ := List.mem_map.mp z
    exact hn p hp e
  · rcases List.mem_cons.mp hp with rfl | hp
    · exact ⟨h.s.free ha, ob _ upd_same⟩
    · exact ⟨(h.at' p hp).1, (h.at' p hp).2.mono (Sm.refl F) (upd_ne (hn p hp))⟩
/-- a new still object -/
theorem HR.still {a : Addr} {u : HO} (h : HR K F H M) (ha : H a = none) : Sm F (upd F a u) ∧ HR K (upd F a u) (upd H a u) M := by
  have hF := h.s.free ha
  have hn : ∀ p ∈ M, p.1 ≠ a := fun p hp z => by
    obtain ⟨v, e⟩ := (h.at' p hp).2.some
    rw [z, ha] at e; cases e
  refine ⟨Sm.of (Same.new hF), fun b u e => ?_, h.nd, fun p hp => ?_⟩
  · by_cases z : b = a
    · subst z; rw [upd_same] at e ⊢; exact e
    · rw [upd_ne z] at e ⊢; exact h.s _ _ e
  · exact ⟨(upd_ne (hn p hp)).trans (h.at' p hp).1, (h.at' p hp).2.mono (Sm.of (Same.new hF)) (upd_ne (hn p hp))⟩
/-- a changing object stays from now on -/
theorem HR.freeze {M1 M2 : MS} {a : Addr} {o : MO} {u : HO} (h : HR K F H (M1 ++ (a, o) :: M2)) (hu : H a = some u) : Sm F (upd F a u) ∧ HR K (upd F a u) H (M1 ++ M2) := by
  have hm := h.at' (a, o) (by simp)
  have hnd := h.nd
  rw [List.map_append, List.map_cons] at hnd
  have h1 := List.nodup_append.mp hnd
  have h2 := List.nodup_cons.mp h1.2.1
  have s := Sm.of (Same.new (o := u) hm.1)
  refine ⟨s, fun b v e => ?_, ((List.sublist_cons_self _ _).append_left M1 |>.map (·.1)).nodup h.nd, fun p hp => ?_⟩
  · by_cases z : b = a
    · subst z; rw [upd_same] at e; rw [hu]; exact e
    · rw [upd_ne z] at e; exact h.s _ _ e
  · have hne : p.1 ≠ a := fun z => by
      rcases List.mem_append.mp hp with q | q
      · exact h1.2.2 p.1 (List.mem_map_of_mem q) a List.mem_cons_self z
      · exact h2.1 (by have y := List.mem_map_of_mem (f := fun x : Addr × MO => x.1) q; rw [z] at y; exact y)
    have hp' : p ∈ M1 ++ (a, o) :: M2 := by
      rcases List.mem_append.mp hp with q | q
      · exact List.mem_append_left _ q
      · exact List.mem_append_right _ (List.mem_cons_of_mem _ q)
    exact ⟨(upd_ne hne).trans (h.at' p hp').1, (h.at' p hp').2.mono s rfl⟩
end
section
variable {K : PySem.W.Frag} {F H : Hp} {M : MS}
/-- a dict that stays is known from now on -/
theorem HR.known {a : Addr} {u : HO} (o : Obj) (h : HR K F H M) (hF : F a = some u) (hu : (∃ kvs, u = .dK kvs) ∨ ∃ kvs, u = .dT kvs) : Sm F (upd F a (.frz o u)) ∧ HR K (upd F a (.frz o u)) (upd H a (.frz o u)) M := by
  have s : Sm F (upd F a (.frz o u)) := by
    refine ⟨fun b w e n m => ?_, fun b kvs e => ?_, fun b kvs e => ?_⟩
    · have z : b ≠ a := fun z => by
        subst z; rw [hF] at e; cases e
        rcases hu with ⟨k, rfl⟩ | ⟨k, rfl⟩
        · exact n _ rfl
        · exact m _ rfl
      rw [upd_ne z]; exact e
    · by_cases z : b = a
      · subst z; rw [hF] at e; cases e; exact .inr ⟨o, upd_same⟩
      · exact .inl (by rw [upd_ne z]; exact e)
    · by_cases z : b = a
      · subst z; rw [hF] at e; cases e; exact .inr ⟨o, upd_same⟩
      · exact .inl (by rw [upd_ne z]; exact e)
  refine ⟨s, fun b w e => ?_, h.nd, fun p hp => ?_⟩
  · by_cases z : b = a
    · subst z; rw [upd_same] at e ⊢; exact e
    · rw [upd_ne z] at e ⊢; exact h.s _ _ e
  · have z : p.1 ≠ a := fun z => by have := (h.at' p hp).1; rw [z, hF] at this; cases this
    exact ⟨(upd_ne z).trans (h.at' p hp).1, (h.at' p hp).2.mono s (upd_ne z)⟩
end
/-- what changes may be read as what stays, or dropped -/
inductive Fz (P : D → MS → Prop) : D → MS → Prop
  | keep {d : D} {M : MS} : P d M → Fz P d M
  | lst {p : Addr} {ds : List D} {M1 M2 : MS} : Fz P (.lst ds) (M1 ++ M2) → Fz P (.loc p) (M1 ++ (p, .lst ds) :: M2)
  | dct {p : Addr} {es : List (Key × D)} {M1 M2 : MS} : Fz P (.dct es) (M1 ++ M2) → Fz P (.loc p) (M1 ++ (p, .dct es) :: M2)
  | dcT {p : Addr} {es : List (List Key × D)} {M1 M2 : MS} : Fz P (.dcT es) (M1 ++ M2) → Fz P (.loc p) (M1 ++ (p, .dcT es) :: M2)
  | obj {p C : Addr} {fs : List (Str × D)} {M1 M2 : MS} : Fz P (.obj C fs) (M1 ++ M2) → Fz P (.loc p) (M1 ++ (p, .ins C fs) :: M2)
  | drop {d : D} {M M' : MS} : M'.Sublist M → Fz P d M' → Fz P d M
  | perm {d : D} {M M' : MS} : M'.Perm M → Fz P d M' → Fz P d M
theorem Fz.out {K : PySem.W.Frag} {P : D → MS → Prop} {R : Prop} {F0 : Hp} {v : V} {d : D} {M : MS} (z : Fz P d M) : ∀ {F H : Hp}, Sm F0 F → HR K F H M → At K F v d → (∀ F' d' M', Sm F0 F' → HR K F' H M' → At K F' v d' → P d' M' → R) → R := by
  induction z with
  | keep p => intro F H s h a k; exact k _ _ _ s h a p
  | lst _ ih =>
    intro F H s h a k
    obtain rfl := a.loc_inv
    obtain ⟨xs, e, q⟩ := h.cell
    obtain ⟨s2, h2⟩ := h.freeze e
    exact ih (s.trans s2) h2 (.lst upd_same (q.mono s2)) k
  | dct _ ih =>
    intro F H s h a k
    obtain rfl := a.loc_inv
    obtain ⟨xs, e, q⟩ := h.cell
    obtain ⟨s2, h2⟩ := h.freeze e
    exact ih (s.trans s2) h2 (.dct (.inl upd_same) (q.mono s2)) k
  | dcT _ ih =>
    intro F H s h a k
    obtain rfl := a.loc_inv
    obtain ⟨xs, e, q⟩ := h.cell
    obtain ⟨s2, h2⟩ := h.freeze e
    exact ih (s.trans s2) h2 (.dcT (.inl upd_same) (q.mono s2)) k
  | obj _ ih =>
    intro F H s h a k
    obtain rfl := a.loc_inv
    obtain ⟨dx, xs, e, q⟩ := h.cell
    obtain ⟨s2, h2⟩ := h.freeze e
    exact ih (s.trans s2) h2 (.obj upd_same (q.mono s2)) k
  | drop s1 _ ih => intro F H s h a k; exact ih s (h.drop s1) a k
  | perm s1 _ ih => intro F H s h a k; exact ih s (h.perm s1) a k
/-! ### what a reading does to the state -/
abbrev XP := Value → List (Str × D) → DEnv → MS → Prop
section
variable (K : PySem.W.Frag)
/-- the wish W of an exception is met where X is -/
def XL (F : Hp) (W : WX) (X : XP) : Prop := ∀ F' cls dx vs fs σ env H M, Sm F F' → EnvAt K F' σ env → HR K F' H M → H dx = some (.xd vs) → AtF K F' vs fs → X cls fs env M → W cls (some dx) σ H
def Cn (F : Hp) (P : D → MS → Prop) (Q : VK) : Prop := ∀ F' v d H M, Sm F F' → HR K F' H M → At K F' v d → P d M → Q v H
def CnB (F : Hp) (P : Bool → MS → Prop) (Q : Bool → Hp → Prop) : Prop := ∀ F' b H M, Sm F F' → HR K F' H M → P b M → Q b H
def CnA (F : Hp) (P : List D → MS → Prop) (Q : List V → Hp → Prop) : Prop := ∀ F' vs ds H M, Sm F F' → HR K F' H M → Ats K F' vs ds → P ds M → Q vs H
def CnO (F : Hp) (P : Option Int → MS → Prop) (Q : Option Int → Hp → Prop) : Prop := ∀ F' o H M, Sm F F' → HR K F' H M → P o M → Q o H
def CnG (F : Hp) (R : DEnv → MS → Prop) (Q : St → Hp → Prop) : Prop := ∀ F' σ env H M, Sm F F' → EnvAt K F' σ env → HR K F' H M → R env M → Q σ H
/-- what is wanted behind a statement -/
structure DEnds where
  nx : DEnv → MS → Prop
  rt : D → MS → Prop
  bk : DEnv → MS → Prop := fun _ _ => False
  ct : DEnv → MS → Prop := fun _ _ => False
structure CnS (F : Hp) (De : DEnds) (Ds : Ends) : Prop where
  nx : CnG K F De.nx Ds.nx
  rt : Cn K F De.rt Ds.rt
  bk : CnG K F De.bk Ds.bk
  ct : CnG K F De.ct Ds.ct
variable (W : WX) (X : XP)
def DE (te : TE) (env : DEnv) (M : MS) (P : D → MS → Prop) : Prop := ∀ F σ H (Q : VK), EnvAt K F σ env → HR K F H M → XL K F W X → Cn K F P Q → te σ H Q
def DT (te : TT) (env : DEnv) (M : MS) (P : Bool → MS → Prop) : Prop := ∀ F σ H (Q : Bool → Hp → Prop), EnvAt K F σ env → HR K F H M → XL K F W X → CnB K F P Q → te σ H Q
def DA (te : TA) (env : DEnv) (M : MS) (P : List D → MS → Prop) : Prop := ∀ F σ H (Q : List V → Hp → Prop), EnvAt K F σ env → HR K F H M → XL K F W X → CnA K F P Q → te σ H Q
def DO (te : TO) (env : DEnv) (M : MS) (P : Option Int → MS → Prop) : Prop := ∀ F σ H (Q : Option Int → Hp → Prop), EnvAt K F σ env → HR K F H M → XL K F W X → CnO K F P Q → te σ H Q
def DS (t : TS) (De : DEnds) (env : DEnv) (M : MS) : Prop := ∀ F σ H Ds, EnvAt K F σ env → HR K F H M → XL K F W X → CnS K F De Ds → t Ds σ H
def DG (g : TG) (d : D) (env : DEnv) (M : MS) (R : DEnv → MS → Prop) : Prop := ∀ F σ H v (Q : St → Hp → Prop), EnvAt K F σ env → HR K F H M → XL K F W X → At K F v d → CnG K F R Q → g v σ H Q
def DGs (g : TGs) (ds : List D) (env : DEnv) (M : MS) (R : DEnv → MS → Prop) : Prop := ∀ F σ H vs (Q : St → Hp → Prop), EnvAt K F σ env → HR K F H M → XL K F W X → Ats K F vs ds → CnG K F R Q → g vs σ H Q
def DOp (r : R2) (d1 d2 : D) (M : MS) (P : D → MS → Prop) : Prop := ∀ F H v1 v2 (Q : VK), HR K F H M → At K F v1 d1 → At K F v2 d2 → Cn K F P Q → r v1 v2 H Q
def DUn (r : V → Hp → VK → Prop) (d : D) (M : MS) (P : D → MS → Prop) : Prop := ∀ F H v (Q : VK), HR K F H M → At K F v d → Cn K F P Q → r v H Q
def DC (r : List V → Hp → VK → Prop) (ds : List D) (M : MS) (P : D → MS → Prop) : Prop := ∀ F H vs (Q : VK), HR K F H M → Ats K F vs ds → Cn K F P Q → r vs H Q
def DM (r : V → List V → Hp → VK → Prop) (d : D) (ds : List D) (M : MS) (P : D → MS → Prop) : Prop := ∀ F H v vs (Q : VK), HR K F H M → At K F v d → Ats K F vs ds → Cn K F P Q → r v vs H Q
def DSl (r : V → Option Int → Option Int → Hp → VK → Prop) (d : D) (l u : Option Int) (M : MS) (P : D → MS → Prop) : Prop := ∀ F H v (Q : VK), HR K F H M → At K F v d → Cn K F P Q → r v l u H Q
end
section
variable {K : PySem.W.Frag} {W : WX} {X : XP} {F F' H : Hp} {env : DEnv} {M : MS} {P : D → MS → Prop}
theorem unT {A B : Prop} (h : if true = true then A else B) : A := by rw [if_pos rfl] at h; exact h
theorem unF {A B : Prop} (h : if false = true then A else B) : B := by rw [if_neg (by decide)] at h; exact h
theorem XL.mono (s : Sm F F') (h : XL K F W X) : XL K F' W X := fun F2 cls dx vs fs σ env H M s2 => h F2 cls dx vs fs σ env H M (s.trans s2)
theorem Cn.mono {Q : VK} (s : Sm F F') (h : Cn K F P Q) : Cn K F' P Q := fun F2 v d H M s2 => h F2 v d H M (s.trans s2)
theorem CnB.mono {P : Bool → MS → Prop} {Q : Bool → Hp → Prop} (s : Sm F F') (h : CnB K F P Q) : CnB K F' P Q := fun F2 v H M s2 => h F2 v H M (s.trans s2)
theorem CnA.mono {P : List D → MS → Prop} {Q : List V → Hp → Prop} (s : Sm F F') (h : CnA K F P Q) : CnA K F' P Q := fun F2 v d H M s2 => h F2 v d H M (s.trans s2)
theorem CnO.mono {P : Option Int → MS → Prop} {Q : Option Int → Hp → Prop} (s : Sm F F') (h : CnO K F P Q) : CnO K F' P Q := fun F2 v H M s2 => h F2 v H M (s.trans s2)
theorem CnG.mono {R : DEnv → MS → Prop} {Q : St → Hp → Prop} (s : Sm F F') (h : CnG K F R Q) : CnG K F' R Q := fun F2 v d H M s2 => h F2 v d H M (s.trans s2)
theorem CnS.mono {De : DEnds} {Ds : Ends} (s : Sm F F') (h : CnS K F De Ds) : CnS K F' De Ds := ⟨h.nx.mono s, h.rt.mono s, h.bk.mono s, h.ct.mono s⟩
/-- a new object that may change | that stays -/
theorem Cn.new {Q : VK} (q : Cn K F P Q) (hr : HR K F H M) {a : Addr} {u : HO} {o : MO} (ha : H a = none) (ob : ∀ H', H' a = some u → Ob K F H' a o) (k : P (.loc a) ((a, o) :: M)) : Q (.ref a) (upd H a u) :=
  q F _ _ _ _ (Sm.refl F) (hr.new ha ob) (.loc a) k
theorem Cn.still {Q : VK} (q : Cn K F P Q) (hr : HR K F H M) {a : Addr} {u : HO} {d : D} (ha : H a = none) (ob : ∀ F', Sm F F' → F' a = some u → At K F' (.ref a) d) (k : P d M) : Q (.ref a) (upd H a u) := by
  obtain ⟨s, h⟩ := hr.still (u := u) ha
  exact q _ _ _ _ _ s h (ob _ s upd_same) k
theorem Cn.put {Q : VK} (q : Cn K F P Q) {M1 M2 : MS} {a : Addr} {o o' : MO} {u : HO} {v : V} {d : D} (hr : HR K F H (M1 ++ (a, o) :: M2)) (ob : ∀ H', H' a = some u → Ob K F H' a o') (hv : At K F v d) (k : P d (M1 ++ (a, o') :: M2)) : Q v (upd H a u) :=
  q F _ _ _ _ (Sm.refl F) (hr.put ob) hv k
theorem Cn.now {Q : VK} (q : Cn K F P Q) (hr : HR K F H M) {v : V} {d : D} (hv : At K F v d) (k : P d M) : Q v H := q F _ _ _ _ (Sm.refl F) hr hv k
theorem Cn.fz {Q : VK} (q : Cn K F P Q) : Cn K F (Fz P) Q := fun F1 v d H M s hr hv z => z.out s hr hv fun F' d' M' s' hr' hv' p => q F' v d' H M' s' hr' hv' p
theorem de_fz {te : TE} (h : DE K W X te env M (Fz P)) : DE K W X te env M P := fun F σ H Q he hr xl q => h F σ H Q he hr xl q.fz
theorem de_mono {te : TE} {P' : D → MS → Prop} (h : DE K W X te env M P') (k : ∀ d M, P' d M → P d M) : DE K W X te env M P := fun F σ H Q he hr xl q => h F σ H Q he hr xl fun F' v d H' M' s hr' hv p => q F' v d H' M' s hr' hv (k _ _ p)
/-! names, constants -/
theorem de_var {i : Nat} {d : D} (h : env[i]? = some (some d)) (k : P d M) : DE K W X (tVar i) env M P := fun F σ H Q he hr xl q => by
  obtain ⟨v, h1, h2⟩ := he.get h
  exact ⟨v, h1, q.now hr h2 k⟩
theorem de_int {i : Int} (k : P (.int i) M) : DE K W X (tC (.int i)) env M P := fun F σ H Q he hr xl q => q.now hr (.int i) k
theorem de_str {i : Str} (k : P (.str i) M) : DE K W X (tC (.str i)) env M P := fun F σ H Q he hr xl q => q.now hr (.str i) k
theorem de_bl {i : Bool} (k : P (.bl i) M) : DE K W X (tC (.bl i)) env M P := fun F σ H Q he hr xl q => q.now hr (.bl i) k
theorem de_non (k : P .non M) : DE K W X (tC .non) env M P := fun F σ H Q he hr xl q => q.now hr .non k
theorem de_ty {n : String} (k : P (.ty n) M) : DE K W X (tC (.ty n)) env M P := fun F σ H Q he hr xl q => q.now hr (.ty n) k
theorem de_ref {a : Addr} (k : P (.loc a) M) : DE K W X (tC (.ref a)) env M P := fun F σ H Q he hr xl q => q.now hr (.loc a) k
theorem de_op {r : R2} {ta tb : TE} (h : DE K W X ta env M fun d1 M1 => DE K W X tb env M1 fun d2 M2 => DOp K r d1 d2 M2 P) : DE K W X (tOp r ta tb) env M P := fun F σ H Q he hr xl q =>
  h F σ H _ he hr xl fun F1 v1 d1 H1 M1 s1 hr1 a1 hb => hb F1 σ H1 _ (he.mono s1) hr1 (xl.mono s1) fun F2 v2 d2 H2 M2 s2 hr2 a2 ho => ho F2 H2 v1 v2 Q hr2 (a1.mono s2) a2 (q.mono (s1.trans s2))
theorem de_un {r : V → Hp → VK → Prop} {ta : TE} (h : DE K W X ta env M fun d1 M1 => DUn K r d1 M1 P) : DE K W X (tUn r ta) env M P := fun F σ H Q he hr xl q =>
  h F σ H _ he hr xl fun F1 v1 d1 H1 M1 s1 hr1 a1 hb => hb F1 H1 v1 Q hr1 a1 (q.mono s1)
theorem dop_int {g : Int → Int → Int} {i j : Int} (k : P (.int (g i j)) M) : DOp K (rI0 fun i j => .int (g i j)) (.int i) (.int j) M P := fun F H v1 v2 Q hr a1 a2 q => ⟨i, j, a1.int_inv, a2.int_inv, q.now hr (.int _) k⟩
theorem dop_add {i j : Int} (k : P (.int (i + j)) M) : DOp K rAdd (.int i) (.int j) M P := fun F H v1 v2 Q hr a1 a2 q => ⟨i, j, a1.int_inv, a2.int_inv, q.now hr (.int _) k⟩
theorem dop_sub {i j : Int} (k : P (.int (i - j)) M) : DOp K rSub (.int i) (.int j) M P := fun F H v1 v2 Q hr a1 a2 q => ⟨i, j, a1.int_inv, a2.int_inv, q.now hr (.int _) k⟩
theorem dop_ibl {g : Int → Int → Bool} {i j : Int} (k : P (.bl (g i j)) M) : DOp K (rI0 fun i j => .bl (g i j)) (.int i) (.int j) M P := fun F H v1 v2 Q hr a1 a2 q => ⟨i, j, a1.int_inv, a2.int_inv, q.now hr (.bl _) k⟩
theorem dop_rI {C : Int → Int → Prop} {g : Int → Int → Int} {i j : Int} (c : C i j) (k : P (.int (g i j)) M) : DOp K (rI C fun i j => .int (g i j)) (.int i) (.int j) M P := fun F H v1 v2 Q hr a1 a2 q => ⟨i, j, a1.int_inv, a2.int_inv, c, q.now hr (.int _) k⟩
theorem dun_int {g : Int → Int} {i : Int} (k : P (.int (g i)) M) : DUn K (rU fun i => .int (g i)) (.int i) M P := fun F H v Q hr a q => ⟨i, a.int_inv, q.now hr (.int _) k⟩
theorem dop_eqI {i j : Int} (k : P (.bl (decide (i = j))) M) : DOp K rEq (.int i) (.int j) M P := fun F H v1 v2 Q hr a1 a2 q => by
  obtain rfl := a1.int_inv; obtain rfl := a2.int_inv; exact w_eqI (q.now hr (.bl _) k)
theorem dop_neI {i j : Int} (k : P (.bl (!decide (i = j))) M) : DOp K rNe (.int i) (.int j) M P := fun F H v1 v2 Q hr a1 a2 q => by
  obtain rfl := a1.int_inv; obtain rfl := a2.int_inv; exact w_neI (q.now hr (.bl _) k)
theorem dop_eqS {i j : Str} (k : P (.bl (decide (i = j))) M) : DOp K rEq (.str i) (.str j) M P := fun F H v1 v2 Q hr a1 a2 q => by
  obtain rfl := a1.str_inv; obtain rfl := a2.str_inv; exact w_eqS (q.now hr (.bl _) k)
theorem dop_neS {i j : Str} (k : P (.bl (!decide (i = j))) M) : DOp K rNe (.str i) (.str j) M P := fun F H v1 v2 Q hr a1 a2 q => by
  obtain rfl := a1.str_inv; obtain rfl := a2.str_inv; exact w_neS (q.now hr (.bl _) k)
/-- data that is no more than itself -/
def flatD : D → Option V
  | .non => some .non | .bl b => some (.bl b) | .int i => some (.int i) | .str s => some (.str s) | _ => none
theorem At.flat {v : V} {d : D} {u : V} (h : At K F v d) (e : flatD d = some u) : v = u := by
  cases h <;> simp [flatD] at e <;> exact e
theorem dop_eqF {d e : D} {u v : V} (h1 : flatD d = some u) (h2 : flatD e = some v) (hs : scal u v = true) (k : P (.bl (decide (u = v))) M) : DOp K rEq d e M P := fun F H v1 v2 Q hr a1 a2 q => by
  obtain rfl := a1.flat h1; obtain rfl := a2.flat h2; exact ⟨hs, q.now hr (.bl _) k⟩
theorem dop_neF {d e : D} {u v : V} (h1 : flatD d = some u) (h2 : flatD e = some v) (hs : scal u v = true) (k : P (.bl (!decide (u = v))) M) : DOp K rNe d e M P := fun F H v1 v2 Q hr a1 a2 q => by
  obtain rfl := a1.flat h1; obtain rfl := a2.flat h2; exact ⟨hs, q.now hr (.bl _) k⟩
/-! tests -/
theorem dt_test {te : TE} {P : Bool → MS → Prop} (h : DE K W X te env M fun d M1 => ∃ b, d = .bl b ∧ P b M1) : DT K W X (tTest te) env M P := fun F σ H Q he hr xl q =>
  h F σ H _ he hr xl fun F1 v1 d1 H1 M1 s1 hr1 a1 ⟨b, e, p⟩ => ⟨b, by subst e; exact a1.bl_inv, q F1 b H1 M1 s1 hr1 p⟩
theorem dt_B {te : TE} {P : Bool → MS → Prop} (h : DE K W X te env M fun d M1 => ∃ b, d = .bl b ∧ P b M1) : DT K W X (tB te) env M P := fun F σ H Q he hr xl q =>
  h F σ H _ he hr xl fun F1 v1 d1 H1 M1 s1 hr1 a1 ⟨b, e, p⟩ => ⟨b, by subst e; exact a1.bl_inv, q F1 b H1 M1 s1 hr1 p⟩
theorem d_exb {b : Bool} {P : Bool → Prop} (k : P b) : ∃ c, D.bl b = .bl c ∧ P c := ⟨b, rfl, k⟩
theorem dt_and {t u : TT} {P : Bool → MS → Prop} (h : DT K W X t env M fun c M1 => if c = true then DT K W X u env M1 P else P false M1) : DT K W X (tAnd t u) env M P := fun F σ H Q he hr xl q =>
  h F σ H _ he hr xl fun F1 c H1 M1 s1 hr1 p => by
    cases c with
    | true => exact w_ifT rfl ((unT p : DT K W X u env M1 P) F1 σ H1 Q (he.mono s1) hr1 (xl.mono s1) (q.mono s1))
    | false => exact w_ifF rfl (q F1 false H1 M1 s1 hr1 p)
theorem dt_or {t u : TT} {P : Bool → MS → Prop} (h : DT K W X t env M fun c M1 => if c = true then P true M1 else DT K W X u env M1 P) : DT K W X (tOr t u) env M P := fun F σ H Q he hr xl q =>
  h F σ H _ he hr xl fun F1 c H1 M1 s1 hr1 p => by
    cases c with
    | true => exact w_ifT rfl (q F1 true H1 M1 s1 hr1 p)
    | false => exact w_ifF rfl ((unF p : DT K W X u env M1 P) F1 σ H1 Q (he.mono s1) hr1 (xl.mono s1) (q.mono s1))
theorem dt_not {t : TT} {P : Bool → MS → Prop} (h : DT K W X t env M fun c M1 => P (!c) M1) : DT K W X (tNot t) env M P := fun F σ H Q he hr xl q =>
  h F σ H _ he hr xl fun F1 c H1 M1 s1 hr1 p => q F1 _ H1 M1 s1 hr1 p
theorem dt_yes {P : Bool → MS → Prop} (k : P true M) : DT K W X tYes env M P := fun F σ H Q he hr xl q => q F true H M (Sm.refl F) hr k
theorem de_andV {ta tb : TE} (h : DE K W X ta env M fun d M1 => ∃ b, d = .bl b ∧ if b = true then DE K W X tb env M1 P else P (.bl false) M1) : DE K W X (tAndV ta tb) env M P := fun F σ H Q he hr xl q =>
  h F σ H _ he hr xl fun F1 v1 d1 H1 M1 s1 hr1 a1 ⟨b, e, p⟩ => by
    subst e
    refine ⟨b, a1.bl_inv, ?_⟩
    cases b with
    | true => exact w_ifT rfl ((unT p : DE K W X tb env M1 P) F1 σ H1 Q (he.mono s1) hr1 (xl.mono s1) (q.mono s1))
    | false => exact w_ifF rfl ((q.mono s1).now hr1 (.bl false) p)
theorem de_orV {ta tb : TE} (h : DE K W X ta env M fun d M1 => ∃ b, d = .bl b ∧ if b = true then P (.bl true) M1 else DE K W X tb env M1 P) : DE K W X (tOrV ta tb) env M P := fun F σ H Q he hr xl q =>
  h F σ H _ he hr xl fun F1 v1 d1 H1 M1 s1 hr1 a1 ⟨b, e, p⟩ => by
    subst e
    refine ⟨b, a1.bl_inv, ?_⟩
    cases b with
    | true => exact w_ifT rfl ((q.mono s1).now hr1 (.bl true) p)
    | false => exact w_ifF rfl ((unF p : DE K W X tb env M1 P) F1 σ H1 Q (he.mono s1) hr1 (xl.mono s1) (q.mono s1))
theorem de_notV {ta : TE} (h : DE K W X ta env M fun d M1 => ∃ b, d = .bl b ∧ P (.bl (!b)) M1) : DE K W X (tNotV ta) env M P := fun F σ H Q he hr xl q =>
  h F σ H _ he hr xl fun F1 v1 d1 H1 M1 s1 hr1 a1 ⟨b, e, p⟩ => by
    subst e
    exact ⟨b, a1.bl_inv, (q.mono s1).now hr1 (.bl _) p⟩
theorem de_if {t : TT} {ta tb : TE} (h : DT K W X t env M fun c M1 => if c = true then DE K W X ta env M1 P else DE K W X tb env M1 P) : DE K W X (tIf t ta tb) env M P := fun F σ H Q he hr xl q =>
  h F σ H _ he hr xl fun F1 c H1 M1 s1 hr1 p => by
    cases c with
    | true => exact w_ifT rfl ((unT p : DE K W X ta env M1 P) F1 σ H1 Q (he.mono s1) hr1 (xl.mono s1) (q.mono s1))
    | false => exact w_ifF rfl ((unF p : DE K W X tb env M1 P) F1 σ H1 Q (he.mono s1) hr1 (xl.mono s1) (q.mono s1))
theorem de_chain {r r' : R2} {ta tb tc : TE} (h : DE K W X ta env M fun d1 M1 => DE K W X tb env M1 fun d2 M2 => DOp K r d1 d2 M2 fun d M3 => ∃ b, d = .bl b ∧ if b = true then DE K W X tc env M3 fun d3 M4 => DOp K r' d2 d3 M4 P else P (.bl false) M3) :
    DE K W X (tChain r r' ta tb tc) env M P := fun F σ H Q he hr xl q =>
  h F σ H _ he hr xl fun F1 v1 d1 H1 M1 s1 hr1 a1 hb => hb F1 σ H1 _ (he.mono s1) hr1 (xl.mono s1) fun F2 v2 d2 H2 M2 s2 hr2 a2 ho => ho F2 H2 v1 v2 _ hr2 (a1.mono s2) a2 fun F3 v3 d3 H3 M3 s3 hr3 a3 ⟨b, e, p⟩ => by
    subst e
    refine ⟨b, a3.bl_inv, ?_⟩
    have s := (s1.trans s2).trans s3
    cases b with
    | true => exact w_ifT rfl ((unT p : DE K W X tc env M3 _) F3 σ H3 _ (he.mono s) hr3 (xl.mono s) fun F4 v4 d4 H4 M4 s4 hr4 a4 ho4 => ho4 F4 H4 v2 v4 Q hr4 (a2.mono (s3.trans s4)) a4 (q.mono (s.trans s4)))
    | false => exact w_ifF rfl ((q.mono s).now hr3 (.bl false) p)
theorem dop_isN {te : TE} (h : DE K W X te env M fun d M1 => ∃ u, flatD d = some u ∧ P (.bl (decide (u = .non))) M1) : DE K W X (tIsN te) env M P := fun F σ H Q he hr xl q =>
  h F σ H _ he hr xl fun F1 v1 d1 H1 M1 s1 hr1 a1 ⟨u, e, p⟩ => by rw [a1.flat e]; exact (q.mono s1).now hr1 (.bl _) p
/-! argument lists, tuples, lists -/
theorem da_nil {P : List D → MS → Prop} (k : P [] M) : DA K W X tNil env M P := fun F σ H Q he hr xl q => q F [] [] H M (Sm.refl F) hr .nil k
theorem da_cons {ta : TE} {tr : TA} {P : List D → MS → Prop} (h : DE K W X ta env M fun d M1 => DA K W X tr env M1 fun ds M2 => P (d :: ds) M2) : DA K W X (tCons ta tr) env M P := fun F σ H Q he hr xl q =>
  h F σ H _ he hr xl fun F1 v1 d1 H1 M1 s1 hr1 a1 hb => hb F1 σ H1 _ (he.mono s1) hr1 (xl.mono s1) fun F2 vs ds H2 M2 s2 hr2 a2 p => q F2 _ _ H2 M2 (s1.trans s2) hr2 (.cons (a1.mono s2) a2) p
theorem de_tup {t : TA} (h : DA K W X t env M fun ds M1 => ds.length ≤ sizeLine ∧ P (.tup ds) M1) : DE K W X (tTup t) env M P := fun F σ H Q he hr xl q =>
  h F σ H _ he hr xl fun F1 vs ds H1 M1 s1 hr1 a1 ⟨z, p⟩ => ⟨by rw [a1.length]; exact z, fun a ha => (q.mono s1).still hr1 ha (fun F' s h => .tup h (a1.mono s)) p⟩
theorem de_lst {t : TA} (h : DA K W X t env M fun ds M1 => ds.length ≤ sizeLine ∧ ∀ a, P (.loc a) ((a, .lst ds) :: M1)) : DE K W X (tLst t) env M P := fun F σ H Q he hr xl q =>
  h F σ H _ he hr xl fun F1 vs ds H1 M1 s1 hr1 a1 ⟨z, p⟩ => ⟨by rw [a1.length]; exact z, fun a ha => (q.mono s1).new (o := .lst ds) hr1 ha (fun H' h => ⟨_, h, a1⟩) (p a)⟩
/-- .. as it stays -/
theorem de_lstV {t : TA} (h : DA K W X t env M fun ds M1 => ds.length ≤ sizeLine ∧ P (.lst ds) M1) : DE K W X (tLst t) env M P := fun F σ H Q he hr xl q =>
  h F σ H _ he hr xl fun F1 vs ds H1 M1 s1 hr1 a1 ⟨z, p⟩ => ⟨by rw [a1.length]; exact z, fun a ha => (q.mono s1).still hr1 ha (fun F' s h => .lst h (a1.mono s)) p⟩
theorem de_cb {r : List V → Hp → VK → Prop} {t : TA} (h : DA K W X t env M fun ds M1 => DC K r ds M1 P) : DE K W X (tCB r t) env M P := fun F σ H Q he hr xl q =>
  h F σ H _ he hr xl fun F1 vs ds H1 M1 s1 hr1 a1 hb => hb F1 H1 vs Q hr1 a1 (q.mono s1)
/-! statements -/
theorem ds_next {De : DEnds} (k : De.nx env M) : DS K W X tNext De env M := fun F σ H Ds he hr xl c => c.nx F σ env H M (Sm.refl F) he hr k
theorem ds_brk {De : DEnds} (k : De.bk env M) : DS K W X tBreak De env M := fun F σ H Ds he hr xl c => c.bk F σ env H M (Sm.refl F) he hr k
theorem ds_cont {De : DEnds} (k : De.ct env M) : DS K W X tCont De env M := fun F σ H Ds he hr xl c => c.ct F σ env H M (Sm.refl F) he hr k
theorem ds_seq {t u : TS} {De : DEnds} (h : DS K W X t { De with nx := fun e m => DS K W X u De e m } env M) : DS K W X (tSeq t u) De env M := fun F σ H Ds he hr xl c =>
  h F σ H _ he hr xl ⟨fun F' σ' env' H' M' s he' hr' hu => hu F' σ' H' Ds he' hr' (xl.mono s) (c.mono s), c.rt, c.bk, c.ct⟩
theorem ds_drop {te : TE} {De : DEnds} (h : DE K W X te env M fun _ M1 => De.nx env M1) : DS K W X (tDrop te) De env M := fun F σ H Ds he hr xl c =>
  h F σ H _ he hr xl fun F1 v1 d1 H1 M1 s1 hr1 a1 p => c.nx F1 σ env H1 M1 s1 (he.mono s1) hr1 p
theorem ds_ret {te : TE} {De : DEnds} (h : DE K W X te env M De.rt) : DS K W X (tRet te) De env M := fun F σ H Ds he hr xl c => h F σ H _ he hr xl c.rt
theorem ds_retN {De : DEnds} (k : De.rt .non M) : DS K W X tRetN De env M := fun F σ H Ds he hr xl c => c.rt.now hr .non k
theorem ds_if {c : TT} {t u : TS} {De : DEnds} (h : DT K W X c env M fun b M1 => if b = true then DS K W X t De env M1 else DS K W X u De env M1) : DS K W X (tIfS c t u) De env M := fun F σ H Ds he hr xl cn =>
  h F σ H _ he hr xl fun F1 b H1 M1 s1 hr1 p => by
    cases b with
    | true => exact w_ifT rfl ((unT p : DS K W X t De env M1) F1 σ H1 Ds (he.mono s1) hr1 (xl.mono s1) (cn.mono s1))
    | false => exact w_ifF rfl ((unF p : DS K W X u De env M1) F1 σ H1 Ds (he.mono s1) hr1 (xl.mono s1) (cn.mono s1))
theorem ds_asg {te : TE} {g : TG} {De : DEnds} (h : DE K W X te env M fun d M1 => DG K W X g d env M1 De.nx) : DS K W X (tAsg te g) De env M := fun F σ H Ds he hr xl c =>
  h F σ H _ he hr xl fun F1 v1 d1 H1 M1 s1 hr1 a1 p => p F1 σ H1 v1 _ (he.mono s1) hr1 (xl.mono s1) a1 (c.nx.mono s1)
theorem ds_drops {t : TS} {De : DEnds} {M' : MS} (s : M'.Sublist M) (h : DS K W X t De env M') : DS K W X t De env M := fun F σ H Ds he hr xl c => h F σ H Ds he (hr.drop s) xl c
theorem ds_perm {t : TS} {De : DEnds} {M' : MS} (s : M'.Perm M) (h : DS K W X t De env M') : DS K W X t De env M := fun F σ H Ds he hr xl c => h F σ H Ds he (hr.perm s) xl c
theorem ds_mono {t : TS} {De De' : DEnds} (h : DS K W X t De' env M) (n : ∀ e m, De'.nx e m → De.nx e m) (r : ∀ d m, De'.rt d m → De.rt d m) (b : ∀ e m, De'.bk e m → De.bk e m) (ct : ∀ e m, De'.ct e m → De.ct e m) : DS K W X t De env M := fun F σ H Ds he hr xl c =>
  h F σ H Ds he hr xl ⟨fun F' σ' env' H' M' s he' hr' k => c.nx F' σ' env' H' M' s he' hr' (n _ _ k), fun F' v d H' M' s hr' a k => c.rt F' v d H' M' s hr' a (r _ _ k), fun F' σ' env' H' M' s he' hr' k => c.bk F' σ' env' H' M' s he' hr' (b _ _ k), fun F' σ' env' H' M' s he' hr' k => c.ct F' σ' env' H' M' s he' hr' (ct _ _ k)⟩
/-! targets -/
theorem dg_name {i : Nat} {d : D} {R : DEnv → MS → Prop} (k : R (env.set i (some d)) M) : DG K W X (gName i) d env M R := fun F σ H v Q he hr xl a c => c F _ _ H M (Sm.refl F) (he.set a i) hr k
theorem dgs_nil {R : DEnv → MS → Prop} (k : R env M) : DGs K W X gNil [] env M R := fun F σ H v Q he hr xl a c => by
  cases a; exact ⟨rfl, c F _ _ H M (Sm.refl F) he hr k⟩
theorem dgs_cons {g : TG} {gs : TGs} {d : D} {ds : List D} {R : DEnv → MS → Prop} (h : DG K W X g d env M fun e m => DGs K W X gs ds e m R) : DGs K W X (gCons g gs) (d :: ds) env M R := fun F σ H v Q he hr xl a c => by
  cases a with
  | cons a1 a2 => exact ⟨_, _, rfl, h F σ H _ _ he hr xl a1 fun F1 σ1 env1 H1 M1 s he1 hr1 k => k F1 σ1 H1 _ Q he1 hr1 (xl.mono s) (a2.mono s) (c.mono s)⟩
theorem dg_tup {n : Nat} {gs : TGs} {ds : List D} {R : DEnv → MS → Prop} (hn : ds.length = n) (h : DGs K W X gs ds env M R) : DG K W X (gTup K n gs) (.tup ds) env M R := fun F σ H v Q he hr xl a c => by
  cases a with
  | tup h1 h2 => exact ⟨_, _, rfl, .inl (.inl (hr.s _ _ h1)), by rw [h2.length]; exact hn, h F σ H _ _ he hr xl h2 c⟩
/-! while -/
theorem ds_while {c : TT} {tb : TS} {De : DEnds} (Wd : Nat → DEnv → MS → Prop) {m : Nat} (h0 : Wd m env M)
    (hs : ∀ m env M, Wd m env M → DT K W X c env M fun b M1 => if b = true then DS K W X tb { nx := fun e m2 => ∃ m', m' < m ∧ Wd m' e m2, ct := fun e m2 => ∃ m', m' < m ∧ Wd m' e m2, bk := De.nx, rt := De.rt } env M1 else De.nx env M1) :
    DS K W X (tWhile c tb) De env M := fun F σ H Ds he hr xl cn => by
  refine ⟨fun m σ' H' => ∃ F' env' M', Sm F F' ∧ EnvAt K F' σ' env' ∧ HR K F' H' M' ∧ Wd m env' M', ⟨m, F, env, M, Sm.refl F, he, hr, h0⟩, ?_⟩
  rintro m σ1 H1 ⟨F1, env1, M1, s1, he1, hr1, w1⟩
  refine hs m env1 M1 w1 F1 σ1 H1 _ he1 hr1 (xl.mono s1) fun F2 b H2 M2 s2 hr2 p => ?_
  cases b with
  | true =>
    refine w_ifT rfl ⟨fun σ' H' => ∃ m', m' < m ∧ ∃ F' env' M', Sm F F' ∧ EnvAt K F' σ' env' ∧ HR K F' H' M' ∧ Wd m' env' M', fun _ _ h => h, ?_⟩
    have nn : CnG K F2 (fun e m2 => ∃ m', m' < m ∧ Wd m' e m2) fun σ' H' => ∃ m', m' < m ∧ ∃ F' env' M', Sm F F' ∧ EnvAt K F' σ' env' ∧ HR K F' H' M' ∧ Wd m' env' M' :=
      fun F' σ' env' H' M' s he' hr' ⟨m', hm, w⟩ => ⟨m', hm, F', env', M', (s1.trans s2).trans s, he', hr', w⟩
    exact unT p F2 σ1 H2 _ (he1.mono s2) hr2 (xl.mono (s1.trans s2)) ⟨nn, cn.rt.mono (s1.trans s2), cn.nx.mono (s1.trans s2), nn⟩
  | false => exact w_ifF rfl (cn.nx F2 σ1 env1 H2 M2 (s1.trans s2) (he1.mono s2) hr2 p)
end
/-! ### what may be read of the state -/
inductive IsL (M : MS) : D → List D → Prop
  | v {ds : List D} : IsL M (.lst ds) ds
  | l {a : Addr} {ds : List D} : (a, .lst ds) ∈ M → IsL M (.loc a) ds
inductive IsK (M : MS) : D → List (Key × D) → Prop
  | v {ds : List (Key × D)} : IsK M (.dct ds) ds
  | l {a : Addr} {ds : List (Key × D)} : (a, .dct ds) ∈ M → IsK M (.loc a) ds
  | k {a : Addr} {o : Obj} {kvs : List (Key × V)} {ds : List (Key × D)} : (a, .lck o kvs ds) ∈ M → IsK M (.loc a) ds
inductive IsT (M : MS) : D → List (List Key × D) → Prop
  | v {ds : List (List Key × D)} : IsT M (.dcT ds) ds
  | l {a : Addr} {ds : List (List Key × D)} : (a, .dcT ds) ∈ M → IsT M (.loc a) ds
inductive IsO (M : MS) : D → Addr → List (Str × D) → Prop
  | v {C : Addr} {ds : List (Str × D)} : IsO M (.obj C ds) C ds
  | l {a C : Addr} {ds : List (Str × D)} : (a, .ins C ds) ∈ M → IsO M (.loc a) C ds
def keyD : D → Option Key
  | .int i => some (.inl i) | .str s => some (.inr s) | _ => none
def tkeyD : D → Option (List Key)
  | .tup ds => ds.mapM keyD | _ => none
def valD {κ : Type} [DecidableEq κ] (es : List (κ × D)) (k : κ) : Option D := (es.find? fun kv => decide (kv.1 = k)).map (·.2)
def putD {κ : Type} [DecidableEq κ] (es : List (κ × D)) (k : κ) (d : D) : List (κ × D) := if (es.any fun kv => decide (kv.1 = k)) = true then es.map (fun kv => if kv.1 = k then (kv.1, d) else kv) else es ++ [(k, d)]
def dropD {κ : Type} [DecidableEq κ] (es : List (κ × D)) (k : κ) : List (κ × D) := es.filter fun kv => decide (kv.1 ≠ k)
def mergeD (es more : List (Key × D)) : List (Key × D) := more.foldl (fun acc kv => putD acc kv.1 kv.2) es
theorem _root_.L2.Same.rd {F F' : Hp} {a : Addr} {o : HO} (s : Same F F') (h : Rd F a o) : Rd F' a o := h.imp (s _ _) fun ⟨u, h⟩ => ⟨u, s _ _ h⟩
section
variable {K : PySem.W.Frag} {F F' H : Hp} {M : MS}
abbrev AtG (κ : Type) (K : PySem.W.Frag) (F : Hp) : List (κ × V) → List (κ × D) → Prop := Paired fun p q => p.1 = q.1 ∧ At K F p.2 q.2
theorem AtK.gen : ∀ {kvs : List (Key × V)} {es : List (Key × D)}, AtK K F kvs es → AtG Key K F kvs es
  | _, _, .nil => .nil
  | _, _, .cons h t => .cons ⟨rfl, h⟩ (AtK.gen t)
theorem AtT.gen : ∀ {kvs : List (List Key × V)} {es : List (List Key × D)}, AtT K F kvs es → AtG (List Key) K F kvs es
  | _, _, .nil => .nil
  | _, _, .cons h t => .cons ⟨rfl, h⟩ (AtT.gen t)
theorem AtF.gen : ∀ {kvs : List (Str × V)} {es : List (Str × D)}, AtF K F kvs es → AtG Str K F kvs es
  | _, _, .nil => .nil
  | _, _, .cons h t => .cons ⟨rfl, h⟩ (AtF.gen t)
theorem AtG.k {kvs : List (Key × V)} {es : List (Key × D)} (h : AtG Key K F kvs es) : AtK K F kvs es := by
  induction h with
  | nil => exact .nil
  | @cons a b _ _ r _ ih => obtain ⟨k, v⟩ := a; obtain ⟨k2, d⟩ := b; obtain ⟨e, r⟩ := r; cases e; exact .cons r ih
theorem AtG.t {kvs : List (List Key × V)} {es : List (List Key × D)} (h : AtG (List Key) K F kvs es) : AtT K F kvs es := by
  induction h with
  | nil => exact .nil
  | @cons a b _ _ r _ ih => obtain ⟨k, v⟩ := a; obtain ⟨k2, d⟩ := b; obtain ⟨e, r⟩ := r; cases e; exact .cons r ih
theorem AtG.f {kvs : List (Str × V)} {es : List (Str × D)} (h : AtG Str K F kvs es) : AtF K F kvs es := by
  induction h with
  | nil => exact .nil
  | @cons a b _ _ r _ ih => obtain ⟨k, v⟩ := a; obtain ⟨k2, d⟩ := b; obtain ⟨e, r⟩ := r; cases e; exact .cons r ih
section
variable {κ : Type} [DecidableEq κ] {kvs : List (κ × V)} {es : List (κ × D)}
theorem AtG.len (h : AtG κ K F kvs es) : kvs.length = es.length := Paired.length h
theorem AtG.val (h : AtG κ K F kvs es) (k : κ) : (valV kvs k = none ∧ valD es k = none) ∨ ∃ v d, valV kvs k = some v ∧ valD es k = some d ∧ At K F v d := by
  induction h with
  | nil => exact .inl ⟨rfl, rfl⟩
  | @cons a b _ _ r _ ih =>
    obtain ⟨k1, v⟩ := a; obtain ⟨k2, d⟩ := b; obtain ⟨e, r⟩ := r
    cases e
    unfold valV valD at ih ⊢
    rw [List.find?_cons, List.find?_cons]
    by_cases q : k1 = k
    · rw [decide_eq_true q]; exact .inr ⟨v, d, rfl, rfl, r⟩
    · rw [decide_eq_false q]; exact ih
theorem AtG.any (h : AtG κ K F kvs es) (k : κ) : (kvs.any fun kv => decide (kv.1 = k)) = (es.any fun kv => decide (kv.1 = k)) := by
  induction h with
  | nil => rfl
  | @cons a b _ _ r _ ih =>
    obtain ⟨k1, v⟩ := a; obtain ⟨k2, d⟩ := b; obtain ⟨e, r⟩ := r
    cases e
    rw [List.any_cons, List.any_cons, ih]
theorem AtG.app {k2 : List (κ × V)} {e2 : List (κ × D)} (h : AtG κ K F kvs es) (g : AtG κ K F k2 e2) : AtG κ K F (kvs ++ k2) (es ++ e2) := by
  induction h with
  | nil => exact g
  | cons r _ ih => exact .cons r ih
theorem AtG.put (h : AtG κ K F kvs es) (k : κ) {v : V} {d : D} (a : At K F v d) : AtG κ K F (putK kvs k v) (putD es k d) := by
  unfold putK putD
  rw [h.any k]
  split
  · rename_i q
    clear q
    induction h with
    | nil => exact .nil
    | @cons p q _ _ r _ ih =>
      obtain ⟨k1, v1⟩ := p; obtain ⟨k2, d1⟩ := q; obtain ⟨e, r⟩ := r
      cases e
      rw [List.map_cons, List.map_cons]
      refine .cons ?_ ih
      by_cases q : k1 = k
      · rw [if_pos q, if_pos q]; exact ⟨rfl, a⟩
      · rw [if_neg q, if_neg q]; exact ⟨rfl, r⟩
  · exact h.app (.cons ⟨rfl, a⟩ .nil)
theorem AtG.drop (h : AtG κ K F kvs es) (k : κ) : AtG κ K F (dropK kvs k) (dropD es k) := by
  unfold dropK dropD
  induction h with
  | nil => exact .nil
  | @cons p q _ _ r _ ih =>
    obtain ⟨k1, v1⟩ := p; obtain ⟨k2, d1⟩ := q; obtain ⟨e, r⟩ := r
    cases e
    rw [List.filter_cons, List.filter_cons]
    by_cases q : k1 = k
    · rw [if_neg (by simp [q]), if_neg (by simp [q])]; exact ih
    · rw [if_pos (by simp [q]), if_pos (by simp [q])]; exact .cons ⟨rfl, r⟩ ih
theorem AtG.getD (h : AtG κ K F kvs es) {i : Nat} {kv : κ × V} (e : kvs[i]? = some kv) : ∃ d, es[i]? = some (kv.1, d) ∧ At K F kv.2 d := by
  induction h generalizing i with
  | nil => simp at e
  | @cons p q _ _ r _ ih =>
    obtain ⟨k1, v1⟩ := p; obtain ⟨k2, d1⟩ := q; obtain ⟨e1, r⟩ := r
    cases e1
    cases i with
    | zero => simp at e; subst e; exact ⟨d1, rfl, r⟩
    | succ i => obtain ⟨d, h1, h2⟩ := ih (i := i) (by simpa using e); exact ⟨d, by simpa using h1, h2⟩
end
theorem At.key {v : V} {d : D} {k : Key} (h : At K F v d) (e : keyD d = some k) : v = kV k := by
  cases h <;> simp [keyD] at e <;> subst e <;> rfl
theorem Ats.keys : ∀ {ds : List D} {vs : List V} {k : List Key}, Ats K F vs ds → ds.mapM keyD = some k → vs = k.map kV := by
  intro ds
  induction ds with
  | nil => intro vs k h e; cases h; simp at e; subst e; rfl
  | cons d ds ih =>
    intro vs k h e
    cases h with
    | cons h1 h2 =>
      rw [List.mapM_cons] at e
      cases hk : keyD d with
      | none => rw [hk] at e; simp at e
      | some k0 =>
        rw [hk] at e
        cases hr : ds.mapM keyD with
        | none => rw [hr] at e; simp at e
        | some kr =>
          rw [hr] at e
          simp at e
          subst e
          rw [h1.key hk, ih h2 hr]; rfl
theorem At.tkey {v : V} {d : D} {k : List Key} (s : Same F H) (h : At K F v d) (e : tkeyD d = some k) : ∃ b, v = .ref b ∧ H b = some (.tup (k.map kV)) := by
  cases h <;> simp only [tkeyD] at e <;> try cases e
  rename_i h1 h2
  rw [h2.keys e] at h1
  exact ⟨_, rfl, s _ _ h1⟩
theorem IsL.raw {v : V} {d : D} {ds : List D} (h : IsL M d ds) (hr : HR K F H M) (a : At K F v d) : ∃ p xs, v = .ref p ∧ H p = some (.lst xs) ∧ Ats K F xs ds := by
  cases h with
  | v => cases a with | lst h1 h2 => exact ⟨_, _, rfl, hr.s _ _ h1, h2⟩
  | l m =>
    obtain rfl := a.loc_inv
    obtain ⟨_, xs, e, q⟩ := hr.at' _ m
    exact ⟨_, xs, rfl, e, q⟩
theorem IsK.raw {v : V} {d : D} {ds : List (Key × D)} (h : IsK M d ds) (hr : HR K F H M) (a : At K F v d) : ∃ p xs, v = .ref p ∧ Rd H p (.dK xs) ∧ AtG Key K F xs ds := by
  cases h with
  | v => cases a with | dct h1 h2 => exact ⟨_, _, rfl, hr.s.rd h1, h2.gen⟩
  | l m =>
    obtain rfl := a.loc_inv
    obtain ⟨_, xs, e, q⟩ := hr.at' _ m
    exact ⟨_, xs, rfl, .inl e, q.gen⟩
  | k m =>
    obtain rfl := a.loc_inv
    obtain ⟨_, e, q⟩ := hr.at' _ m
    exact ⟨_, _, rfl, .inr ⟨_, e⟩, q.gen⟩
theorem IsT.raw {v : V} {d : D} {ds : List (List Key × D)} (h : IsT M d ds) (hr : HR K F H M) (a : At K F v d) : ∃ p xs, v = .ref p ∧ Rd H p (.dT xs) ∧ AtG (List Key) K F xs ds := by
  cases h with
  | v => cases a with | dcT h1 h2 => exact ⟨_, _, rfl, hr.s.rd h1, h2.gen⟩
  | l m =>
    obtain rfl := a.loc_inv
    obtain ⟨_, xs, e, q⟩ := hr.at' _ m
    exact ⟨_, xs, rfl, .inl e, q.gen⟩
theorem IsO.raw {v : V} {d : D} {C : Addr} {ds : List (Str × D)} (h : IsO M d C ds) (hr : HR K F H M) (a : At K F v d) : ∃ p dx xs, v = .ref p ∧ H p = some (.ins C dx xs) ∧ AtG Str K F xs ds := by
  cases h with
  | v => cases a with | obj h1 h2 => exact ⟨_, _, _, rfl, hr.s _ _ h1, h2.gen⟩
  | l m =>
    obtain rfl := a.loc_inv
    obtain ⟨_, dx, xs, e, q⟩ := hr.at' _ m
    exact ⟨_, dx, xs, rfl, e, q.gen⟩
theorem AtG.look {kvs : List (Str × V)} {es : List (Str × D)} (h : AtG Str K F kvs es) {f : Str} {d : D} (e : es.lookup f = some d) : ∃ v, kvs.lookup f = some v ∧ At K F v d := by
  induction h with
  | nil => simp at e
  | @cons p q _ _ r _ ih =>
    obtain ⟨k1, v1⟩ := p; obtain ⟨k2, d1⟩ := q; obtain ⟨e1, r⟩ := r
    cases e1
    rw [List.lookup_cons] at e ⊢
    cases hf : f == k1 with
    | true => rw [hf] at e; cases e; exact ⟨v1, rfl, r⟩
    | false => rw [hf] at e; exact ih e
theorem AtG.lookN {kvs : List (Str × V)} {es : List (Str × D)} (h : AtG Str K F kvs es) {f : Str} (e : es.lookup f = none) : kvs.lookup f = none := by
  induction h with
  | nil => rfl
  | @cons p q _ _ r _ ih =>
    obtain ⟨k1, v1⟩ := p; obtain ⟨k2, d1⟩ := q; obtain ⟨e1, r⟩ := r
    cases e1
    rw [List.lookup_cons] at e ⊢
    cases hf : f == k1 with
    | true => rw [hf] at e; cases e
    | false => rw [hf] at e; exact ih e
theorem Ats.atI {xs : List V} {ds : List D} {i : Int} {d : D} (h : Ats K F xs ds) (e : atI ds i = some d) : ∃ v, L2.atI xs i = some v ∧ At K F v d := by
  unfold L2.atI at e ⊢
  rw [h.length]
  cases hi : ixN ds.length i with
  | none => rw [hi] at e; cases e
  | some j => rw [hi] at e; exact h.get e
end
def cutD (xs : List D) (lo hi : Option Int) : List D := (xs.drop (HT.sIx xs.length 0 lo)).take (HT.sIx xs.length xs.length hi - HT.sIx xs.length 0 lo)
theorem Ats.cut {K : PySem.W.Frag} {F : Hp} {xs : List V} {ds : List D} (h : Ats K F xs ds) (lo hi : Option Int) : Ats K F (cutV xs lo hi) (cutD ds lo hi) := by
  unfold cutV cutD
  rw [h.length]
  exact (h.drop _).take _
section
variable {K : PySem.W.Frag} {W : WX} {X : XP} {F F' H : Hp} {env : DEnv} {M : MS} {P : D → MS → Prop}
/-! subscripts, slices -/
theorem dop_ixL {x : D} {ds : List D} {i : Int} {d : D} (h : IsL M x ds) (e : atI ds i = some d) (k : P d M) : DOp K (rIxL K) x (.int i) M P := fun F H v1 v2 Q hr a1 a2 q => by
  obtain ⟨p, xs, rfl, h1, h2⟩ := h.raw hr a1
  obtain ⟨v, e1, e2⟩ := h2.atI e
  exact ⟨p, xs, i, v, rfl, a2.int_inv, .inl (.inl h1), e1, q.now hr e2 k⟩
theorem dop_ixT {ds : List D} {i : Int} {d : D} (e : atI ds i = some d) (k : P d M) : DOp K (rIxT K) (.tup ds) (.int i) M P := fun F H v1 v2 Q hr a1 a2 q => by
  cases a1 with
  | tup h1 h2 =>
    obtain ⟨v, e1, e2⟩ := h2.atI e
    exact ⟨_, _, i, v, rfl, a2.int_inv, .inl (.inl (hr.s _ _ h1)), e1, q.now hr e2 k⟩
theorem dop_ixS {z : Str} {i : Int} {c : Nat} (h : z.length ≤ sizeLine) (e : atI z.cps.toList i = some c) (k : P (.str ⟨#[c]⟩) M) : DOp K rIxS (.str z) (.int i) M P := fun F H v1 v2 Q hr a1 a2 q =>
  ⟨z, i, c, a1.str_inv, a2.int_inv, h, e, q.now hr (.str _) k⟩
theorem dop_ixQl {x : D} {i : D} (h : DOp K (rIxL K) x i M P) : DOp K (rIx K) x i M P := fun F H v1 v2 Q hr a1 a2 q => .inl (h F H v1 v2 Q hr a1 a2 q)
theorem dop_ixQt {x : D} {i : D} (h : DOp K (rIxT K) x i M P) : DOp K (rIx K) x i M P := fun F H v1 v2 Q hr a1 a2 q => .inr (.inl (h F H v1 v2 Q hr a1 a2 q))
theorem do_none {P : Option Int → MS → Prop} (k : P none M) : DO K W X tNoPart env M P := fun F σ H Q he hr xl q => q F _ H M (Sm.refl F) hr k
theorem do_part {te : TE} {P : Option Int → MS → Prop} (h : DE K W X te env M fun d M1 => ∃ i, d = .int i ∧ P (some i) M1) : DO K W X (tPart te) env M P := fun F σ H Q he hr xl q =>
  h F σ H _ he hr xl fun F1 v1 d1 H1 M1 s1 hr1 a1 ⟨i, e, p⟩ => by subst e; exact ⟨i, a1.int_inv, q F1 _ H1 M1 s1 hr1 p⟩
theorem d_exi {i : Int} {P : Int → Prop} (k : P i) : ∃ j, D.int i = .int j ∧ P j := ⟨i, rfl, k⟩
theorem de_sl {r : V → Option Int → Option Int → Hp → VK → Prop} {te : TE} {tl tu : TO} (h : DE K W X te env M fun d M1 => DO K W X tl env M1 fun l M2 => DO K W X tu env M2 fun u M3 => DSl K r d l u M3 P) : DE K W X (tSl r te tl tu) env M P := fun F σ H Q he hr xl q =>
  h F σ H _ he hr xl fun F1 v1 d1 H1 M1 s1 hr1 a1 h1 => h1 F1 σ H1 _ (he.mono s1) hr1 (xl.mono s1) fun F2 l H2 M2 s2 hr2 h2 => h2 F2 σ H2 _ (he.mono (s1.trans s2)) hr2 (xl.mono (s1.trans s2)) fun F3 u H3 M3 s3 hr3 h3 => h3 F3 H3 v1 Q hr3 (a1.mono (s2.trans s3)) (q.mono ((s1.trans s2).trans s3))
theorem dsl_l {x : D} {ds : List D} {l u : Option Int} (h : IsL M x ds) (k : ∀ a, P (.loc a) ((a, .lst (cutD ds l u)) :: M)) : DSl K (rSlL K) x l u M P := fun F H v Q hr a q => by
  obtain ⟨p, xs, rfl, h1, h2⟩ := h.raw hr a
  exact ⟨p, xs, rfl, .inl (.inl h1), fun b hb => q.new hr hb (o := .lst (cutD ds l u)) (fun H' e => ⟨_, e, h2.cut l u⟩) (k b)⟩
theorem dsl_lV {x : D} {ds : List D} {l u : Option Int} (h : IsL M x ds) (k : P (.lst (cutD ds l u)) M) : DSl K (rSlL K) x l u M P := fun F H v Q hr a q => by
  obtain ⟨p, xs, rfl, h1, h2⟩ := h.raw hr a
  exact ⟨p, xs, rfl, .inl (.inl h1), fun b hb => q.still hr hb (fun F' s e => .lst e ((h2.cut l u).mono s)) k⟩
theorem dsl_s {z : Str} {l u : Option Int} (h : z.length ≤ sizeLine) (k : P (.str (cutS z l u)) M) : DSl K rSlS (.str z) l u M P := fun F H v Q hr a q => ⟨z, a.str_inv, h, q.now hr (.str _) k⟩
theorem de_revL {te : TE} (h : DE K W X te env M fun d M1 => ∃ ds, IsL M1 d ds ∧ ∀ a, P (.loc a) ((a, .lst ds.reverse) :: M1)) : DE K W X (tRevL K te) env M P := fun F σ H Q he hr xl q =>
  h F σ H _ he hr xl fun F1 v1 d1 H1 M1 s1 hr1 a1 ⟨ds, hl, k⟩ => by
    obtain ⟨p, xs, rfl, h1, h2⟩ := hl.raw hr1 a1
    exact ⟨p, xs, rfl, .inl (.inl h1), fun b hb => (q.mono s1).new hr1 hb (o := .lst ds.reverse) (fun H' e => ⟨_, e, h2.reverse⟩) (k b)⟩
/-! texts -/
theorem dop_addS {x y : Str} (h : x.length + y.length ≤ sizeLine) (k : P (.str (x ++ y)) M) : DOp K (fun x y H Q => ∃ a b, x = .str a ∧ y = .str b ∧ a.length + b.length ≤ sizeLine ∧ Q (.str (a ++ b)) H) (.str x) (.str y) M P := fun F H v1 v2 Q hr a1 a2 q =>
  ⟨x, y, a1.str_inv, a2.str_inv, h, q.now hr (.str _) k⟩
theorem dop_cat {x y : D} {ds es : List D} (h1 : IsL M x ds) (h2 : IsL M y es) (h3 : ds.length + es.length ≤ sizeLine) (k : ∀ a, P (.loc a) ((a, .lst (ds ++ es)) :: M)) : DOp K rCat x y M P := fun F H v1 v2 Q hr a1 a2 q => by
  obtain ⟨p, xs, rfl, e1, e2⟩ := h1.raw hr a1
  obtain ⟨p2, ys, rfl, e3, e4⟩ := h2.raw hr a2
  exact ⟨p, p2, xs, ys, rfl, rfl, e1, e3, by rw [e2.length, e4.length]; exact h3, fun b hb => q.new hr hb (o := .lst (ds ++ es)) (fun H' e => ⟨_, e, e2.append e4⟩) (k b)⟩
/-! dicts -/
theorem de_dnewK (k : ∀ a, P (.loc a) ((a, .dct []) :: M)) : DE K W X tDNewK env M P := fun F σ H Q he hr xl q => fun p hp => q.new hr hp (o := .dct []) (fun H' e => ⟨_, e, .nil⟩) (k p)
theorem de_dnewT (k : ∀ a, P (.loc a) ((a, .dcT []) :: M)) : DE K W X tDNewT env M P := fun F σ H Q he hr xl q => fun p hp => q.new hr hp (o := .dcT []) (fun H' e => ⟨_, e, .nil⟩) (k p)
/-- d[y] is r -/
inductive GetD (M : MS) (d y : D) : Option D → Prop
  | k {es : List (Key × D)} {k : Key} : IsK M d es → keyD y = some k → GetD M d y (valD es k)
  | t {es : List (List Key × D)} {k : List Key} : IsT M d es → tkeyD y = some k → GetD M d y (valD es k)
theorem GetD.raw {d y : D} {r : Option D} {v u : V} (g : GetD M d y r) (hr : HR K F H M) (a : At K F v d) (b : At K F u y) : ∃ p, v = .ref p ∧ ((r = none ∧ DGet H p u none) ∨ ∃ x w, r = some x ∧ DGet H p u (some w) ∧ At K F w x) := by
  cases g with
  | @k es k h1 h2 =>
    obtain ⟨p, xs, rfl, e1, e2⟩ := h1.raw hr a
    obtain rfl := b.key h2
    refine ⟨p, rfl, ?_⟩
    rcases e2.val k with ⟨z1, z2⟩ | ⟨w, x, z1, z2, z3⟩
    · exact .inl ⟨z2, .inl ⟨xs, k, e1, rfl, z1.symm⟩⟩
    · exact .inr ⟨x, w, z2, .inl ⟨xs, k, e1, rfl, z1.symm⟩, z3⟩
  | @t es k h1 h2 =>
    obtain ⟨p, xs, rfl, e1, e2⟩ := h1.raw hr a
    obtain ⟨b2, rfl, hb⟩ := b.tkey hr.s h2
    refine ⟨p, rfl, ?_⟩
    rcases e2.val k with ⟨z1, z2⟩ | ⟨w, x, z1, z2, z3⟩
    · exact .inl ⟨z2, .inr ⟨xs, k, b2, e1, rfl, hb, z1.symm⟩⟩
    · exact .inr ⟨x, w, z2, .inr ⟨xs, k, b2, e1, rfl, hb, z1.symm⟩, z3⟩
theorem de_dget {td ty : TE} (h : DE K W X td env M fun d M1 => DE K W X ty env M1 fun y M2 => ∃ x, GetD M2 d y (some x) ∧ P x M2) : DE K W X (tDGet td ty) env M P := fun F σ H Q he hr xl q =>
  h F σ H _ he hr xl fun F1 v1 d1 H1 M1 s1 hr1 a1 hb => hb F1 σ H1 _ (he.mono s1) hr1 (xl.mono s1) fun F2 v2 d2 H2 M2 s2 hr2 a2 ⟨x, g, p⟩ => by
    obtain ⟨b, rfl, g⟩ := g.raw hr2 (a1.mono s2) a2
    rcases g with ⟨z, _⟩ | ⟨x2, w, z, g, aw⟩
    · cases z
    · cases z; exact ⟨b, w, rfl, g, (q.mono (s1.trans s2)).now hr2 aw p⟩
theorem de_din {td ty : TE} (h : DE K W X ty env M fun y M1 => DE K W X td env M1 fun d M2 => ∃ r, GetD M2 d y r ∧ P (.bl r.isSome) M2) : DE K W X (tDIn ty td) env M P := fun F σ H Q he hr xl q =>
  h F σ H _ he hr xl fun F1 v1 d1 H1 M1 s1 hr1 a1 hb => hb F1 σ H1 _ (he.mono s1) hr1 (xl.mono s1) fun F2 v2 d2 H2 M2 s2 hr2 a2 ⟨x, g, p⟩ => by
    obtain ⟨b, rfl, g1⟩ := g.raw hr2 a2 (a1.mono s2)
    rcases g1 with ⟨rfl, g1⟩ | ⟨x2, w, rfl, g1, aw⟩
    · exact ⟨b, _, rfl, g1, (q.mono (s1.trans s2)).now hr2 (.bl _) p⟩
    · exact ⟨b, _, rfl, g1, (q.mono (s1.trans s2)).now hr2 (.bl _) p⟩
theorem de_dnotin {td ty : TE} (h : DE K W X ty env M fun y M1 => DE K W X td env M1 fun d M2 => ∃ r, GetD M2 d y r ∧ P (.bl (!r.isSome)) M2) : DE K W X (tDNotIn ty td) env M P := fun F σ H Q he hr xl q =>
  h F σ H _ he hr xl fun F1 v1 d1 H1 M1 s1 hr1 a1 hb => hb F1 σ H1 _ (he.mono s1) hr1 (xl.mono s1) fun F2 v2 d2 H2 M2 s2 hr2 a2 ⟨x, g, p⟩ => by
    obtain ⟨b, rfl, g1⟩ := g.raw hr2 a2 (a1.mono s2)
    rcases g1 with ⟨rfl, g1⟩ | ⟨x2, w, rfl, g1, aw⟩
    · exact ⟨b, _, rfl, g1, (q.mono (s1.trans s2)).now hr2 (.bl _) p⟩
    · exact ⟨b, _, rfl, g1, (q.mono (s1.trans s2)).now hr2 (.bl _) p⟩
theorem GetD.isD {d y : D} {r : Option D} {v : V} (g : GetD M d y r) (hr : HR K F H M) (a : At K F v d) : ∃ p, v = .ref p ∧ IsD H p := by
  cases g with
  | @k es k h1 h2 => obtain ⟨p, xs, rfl, e1, e2⟩ := h1.raw hr a; exact ⟨p, rfl, .inl ⟨xs, e1⟩⟩
  | @t es k h1 h2 => obtain ⟨p, xs, rfl, e1, e2⟩ := h1.raw hr a; exact ⟨p, rfl, .inr ⟨xs, e1⟩⟩
/-- d is a dict -/
def IsDi (M : MS) (d : D) : Prop := (∃ es, IsK M d es) ∨ ∃ es, IsT M d es
theorem IsDi.raw {d : D} {v : V} (g : IsDi M d) (hr : HR K F H M) (a : At K F v d) : ∃ p, v = .ref p ∧ IsD H p := by
  rcases g with ⟨es, h1⟩ | ⟨es, h1⟩
  · obtain ⟨p, xs, rfl, e1, e2⟩ := h1.raw hr a; exact ⟨p, rfl, .inl ⟨xs, e1⟩⟩
  · obtain ⟨p, xs, rfl, e1, e2⟩ := h1.raw hr a; exact ⟨p, rfl, .inr ⟨xs, e1⟩⟩
theorem de_dget1 {td ty : TE} (h : DE K W X td env M fun d M1 => IsDi M1 d ∧ DE K W X ty env M1 fun y M2 => ∃ r, GetD M2 d y r ∧ P (r.getD .non) M2) : DE K W X (tDGet1 td ty) env M P := fun F σ H Q he hr xl q =>
  h F σ H _ he hr xl fun F1 v1 d1 H1 M1 s1 hr1 a1 ⟨hi, hb⟩ => by
    obtain ⟨p, rfl, hp⟩ := hi.raw hr1 a1
    refine ⟨p, rfl, hp, hb F1 σ H1 _ (he.mono s1) hr1 (xl.mono s1) fun F2 v2 d2 H2 M2 s2 hr2 a2 ⟨x, g, pp⟩ => ?_⟩
    obtain ⟨b, e, g1⟩ := g.raw hr2 (a1.mono s2) a2
    cases e
    rcases g1 with ⟨rfl, g1⟩ | ⟨x2, w, rfl, g1, aw⟩
    · exact ⟨_, g1, (q.mono (s1.trans s2)).now hr2 .non pp⟩
    · exact ⟨_, g1, (q.mono (s1.trans s2)).now hr2 aw pp⟩
theorem de_dget2 {td ty tx : TE} (h : DE K W X td env M fun d M1 => IsDi M1 d ∧ DE K W X ty env M1 fun y M2 => DE K W X tx env M2 fun z M3 => ∃ r, GetD M3 d y r ∧ P (r.getD z) M3) : DE K W X (tDGet2 td ty tx) env M P := fun F σ H Q he hr xl q =>
  h F σ H _ he hr xl fun F1 v1 d1 H1 M1 s1 hr1 a1 ⟨hi, hb⟩ => by
    obtain ⟨p, rfl, hp⟩ := hi.raw hr1 a1
    refine ⟨p, rfl, hp, hb F1 σ H1 _ (he.mono s1) hr1 (xl.mono s1) fun F2 v2 d2 H2 M2 s2 hr2 a2 hc => hc F2 σ H2 _ (he.mono (s1.trans s2)) hr2 (xl.mono (s1.trans s2)) fun F3 v3 d3 H3 M3 s3 hr3 a3 ⟨x, g, pp⟩ => ?_⟩
    obtain ⟨b, e, g1⟩ := g.raw hr3 (a1.mono (s2.trans s3)) (a2.mono s3)
    cases e
    have s := (s1.trans s2).trans s3
    rcases g1 with ⟨rfl, g1⟩ | ⟨x2, w, rfl, g1, aw⟩
    · exact ⟨_, g1, (q.mono s).now hr3 a3 pp⟩
    · exact ⟨_, g1, (q.mono s).now hr3 aw pp⟩
theorem HR.len {M1 M2 : MS} {a : Addr} {es : List (Key × D)} : HR K F H (M1 ++ (a, .dct es) :: M2) → ∃ kvs, H a = some (.dK kvs) ∧ AtG Key K F kvs es := fun h => by
  obtain ⟨kvs, e, q⟩ := h.cell
  exact ⟨kvs, e, q.gen⟩
/-- d[y] = x, d a dict that changes -/
inductive PutD : MS → D → D → D → MS → Prop
  | k {M1 M2 : MS} {a : Addr} {es : List (Key × D)} {y x : D} {k : Key} : keyD y = some k → es.length < sizeLine → PutD (M1 ++ (a, .dct es) :: M2) (.loc a) y x (M1 ++ (a, .dct (putD es k x)) :: M2)
  | t {M1 M2 : MS} {a : Addr} {es : List (List Key × D)} {y x : D} {k : List Key} : tkeyD y = some k → es.length < sizeLine → PutD (M1 ++ (a, .dcT es) :: M2) (.loc a) y x (M1 ++ (a, .dcT (putD es k x)) :: M2)
theorem ds_dput {td ty tv : TE} {De : DEnds} (h : DE K W X tv env M fun x M1 => DE K W X td env M1 fun d M2 => DE K W X ty env M2 fun y M3 => ∃ M4, PutD M3 d y x M4 ∧ De.nx env M4) : DS K W X (sDPut td ty tv) De env M := fun F σ H Ds he hr xl c =>
  h F σ H _ he hr xl fun F1 v1 d1 H1 M1 s1 hr1 a1 hb => hb F1 σ H1 _ (he.mono s1) hr1 (xl.mono s1) fun F2 v2 d2 H2 M2 s2 hr2 a2 hc => hc F2 σ H2 _ (he.mono (s1.trans s2)) hr2 (xl.mono (s1.trans s2)) fun F3 v3 d3 H3 M3 s3 hr3 a3 ⟨M4, g, n⟩ => by
    have s := (s1.trans s2).trans s3
    have b1 := a1.mono (s2.trans s3)
    have b2 := a2.mono s3
    cases g with
    | @k M1 M2 a es _ _ k h1 h2 =>
      obtain rfl := b2.loc_inv
      obtain rfl := a3.key h1
      obtain ⟨kvs, e, q⟩ := hr3.len
      refine ⟨a, _, rfl, .inl ⟨kvs, k, e, rfl, by rw [q.len]; exact h2, rfl⟩, c.nx F3 σ env _ _ s (he.mono s) (hr3.put (o' := .dct (putD es k d1)) fun H' e' => ⟨_, e', (q.put k b1).k⟩) n⟩
    | @t M1 M2 a es _ _ k h1 h2 =>
      obtain rfl := b2.loc_inv
      obtain ⟨b, rfl, hb⟩ := a3.tkey hr3.s h1
      obtain ⟨kvs, e, q⟩ := hr3.cell
      have q := q.gen
      refine ⟨a, _, rfl, .inr ⟨kvs, k, b, e, rfl, hb, by rw [q.len]; exact h2, rfl⟩, c.nx F3 σ env _ _ s (he.mono s) (hr3.put (o' := .dcT (putD es k d1)) fun H' e' => ⟨_, e', (q.put k b1).t⟩) n⟩
/-! fields -/
theorem de_fld {ta : TE} {f : Str} (h : DE K W X ta env M fun d M1 => ∃ C fs x, IsO M1 d C fs ∧ Cls K C ∧ NoAttr K C f ∧ fs.lookup f = some x ∧ P x M1) : DE K W X (tFld K ta f) env M P := fun F σ H Q he hr xl q =>
  h F σ H _ he hr xl fun F1 v1 d1 H1 M1 s1 hr1 a1 ⟨C, fs, x, ho, hc, hn, hl, p⟩ => by
    obtain ⟨b, dx, xs, rfl, e, g⟩ := ho.raw hr1 a1
    obtain ⟨w, e2, aw⟩ := g.look hl
    exact ⟨b, C, dx, xs, w, rfl, e, hc, hn, e2, (q.mono s1).now hr1 aw p⟩
def putFD (f : Str) (x : D) : List (Str × D) → List (Str × D)
  | [] => [(f, x)]
  | (g, y) :: r => if g = f then (g, x) :: r else (g, y) :: putFD f x r
theorem AtG.putF {f : Str} {v : V} {d : D} (a : At K F v d) {kvs : List (Str × V)} {es : List (Str × D)} (h : AtG Str K F kvs es) : AtG Str K F (putF f v kvs) (putFD f d es) := by
  induction h with
  | nil => exact .cons ⟨rfl, a⟩ .nil
  | @cons p q _ _ r t ih =>
    obtain ⟨k1, v1⟩ := p; obtain ⟨k2, d1⟩ := q; obtain ⟨e1, r⟩ := r
    cases e1
    show AtG Str K F (if k1 = f then _ else _) (if k1 = f then _ else _)
    by_cases z : k1 = f
    · rw [if_pos z, if_pos z]; exact .cons ⟨rfl, a⟩ t
    · rw [if_neg z, if_neg z]; exact .cons ⟨rfl, r⟩ ih
theorem ds_fld {ta tv : TE} {f : Str} {De : DEnds} (h : DE K W X tv env M fun x M1 => DE K W X ta env M1 fun d M2 => ∃ a C fs N1 N2, d = .loc a ∧ M2 = N1 ++ (a, .ins C fs) :: N2 ∧ Cls K C ∧ NoAttr K C f ∧ fs.length < 1000 ∧ De.nx env (N1 ++ (a, .ins C (putFD f x fs)) :: N2)) :
    DS K W X (sFld K ta tv f) De env M := fun F σ H Ds he hr xl c =>
  h F σ H _ he hr xl fun F1 v1 d1 H1 M1 s1 hr1 a1 hb => hb F1 σ H1 _ (he.mono s1) hr1 (xl.mono s1) fun F2 v2 d2 H2 M2 s2 hr2 a2 ⟨a, C, fs, N1, N2, e, e2, hc, hn, hl, n⟩ => by
    subst e e2
    obtain rfl := a2.loc_inv
    obtain ⟨dx, vs, e, q⟩ := hr2.cell
    have q := q.gen
    refine ⟨a, C, dx, vs, rfl, e, hc, hn, by rw [q.len]; exact hl, c.nx F2 σ env _ _ (s1.trans s2) (he.mono (s1.trans s2)) (hr2.put (o' := .ins C (putFD f d1 fs)) fun H' e' => ⟨dx, _, e', (q.putF (a1.mono s2)).f⟩) n⟩
end
/-! ### built-in functions -/
section
variable {K : PySem.W.Frag} {W : WX} {X : XP} {F F' H : Hp} {env : DEnv} {M : MS} {P : D → MS → Prop}
theorem Ats.one_inv {vs : List V} {d : D} (h : Ats K F vs [d]) : ∃ v, vs = [v] ∧ At K F v d := by
  cases h with | cons a t => cases t; exact ⟨_, rfl, a⟩
theorem Ats.two_inv {vs : List V} {d e : D} (h : Ats K F vs [d, e]) : ∃ v u, vs = [v, u] ∧ At K F v d ∧ At K F u e := by
  cases h with | cons a t => cases t with | cons b t => cases t; exact ⟨_, _, rfl, a, b⟩
theorem dc_lenL {d : D} {ds : List D} (h : IsL M d ds) (k : P (.int (ds.length : Int)) M) : DC K (rLenSeq K) [d] M P := fun F H vs Q hr b0 q => by
  obtain ⟨v, rfl, a⟩ := b0.one_inv
  obtain ⟨p, xs, rfl, h1, h2⟩ := h.raw hr a
  exact ⟨p, xs, rfl, .inl (.inl (.inl h1)), by rw [h2.length]; exact q.now hr (.int _) k⟩
theorem dc_lenT {ds : List D} (k : P (.int (ds.length : Int)) M) : DC K (rLenSeq K) [.tup ds] M P := fun F H vs Q hr b0 q => by
  obtain ⟨v, rfl, a⟩ := b0.one_inv
  cases a with | tup h1 h2 => exact ⟨_, _, rfl, .inr (.inl (.inl (hr.s _ _ h1))), by rw [h2.length]; exact q.now hr (.int _) k⟩
theorem dc_lenC {ns : List Int} (k : P (.int (ns.length : Int)) M) : DC K (rLenSeq K) [.scr ns] M P := fun F H vs Q hr b0 q => by
  obtain ⟨v, rfl, a⟩ := b0.one_inv
  cases a with | scr h => exact ⟨_, _, rfl, .inl (hr.s.seq h), by rw [List.length_map]; exact q.now hr (.int _) k⟩
theorem dc_lenS {z : Str} (h : z.length ≤ sizeLine) (k : P (.int (z.length : Int)) M) : DC K (fun xs H Q => ∃ z, xs = [.str z] ∧ z.length ≤ sizeLine ∧ Q (.int z.length) H) [.str z] M P := fun F H vs Q hr b0 q => by
  obtain ⟨v, rfl, a⟩ := b0.one_inv
  obtain rfl := a.str_inv
  exact ⟨z, rfl, h, q.now hr (.int _) k⟩
def rLenD : List V → Hp → VK → Prop := fun xs H Q => ∃ a, xs = [V.ref a] ∧ ((∃ kvs : List (Key × V), Rd H a (.dK kvs) ∧ Q (.int kvs.length) H) ∨ ∃ kvs : List (List Key × V), Rd H a (.dT kvs) ∧ False)
theorem call_lenDR {Y : Cx} : CallR Y (.builtin "len") rLenD := by
  intro pins s σ H xs us Q I r h
  obtain ⟨a, rfl, ⟨kvs, ha, q⟩ | ⟨kvs, ha, q⟩⟩ := h
  · obtain ⟨u, rfl, ru⟩ := vals1 r
    cases ru
    exact d_len I ha fun t s' I' => ⟨.int kvs.length, H, I', ⟨t, rfl⟩, q⟩
  · exact q.elim
theorem dc_lenD {d : D} {es : List (Key × D)} (h : IsK M d es) (k : P (.int (es.length : Int)) M) : DC K rLenD [d] M P := fun F H vs Q hr b0 q => by
  obtain ⟨v, rfl, a⟩ := b0.one_inv
  obtain ⟨p, xs, rfl, h1, h2⟩ := h.raw hr a
  exact ⟨p, rfl, .inl ⟨xs, h1, by rw [h2.len]; exact q.now hr (.int _) k⟩⟩
theorem dc_listL {d : D} {ds : List D} (h : IsL M d ds) (k : ∀ a, P (.loc a) ((a, .lst ds) :: M)) : DC K (rListOf K) [d] M P := fun F H vs Q hr b0 q => by
  obtain ⟨v, rfl, a⟩ := b0.one_inv
  obtain ⟨p, xs, rfl, h1, h2⟩ := h.raw hr a
  exact ⟨p, xs, rfl, .inl (.inl (.inl h1)), fun l hl => q.new hr hl (o := .lst ds) (fun H' e => ⟨_, e, h2⟩) (k l)⟩
theorem dc_listT {ds : List D} (k : ∀ a, P (.loc a) ((a, .lst ds) :: M)) : DC K (rListOf K) [.tup ds] M P := fun F H vs Q hr b0 q => by
  obtain ⟨v, rfl, a⟩ := b0.one_inv
  cases a with | tup h1 h2 => exact ⟨_, _, rfl, .inr (.inl (.inl (hr.s _ _ h1))), fun l hl => q.new hr hl (o := .lst ds) (fun H' e => ⟨_, e, h2⟩) (k l)⟩
theorem dc_tupL {d : D} {ds : List D} (h : IsL M d ds) (k : P (.tup ds) M) : DC K (rTupleOf K) [d] M P := fun F H vs Q hr b0 q => by
  obtain ⟨v, rfl, a⟩ := b0.one_inv
  obtain ⟨p, xs, rfl, h1, h2⟩ := h.raw hr a
  exact ⟨p, xs, rfl, .inl ⟨.inl (.inl h1), fun l hl => q.still hr hl (fun F' s e => .tup e (h2.mono s)) k⟩⟩
theorem dc_abs {i : Int} (k : P (.int (if i < 0 then -i else i)) M) : DC K (fun xs H Q => ∃ i, xs = [.int i] ∧ Q (.int (if i < 0 then -i else i)) H) [.int i] M P := fun F H vs Q hr b0 q => by
  obtain ⟨v, rfl, a⟩ := b0.one_inv
  obtain rfl := a.int_inv
  exact ⟨i, rfl, q.now hr (.int _) k⟩
theorem dc_max2 {i j : Int} (k : P (.int (if j > i then j else i)) M) : DC K (fun xs H Q => ∃ i j, xs = [.int i, .int j] ∧ Q (.int (if j > i then j else i)) H) [.int i, .int j] M P := fun F H vs Q hr b0 q => by
  obtain ⟨v, u, rfl, a, b⟩ := b0.two_inv
  obtain rfl := a.int_inv
  obtain rfl := b.int_inv
  exact ⟨i, j, rfl, q.now hr (.int _) k⟩
theorem dc_min2 {i j : Int} (k : P (.int (if j < i then j else i)) M) : DC K (fun xs H Q => ∃ i j, xs = [.int i, .int j] ∧ Q (.int (if j < i then j else i)) H) [.int i, .int j] M P := fun F H vs Q hr b0 q => by
  obtain ⟨v, u, rfl, a, b⟩ := b0.two_inv
  obtain rfl := a.int_inv
  obtain rfl := b.int_inv
  exact ⟨i, j, rfl, q.now hr (.int _) k⟩
theorem dc_int1 {i : Int} (k : P (.int i) M) : DC K (fun xs H Q => (∃ i, xs = [.int i] ∧ Q (.int i) H) ∨ ∃ k, xs = [.bl k] ∧ Q (.int (if k then 1 else 0)) H) [.int i] M P := fun F H vs Q hr b0 q => by
  obtain ⟨v, rfl, a⟩ := b0.one_inv
  obtain rfl := a.int_inv
  exact .inl ⟨i, rfl, q.now hr (.int _) k⟩
theorem dc_intB {b : Bool} (k : P (.int (if b then 1 else 0)) M) : DC K (fun xs H Q => (∃ i, xs = [.int i] ∧ Q (.int i) H) ∨ ∃ k, xs = [.bl k] ∧ Q (.int (if k then 1 else 0)) H) [.bl b] M P := fun F H vs Q hr b0 q => by
  obtain ⟨v, rfl, a⟩ := b0.one_inv
  obtain rfl := a.bl_inv
  exact .inr ⟨b, rfl, q.now hr (.int _) k⟩
theorem dc_strI {i : Int} (h : i.natAbs.log2 < 1920) (k : P (.str (toString i)) M) : DC K (fun xs H Q => ∃ i, xs = [.int i] ∧ i.natAbs.log2 < 1920 ∧ Q (.str (toString i)) H) [.int i] M P := fun F H vs Q hr b0 q => by
  obtain ⟨v, rfl, a⟩ := b0.one_inv
  obtain rfl := a.int_inv
  exact ⟨i, rfl, h, q.now hr (.str _) k⟩
theorem dc_intS {x : Str} {n : Int} (h : PySem.intText? x = some n) (hl : x.length ≤ 640) (k : P (.int n) M) : DC K (fun xs H Q => ∃ a n, xs = [.str a] ∧ PySem.intText? a = some n ∧ a.length ≤ 640 ∧ Q (.int n) H) [.str x] M P := fun F H vs Q hr b0 q => by
  obtain ⟨v, rfl, a⟩ := b0.one_inv
  obtain rfl := a.str_inv
  exact ⟨x, n, rfl, h, hl, q.now hr (.int _) k⟩
theorem dc_all {d : D} {bs : List Bool} (h : IsL M d (bs.map D.bl)) (k : P (.bl (bs.all id)) M) : DC K (rAll K) [d] M P := fun F H vs Q hr b0 q => by
  obtain ⟨v, rfl, a⟩ := b0.one_inv
  obtain ⟨p, xs, rfl, h1, h2⟩ := h.raw hr a
  rw [h2.bls] at h1
  exact ⟨p, bs, rfl, .inl (.inl h1), q.now hr (.bl _) k⟩
theorem dc_any {d : D} {bs : List Bool} (h : IsL M d (bs.map D.bl)) (k : P (.bl (bs.any id)) M) : DC K (rAny K) [d] M P := fun F H vs Q hr b0 q => by
  obtain ⟨v, rfl, a⟩ := b0.one_inv
  obtain ⟨p, xs, rfl, h1, h2⟩ := h.raw hr a
  rw [h2.bls] at h1
  exact ⟨p, bs, rfl, .inl (.inl h1), q.now hr (.bl _) k⟩
theorem dc_sum {d : D} {ns : List Int} (h : IsL M d (ns.map D.int)) (k : P (.int ns.sum) M) : DC K (rSum K) [d] M P := fun F H vs Q hr b0 q => by
  obtain ⟨v, rfl, a⟩ := b0.one_inv
  obtain ⟨p, xs, rfl, h1, h2⟩ := h.raw hr a
  rw [h2.ints] at h1
  exact ⟨p, ns, rfl, .inl (.inl h1), q.now hr (.int _) k⟩
theorem dc_max {d : D} {ns : List Int} (h : IsL M d (ns.map D.int)) (h0 : 0 < ns.length) (k : ∀ m, m ∈ ns → (∀ y, y ∈ ns → y ≤ m) → P (.int m) M) : DC K (rMax K) [d] M P := fun F H vs Q hr b0 q => by
  obtain ⟨v, rfl, a⟩ := b0.one_inv
  obtain ⟨p, xs, rfl, h1, h2⟩ := h.raw hr a
  rw [h2.ints] at h1
  exact ⟨p, ns, rfl, .inl (.inl h1), h0, fun m m1 m2 => q.now hr (.int _) (k m m1 m2)⟩
theorem dc_min {d : D} {ns : List Int} (h : IsL M d (ns.map D.int)) (h0 : 0 < ns.length) (k : ∀ m, m ∈ ns → (∀ y, y ∈ ns → m ≤ y) → P (.int m) M) : DC K (rMin K) [d] M P := fun F H vs Q hr b0 q => by
  obtain ⟨v, rfl, a⟩ := b0.one_inv
  obtain ⟨p, xs, rfl, h1, h2⟩ := h.raw hr a
  rw [h2.ints] at h1
  exact ⟨p, ns, rfl, .inl (.inl h1), h0, fun m m1 m2 => q.now hr (.int _) (k m m1 m2)⟩
/-- dict(a list of pairs) -/
def pairsD : List D → Option (List (Key × D))
  | [] => some []
  | .tup [y, x] :: t => do (← keyD y, x) :: (← pairsD t)
  | _ => none
theorem AtG.mergeK {ks ms : List (Key × V)} {es fs : List (Key × D)} (h : AtG Key K F ks es) (g : AtG Key K F ms fs) : AtG Key K F (L2.mergeK ks ms) (mergeD es fs) := by
  induction g generalizing ks es with
  | nil => exact h
  | @cons p q _ _ r _ ih =>
    obtain ⟨k1, v1⟩ := p; obtain ⟨k2, d1⟩ := q; obtain ⟨e1, r⟩ := r
    cases e1
    exact ih (h.put k1 r)
theorem Ats.pairs : ∀ {ds : List D} {xs : List V} {es : List (Key × D)}, Same F H → Ats K F xs ds → pairsD ds = some es → ∃ (ps : List Addr) (kvs : List (Key × V)), xs = ps.map V.ref ∧ Paired (fun p kv => SqT K H p [kV kv.1, kv.2]) ps kvs ∧ AtG Key K F kvs es := by
  intro ds
  induction ds with
  | nil => intro xs es s h e; cases h; cases e; exact ⟨[], [], rfl, .nil, .nil⟩
  | cons d ds ih =>
    intro xs es s h e
    cases h with
    | cons h1 h2 =>
      match d, e with
      | .tup [y, x], e =>
        simp only [pairsD] at e
        cases hk : keyD y with
        | none => rw [hk] at e; simp at e
        | some k0 =>
          rw [hk] at e
          cases hr : pairsD ds with
          | none => rw [hr] at e; simp at e
          | some kr =>
            rw [hr] at e
            simp at e
            subst e
            obtain ⟨ps, kvs, rfl, e2, e3⟩ := ih s h2 hr
            cases h1 with
            | @tup a ys _ g1 g2 =>
              obtain ⟨v, u, rfl, g3, g4⟩ := g2.two_inv
              obtain rfl := g3.key hk
              exact ⟨a :: ps, (k0, u) :: kvs, rfl, .cons (.inl (.inl (s _ _ g1))) e2, .cons ⟨rfl, g4⟩ e3⟩
theorem dc_dictP {d : D} {ds : List D} {es : List (Key × D)} (h : IsL M d ds) (e : pairsD ds = some es) (k : ∀ a, P (.loc a) ((a, .dct (mergeD [] es)) :: M)) : DC K (rDictP K) [d] M P := fun F H vs Q hr b0 q => by
  obtain ⟨v, rfl, a⟩ := b0.one_inv
  obtain ⟨p, xs, rfl, h1, h2⟩ := h.raw hr a
  obtain ⟨ps, kvs, rfl, e2, e3⟩ := h2.pairs hr.s e
  exact ⟨p, ps, kvs, rfl, .inl (.inl h1), e2, fun l hl => q.new hr hl (o := .dct (mergeD [] es)) (fun H' z => ⟨_, z, (AtG.mergeK .nil e3).k⟩) (k l)⟩
theorem dc_dictD {d : D} {es : List (Key × D)} (h : IsK M d es) (k : ∀ a, P (.loc a) ((a, .dct es) :: M)) : DC K (fun xs H Q => ∃ (a : Addr) (kvs : List (Key × V)), xs = [.ref a] ∧ Rd H a (.dK kvs) ∧ ∀ p, H p = none → Q (.ref p) (upd H p (.dK kvs))) [d] M P := fun F H vs Q hr b0 q => by
  obtain ⟨v, rfl, a⟩ := b0.one_inv
  obtain ⟨p, xs, rfl, h1, h2⟩ := h.raw hr a
  exact ⟨p, xs, rfl, h1, fun l hl => q.new hr hl (o := .dct es) (fun H' z => ⟨_, z, h2.k⟩) (k l)⟩
/-! isinstance -/
inductive TyD (M : MS) : D → PyData → Prop
  | non : TyD M .non .none
  | bl (b : Bool) : TyD M (.bl b) (.bool b)
  | int (i : Int) : TyD M (.int i) (.int i)
  | str (x : Str) : TyD M (.str x) (.str x)
  | lst {d : D} {ds : List D} : IsL M d ds → TyD M d (.list [])
  | tup (ds : List D) : TyD M (.tup ds) (.tuple [])
  | dct {d : D} {es : List (Key × D)} : IsK M d es → TyD M d (.dict [])
theorem TyD.raw {d : D} {p : PyData} {v : V} (t : TyD M d p) (hr : HR K F H M) (a : At K F v d) : TyX K H v (.type (tyOf p)) := by
  cases t with
  | non => obtain rfl := a.non_inv; exact .base .non
  | bl b => obtain rfl := a.bl_inv; exact .base (.bl b)
  | int i => obtain rfl := a.int_inv; exact .base (.int i)
  | str x => obtain rfl := a.str_inv; exact .base (.str x)
  | lst h => obtain ⟨p, xs, rfl, h1, h2⟩ := h.raw hr a; exact .base (.lst h1)
  | tup ds => cases a with | tup h1 h2 => exact .base (.tup (hr.s _ _ h1))
  | dct h =>
    obtain ⟨p, xs, rfl, h1, h2⟩ := h.raw hr a
    rcases h1 with h1 | ⟨o, h1⟩
    · exact .base (.dK h1)
    · exact .fDict h1
theorem dc_isi {d : D} {p : PyData} {T : String} (hT : T = "int" ∨ T = "bool" ∨ T = "str" ∨ T = "list" ∨ T = "tuple" ∨ T = "dict") (t : TyD M d p) (k : P (.bl (isTy T p)) M) : DC K (rIsi K) [d, .ty T] M P := fun F H vs Q hr b0 q => by
  obtain ⟨v, u, rfl, a, b⟩ := b0.two_inv
  cases b
  exact ⟨v, .ty T, _, .type T, _, rfl, .ty T, t.raw hr a, kit_is p hT, q.now hr (.bl _) k⟩
theorem dc_isiLT {d : D} {p : PyData} (t : TyD M d p) (k : P (.bl (isTy "list" p || isTy "tuple" p)) M) : DC K (rIsiT K) [d, .tup [.ty "list", .ty "tuple"]] M P := fun F H vs Q hr b0 q => by
  obtain ⟨v, u, rfl, a, b⟩ := b0.two_inv
  cases b with
  | @tup tp _ _ h1 h2 =>
    obtain ⟨v1, v2, rfl, a1, a2⟩ := h2.two_inv
    cases a1; cases a2
    have h1 := hr.s _ _ h1
    have ty := t.raw hr a
    refine ⟨v, tp, _, .type (tyOf p), [.type "list", .type "tuple"], _, rfl, h1, .cons (.ty _) (.cons (.ty _) .nil), ty, ?_, q.now hr (.bl _) k⟩
    have k1 := kit_is (K := K) p (T := "list") (by simp)
    have k2 := kit_is (K := K) p (T := "tuple") (by simp)
    cases e : isTy "list" p with
    | true => exact kitAny_cons (b := true) (k1.trans (by rw [e])) (fun z => nomatch z) (fun _ => rfl)
    | false =>
      refine kitAny_cons (b := false) (k1.trans (by rw [e])) (fun _ => ?_) (fun z => nomatch z)
      cases e2 : isTy "tuple" p with
      | true => exact kitAny_cons (b := true) (k2.trans (by rw [e2])) (fun z => nomatch z) (fun _ => rfl)
      | false => exact kitAny_cons (b := false) (k2.trans (by rw [e2])) (fun _ => rfl) (fun z => nomatch z)
/-! is None -/
def isNon : D → Bool
  | .non => true | _ => false
theorem At.isNon {v : V} {d : D} (a : At K F v d) : decide (v = .non) = isNon d := by
  cases a <;> rfl
theorem dop_isNon {d : D} (k : P (.bl (isNon d)) M) : DOp K (fun x y H Q => y = .non ∧ Q (.bl (decide (x = .non))) H) d .non M P := fun F H v1 v2 Q hr a1 a2 q => ⟨a2.non_inv, by rw [a1.isNon]; exact q.now hr (.bl _) k⟩
theorem dop_notNon {d : D} (k : P (.bl (!isNon d)) M) : DOp K (fun x y H Q => y = .non ∧ Q (.bl (!decide (x = .non))) H) d .non M P := fun F H v1 v2 Q hr a1 a2 q => ⟨a2.non_inv, by rw [a1.isNon]; exact q.now hr (.bl _) k⟩
/-! in -/
theorem dop_inS {c : Nat} {z : Str} (k : P (.bl (decide (c ∈ z.cps.toList))) M) : DOp K (fun x y H Q => ∃ (c : Nat) (z : Str), x = .str ⟨#[c]⟩ ∧ y = .str z ∧ Q (.bl (decide (c ∈ z.cps.toList))) H) (.str ⟨#[c]⟩) (.str z) M P := fun F H v1 v2 Q hr a1 a2 q => ⟨c, z, a1.str_inv, a2.str_inv, q.now hr (.bl _) k⟩
/-- a list, a tuple of texts -/
inductive IsS (M : MS) : D → List Str → Prop
  | l {d : D} {ns : List Str} : IsL M d (ns.map D.str) → IsS M d ns
  | t {ns : List Str} : IsS M (.tup (ns.map D.str)) ns
  | k {ns : List Str} : IsS M (.ktp ns) ns
theorem IsS.raw {d : D} {ns : List Str} {v : V} (t : IsS M d ns) (hr : HR K F H M) (a : At K F v d) : ∃ p, v = .ref p ∧ SeqS K H p ns := by
  cases t with
  | l h => obtain ⟨p, xs, rfl, h1, h2⟩ := h.raw hr a; rw [h2.strs] at h1; exact ⟨p, rfl, .inl (.inl (.inl h1))⟩
  | t => cases a with | tup h1 h2 => rw [h2.strs] at h1; exact ⟨_, rfl, .inr (.inl (.inl (hr.s _ _ h1)))⟩
  | k => cases a with | ktp h => exact ⟨_, rfl, .inr (hr.s.tup h)⟩
theorem dop_in {d : D} {ns : List Str} {n : Str} (t : IsS M d ns) (k : P (.bl (decide (n ∈ ns))) M) : DOp K (rIn K false) (.str n) d M P := fun F H v1 v2 Q hr a1 a2 q => by
  obtain rfl := a1.str_inv
  obtain ⟨p, rfl, h⟩ := t.raw hr a2
  exact w_inSeq h (q.now hr (.bl _) k)
theorem dop_notin {d : D} {ns : List Str} {n : Str} (t : IsS M d ns) (k : P (.bl (!decide (n ∈ ns))) M) : DOp K (rIn K true) (.str n) d M P := fun F H v1 v2 Q hr a1 a2 q => by
  obtain rfl := a1.str_inv
  obtain ⟨p, rfl, h⟩ := t.raw hr a2
  exact w_notInSeq h (q.now hr (.bl _) k)
/-! methods -/
def TyM (M : MS) (T : String) (d : D) : Prop := (T = "list" ∧ ∃ ds, IsL M d ds) ∨ (T = "str" ∧ ∃ z, d = .str z)
theorem TyM.raw {d : D} {T : String} {v : V} (t : TyM M T d) (hr : HR K F H M) (a : At K F v d) : tyV K T v H := by
  rcases t with ⟨rfl, ds, h⟩ | ⟨rfl, z, rfl⟩
  · obtain ⟨p, xs, rfl, h1, h2⟩ := h.raw hr a; exact .inl ⟨rfl, xs, .inl (.inl h1)⟩
  · obtain rfl := a.str_inv; exact rfl
theorem de_bm {T : String} {r : V → List V → Hp → VK → Prop} {to : TE} {t : TA} (h : DE K W X to env M fun d M1 => TyM M1 T d ∧ DA K W X t env M1 fun ds M2 => DM K r d ds M2 P) : DE K W X (tBM K T r to t) env M P := fun F σ H Q he hr xl q =>
  h F σ H _ he hr xl fun F1 v1 d1 H1 M1 s1 hr1 a1 ⟨ty, h2⟩ => ⟨ty.raw hr1 a1, h2 F1 σ H1 _ (he.mono s1) hr1 (xl.mono s1) fun F2 vs ds H2 M2 s2 hr2 a2 h3 => h3 F2 H2 v1 vs Q hr2 (a1.mono s2) a2 (q.mono (s1.trans s2))⟩
theorem de_bm0 {T : String} {r : V → List V → Hp → VK → Prop} {to : TE} (h : DE K W X to env M fun d M1 => TyM M1 T d ∧ DM K r d [] M1 P) : DE K W X (tBM0 K T r to) env M P := fun F σ H Q he hr xl q =>
  h F σ H _ he hr xl fun F1 v1 d1 H1 M1 s1 hr1 a1 ⟨ty, h3⟩ => ⟨ty.raw hr1 a1, h3 F1 H1 v1 [] Q hr1 a1 .nil (q.mono s1)⟩
theorem dm_append {M1 M2 : MS} {a : Addr} {ds : List D} {x : D} (h : ds.length < sizeLine) (k : P .non (M1 ++ (a, .lst (ds ++ [x])) :: M2)) : DM K rAppend (.loc a) [x] (M1 ++ (a, .lst ds) :: M2) P := fun F H v vs Q hr b c0 q => by
  obtain rfl := b.loc_inv
  obtain ⟨u, rfl, c⟩ := c0.one_inv
  obtain ⟨xs, e, g⟩ := hr.cell
  exact ⟨a, xs, u, rfl, rfl, e, by rw [g.length]; exact h, q.put hr (o' := .lst (ds ++ [x])) (fun H' e' => ⟨_, e', g.append (.one c)⟩) .non k⟩
theorem dm_extend {M1 M2 : MS} {a : Addr} {ds es : List D} {x : D} (hx : IsL (M1 ++ (a, .lst ds) :: M2) x es) (h : ds.length + es.length ≤ sizeLine) (k : P .non (M1 ++ (a, .lst (ds ++ es)) :: M2)) : DM K rExtend (.loc a) [x] (M1 ++ (a, .lst ds) :: M2) P := fun F H v vs Q hr b c0 q => by
  obtain rfl := b.loc_inv
  obtain ⟨u, rfl, c⟩ := c0.one_inv
  obtain ⟨p, ys, rfl, h1, h2⟩ := hx.raw hr c
  obtain ⟨xs, e, g⟩ := hr.cell
  exact ⟨a, p, xs, ys, rfl, rfl, e, h1, by rw [g.length, h2.length]; exact h, q.put hr (o' := .lst (ds ++ es)) (fun H' e' => ⟨_, e', g.append h2⟩) .non k⟩
theorem dm_pop {M1 M2 : MS} {a : Addr} {ds : List D} {x : D} (h : ds[ds.length - 1]? = some x) (k : P x (M1 ++ (a, .lst ds.dropLast) :: M2)) : DM K rPop (.loc a) [] (M1 ++ (a, .lst ds) :: M2) P := fun F H v vs Q hr b c q => by
  obtain rfl := b.loc_inv
  cases c
  obtain ⟨xs, e, g⟩ := hr.cell
  obtain ⟨y, e1, e2⟩ := g.get h
  exact ⟨a, xs, y, rfl, rfl, e, by rw [g.length]; exact e1, q.put hr (o' := .lst ds.dropLast) (fun H' e' => ⟨_, e', g.dropLast⟩) e2 k⟩
theorem dm_popAt {M1 M2 : MS} {a : Addr} {ds : List D} {x : D} {i : Int} (h0 : 0 ≤ i) (h1 : i < ds.length) (hl : ds.length < 1000000) (h : ds[i.toNat]? = some x) (k : P x (M1 ++ (a, .lst (ds.eraseIdx i.toNat)) :: M2)) : DM K rPopAt (.loc a) [.int i] (M1 ++ (a, .lst ds) :: M2) P := fun F H v vs Q hr b c0 q => by
  obtain rfl := b.loc_inv
  obtain ⟨u, rfl, c⟩ := c0.one_inv
  obtain rfl := c.int_inv
  obtain ⟨xs, e, g⟩ := hr.cell
  obtain ⟨y, e1, e2⟩ := g.get h
  exact w_popAt e h0 (by rw [g.length]; exact h1) (by rw [g.length]; exact hl) e1 (q.put hr (o' := .lst (ds.eraseIdx i.toNat)) (fun H' e' => ⟨_, e', g.eraseIdx _⟩) e2 k)
theorem dm_clear {M1 M2 : MS} {a : Addr} {ds : List D} (k : P .non (M1 ++ (a, .lst []) :: M2)) : DM K rClear (.loc a) [] (M1 ++ (a, .lst ds) :: M2) P := fun F H v vs Q hr b c q => by
  obtain rfl := b.loc_inv
  cases c
  obtain ⟨xs, e, g⟩ := hr.cell
  exact ⟨a, xs, rfl, rfl, e, q.put hr (o' := .lst []) (fun H' e' => ⟨_, e', .nil⟩) .non k⟩
theorem dm_index {d : D} {ns : List Str} {n : Str} (h : IsL M d (ns.map D.str)) (hm : n ∈ ns) (k : P (.int ((idx ns n : Nat) : Int)) M) : DM K (rIndex K) d [.str n] M P := fun F H v vs Q hr b c0 q => by
  obtain ⟨p, xs, rfl, h1, h2⟩ := h.raw hr b
  obtain ⟨u, rfl, c⟩ := c0.one_inv
  obtain rfl := c.str_inv
  rw [h2.strs] at h1
  exact w_index (.inl (.inl h1)) hm (q.now hr (.int _) k)
theorem dm_join {a : Str} {d : D} {ys : List Str} (h : IsL M d (ys.map D.str)) (z : (ys.map (·.length)).sum + ys.length * a.length ≤ 16777216) (k : P (.str (Txt.join a ys)) M) : DM K (rJoin K) (.str a) [d] M P := fun F H v vs Q hr b c0 q => by
  obtain rfl := b.str_inv
  obtain ⟨u, rfl, c⟩ := c0.one_inv
  obtain ⟨p, xs, rfl, h1, h2⟩ := h.raw hr c
  rw [h2.strs] at h1
  exact w_join (.inl (.inl h1)) z (q.now hr (.str _) k)
theorem dm_split {a b : Str} (hb : (b.length == 0) = false) (hl : a.length + 2 ≤ sizeLine) (k : ∀ p, P (.loc p) ((p, .lst ((Txt.split a b).map D.str)) :: M)) :
    DM K (fun x xs H Q => ∃ a b, x = V.str a ∧ xs = [V.str b] ∧ (b.length == 0) = false ∧ a.length + 2 ≤ sizeLine ∧ rNewStrs (Txt.split a b) H Q) (.str a) [.str b] M P := fun F H v vs Q hr c e0 q => by
  obtain rfl := c.str_inv
  obtain ⟨u, rfl, e⟩ := e0.one_inv
  obtain rfl := e.str_inv
  exact ⟨a, b, rfl, rfl, hb, hl, fun p hp => q.new hr hp (o := .lst ((Txt.split a b).map D.str)) (fun H' e' => ⟨_, e', ats_strs _⟩) (k p)⟩
/-! xs[i] = x -/
theorem dg_sub {to ti : TE} {x : D} {R : DEnv → MS → Prop} (h : DE K W X to env M fun d M1 => DE K W X ti env M1 fun y M2 => ∃ a ds i n N1 N2, d = .loc a ∧ y = .int i ∧ M2 = N1 ++ (a, .lst ds) :: N2 ∧ ixN ds.length i = some n ∧ R env (N1 ++ (a, .lst (ds.set n x)) :: N2)) :
    DG K W X (gSub to ti rSetL) x env M R := fun F σ H v Q he hr xl av c =>
  h F σ H _ he hr xl fun F1 v1 d1 H1 M1 s1 hr1 a1 h2 => h2 F1 σ H1 _ (he.mono s1) hr1 (xl.mono s1) fun F2 v2 d2 H2 M2 s2 hr2 a2 ⟨a, ds, i, n, N1, N2, e1, e2, e3, e4, k⟩ => by
    subst e1 e2 e3
    obtain rfl := (a1.mono s2).loc_inv
    obtain rfl := a2.int_inv
    obtain ⟨xs, e, g⟩ := hr2.cell
    have s := s1.trans s2
    exact ⟨a, xs, i, n, rfl, rfl, e, by rw [g.length]; exact e4, c F2 σ env _ _ s (he.mono s) (hr2.put (o' := .lst (ds.set n x)) fun H' e' => ⟨_, e', g.set (av.mono s) n⟩) k⟩
end
/-! ### what is walked -/
structure WkD (K : PySem.W.Frag) (F0 : Hp) (J : It) (xs : List D) (G : MS → Prop) : Prop where
  goes : ∀ i F H M, i < xs.length → Sm F0 F → HR K F H M → G M → J.go i H
  stops : ∀ F H M, Sm F0 F → HR K F H M → G M → J.stop xs.length H
  yields : ∀ i F H M x H', i < xs.length → Sm F0 F → HR K F H M → G M → J.yld i H x H' → ∃ F' d, xs[i]? = some d ∧ Sm F F' ∧ HR K F' H' M ∧ At K F' x d
theorem WkD.mono {K : PySem.W.Frag} {F0 F1 : Hp} {J : It} {xs : List D} {G : MS → Prop} (s : Sm F0 F1) (w : WkD K F0 J xs G) : WkD K F1 J xs G :=
  ⟨fun i F H M hi q => w.goes i F H M hi (s.trans q), fun F H M q => w.stops F H M (s.trans q), fun i F H M x H' hi q => w.yields i F H M x H' hi (s.trans q)⟩
def DI (K : PySem.W.Frag) (W : WX) (X : XP) (wi : TI) (env : DEnv) (M : MS) (R : List D → (MS → Prop) → MS → Prop) : Prop := ∀ F σ H (Rr : It → Hp → Prop), EnvAt K F σ env → HR K F H M → XL K F W X →
  (∀ F' J xs G H' M', Sm F F' → HR K F' H' M' → WkD K F' J xs G → R xs G M' → Rr J H') → wi σ H Rr
def ofKey : Key → D
  | .inl i => .int i | .inr s => .str s
theorem at_key {K : PySem.W.Frag} {F : Hp} (k : Key) : At K F (kV k) (ofKey k) := by
  cases k with
  | inl i => exact .int i
  | inr s => exact .str s
theorem ats_keys {K : PySem.W.Frag} {F : Hp} : ∀ k : List Key, Ats K F (k.map kV) (k.map ofKey)
  | [] => .nil
  | a :: k => .cons (at_key a) (ats_keys k)
section
variable {K : PySem.W.Frag} {W : WX} {X : XP} {F F' H : Hp} {env : DEnv} {M : MS} {P : D → MS → Prop} {R : List D → (MS → Prop) → MS → Prop}
/-- a tuple that stands in H is taken in -/
theorem HR.adopt {q : Addr} {xs : List V} {ds : List D} (hr : HR K F H M) (h : H q = some (.tup xs)) (a : Ats K F xs ds) : ∃ F', Sm F F' ∧ HR K F' H M ∧ At K F' (.ref q) (.tup ds) := by
  cases e : F q with
  | some u =>
    have := hr.s _ _ e
    rw [h] at this
    cases this
    exact ⟨F, Sm.refl F, hr, .tup e a⟩
  | none =>
    have s : Sm F (upd F q (.tup xs)) := Sm.of (Same.new e)
    have hn : ∀ p ∈ M, p.1 ≠ q := fun p hp z => by
      have ho := (hr.at' p hp).2
      rw [z] at ho
      obtain ⟨p1, o⟩ := p
      cases o with
      | lst => obtain ⟨_, e, _⟩ := ho; rw [h] at e; cases e
      | dct => obtain ⟨_, e, _⟩ := ho; rw [h] at e; cases e
      | dcT => obtain ⟨_, e, _⟩ := ho; rw [h] at e; cases e
      | ins => obtain ⟨_, _, e, _⟩ := ho; rw [h] at e; cases e
      | lck => obtain ⟨e, _⟩ := ho; rw [h] at e; cases e
    refine ⟨_, s, ⟨fun b u e2 => ?_, hr.nd, fun p hp => ⟨(upd_ne (hn p hp)).trans (hr.at' p hp).1, (hr.at' p hp).2.mono s rfl⟩⟩, .tup upd_same (a.mono s)⟩
    by_cases z : b = q
    · subst z; rw [upd_same] at e2; rw [← e2]; exact h
    · rw [upd_ne z] at e2; exact hr.s _ _ e2
theorem di_list {te : TE} (h : DE K W X te env M fun d M1 => ∃ xs, IsL M1 d xs ∧ R xs (fun M' => IsL M' d xs) M1) : DI K W X (iList K te) env M R := fun F σ H Rr he hr xl q =>
  h F σ H _ he hr xl fun F1 v1 d1 H1 M1 s1 hr1 a1 ⟨xs, hl, p⟩ => by
    obtain ⟨a, ys, rfl, h1, h2⟩ := hl.raw hr1 a1
    have rd : ∀ {F H M}, Sm F1 F → HR K F H M → IsL M d1 xs → ∃ zs, H a = some (.lst zs) ∧ Ats K F zs xs := fun {F H M} s hr hl => by
      obtain ⟨b, zs, e, h3, h4⟩ := hl.raw hr (a1.mono s)
      cases e; exact ⟨zs, h3, h4⟩
    refine ⟨a, rfl, ⟨ys, .inl (.inl h1)⟩, q F1 _ xs (fun M' => IsL M' d1 xs) H1 M1 s1 hr1 ⟨fun i F H M hi s hr g => ?_, fun F H M s hr g => ?_, fun i F H M x H' hi s hr g y => ?_⟩ p⟩
    · obtain ⟨zs, h3, h4⟩ := rd s hr g
      exact ⟨zs, zs[i]'(by rw [h4.length]; exact hi), .inl (.inl h3), List.getElem?_eq_getElem _⟩
    · obtain ⟨zs, h3, h4⟩ := rd s hr g
      exact ⟨zs, .inl (.inl h3), by rw [h4.length]; exact Nat.le_refl _⟩
    · obtain ⟨zs, h3, h4⟩ := rd s hr g
      obtain ⟨rfl, y⟩ := y
      obtain ⟨d, e1, e2⟩ := h4.getV (y zs (.inl (.inl h3)))
      exact ⟨F, d, e1, Sm.refl F, hr, e2⟩
theorem di_tup {te : TE} (h : DE K W X te env M fun d M1 => ∃ xs, d = .tup xs ∧ R xs (fun _ => True) M1) : DI K W X (iTup K te) env M R := fun F σ H Rr he hr xl q =>
  h F σ H _ he hr xl fun F1 v1 d1 H1 M1 s1 hr1 a1 ⟨xs, hl, p⟩ => by
    subst hl
    cases a1 with
    | @tup a ys _ h1 h2 =>
      have rd : ∀ {F H M}, Sm F1 F → HR K F H M → H a = some (.tup ys) := fun {F H M} s hr => hr.s _ _ (s.tup h1)
      refine ⟨a, rfl, ⟨ys, .inl (.inl (rd (Sm.refl _) hr1))⟩, q F1 _ xs (fun _ => True) H1 M1 s1 hr1 ⟨fun i F H M hi s hr g => ?_, fun F H M s hr g => ?_, fun i F H M x H' hi s hr g y => ?_⟩ p⟩
      · exact ⟨ys, ys[i]'(by rw [h2.length]; exact hi), .inl (.inl (rd s hr)), List.getElem?_eq_getElem _⟩
      · exact ⟨ys, .inl (.inl (rd s hr)), by rw [h2.length]; exact Nat.le_refl _⟩
      · obtain ⟨rfl, y⟩ := y
        obtain ⟨d, e1, e2⟩ := h2.getV (y ys (.inl (.inl (rd s hr))))
        exact ⟨F, d, e1, Sm.refl F, hr, e2.mono s⟩
theorem di_seqL {te : TE} (h : DI K W X (iList K te) env M R) : DI K W X (iSeq K te) env M R := fun F σ H Rr he hr xl q => .inl (h F σ H Rr he hr xl q)
theorem di_seqT {te : TE} (h : DI K W X (iTup K te) env M R) : DI K W X (iSeq K te) env M R := fun F σ H Rr he hr xl q => .inr (h F σ H Rr he hr xl q)
def signD (z : Str) : List D := z.cps.toList.map fun c => D.str ⟨#[c]⟩
theorem di_str {te : TE} (h : DE K W X te env M fun d M1 => ∃ z, d = .str z ∧ R (signD z) (fun _ => True) M1) : DI K W X (iStr te) env M R := fun F σ H Rr he hr xl q =>
  h F σ H _ he hr xl fun F1 v1 d1 H1 M1 s1 hr1 a1 ⟨z, e, p⟩ => by
    subst e
    obtain rfl := a1.str_inv
    have hl : (signD z).length = z.cps.size := by unfold signD; rw [List.length_map, Array.length_toList]
    refine ⟨z, rfl, q F1 _ (signD z) (fun _ => True) H1 M1 s1 hr1 ⟨fun i F H M hi s hr g => ?_, fun F H M s hr g => ?_, fun i F H M x H' hi s hr g y => ?_⟩ p⟩
    · rw [hl] at hi; exact hi
    · show z.cps.size ≤ _; rw [hl]; exact Nat.le_refl _
    · obtain ⟨rfl, c, e1, rfl⟩ := y
      exact ⟨F, .str ⟨#[c]⟩, by unfold signD; rw [List.getElem?_map, Array.getElem?_toList, e1]; rfl, Sm.refl F, hr, .str _⟩
def rngD (lo : Int) (n : Nat) : List D := (List.range n).map fun i => D.int (lo + (i : Nat))
theorem wk_rng {F0 : Hp} {lo : Int} {n : Nat} : WkD K F0 (Itr lo n) (rngD lo n) fun _ => True := by
  have hl : (rngD lo n).length = n := by unfold rngD; rw [List.length_map, List.length_range]
  refine ⟨fun i F H M hi s hr g => ?_, fun F H M s hr g => ?_, fun i F H M x H' hi s hr g y => ?_⟩
  · rw [hl] at hi; exact hi
  · show n ≤ _; rw [hl]; exact Nat.le_refl _
  · obtain ⟨rfl, rfl⟩ := y
    rw [hl] at hi
    exact ⟨F, .int (lo + i), by unfold rngD; rw [List.getElem?_map, List.getElem?_range hi]; rfl, Sm.refl F, hr, .int _⟩
theorem di_rng1 {ta : TA} (h : DA K W X ta env M fun ds M1 => ∃ j : Int, ds = [.int j] ∧ -(2 ^ 62) ≤ j ∧ j < 2 ^ 62 ∧ R (rngD 0 j.toNat) (fun _ => True) M1) : DI K W X (iRng1 ta) env M R := fun F σ H Rr he hr xl q =>
  h F σ H _ he hr xl fun F1 v1 d1 H1 M1 s1 hr1 a1 ⟨j, e, h1, h2, p⟩ => by
    subst e
    obtain ⟨v, rfl, a⟩ := a1.one_inv
    obtain rfl := a.int_inv
    exact ⟨j, rfl, h1, h2, q F1 _ _ _ H1 M1 s1 hr1 wk_rng p⟩
theorem di_rng2 {ta : TA} (h : DA K W X ta env M fun ds M1 => ∃ i j : Int, ds = [.int i, .int j] ∧ (-(2 ^ 62) ≤ i ∧ i < 2 ^ 62 ∧ -(2 ^ 62) ≤ j ∧ j < 2 ^ 62) ∧ R (rngD i (j - i).toNat) (fun _ => True) M1) : DI K W X (iRng2 ta) env M R := fun F σ H Rr he hr xl q =>
  h F σ H _ he hr xl fun F1 v1 d1 H1 M1 s1 hr1 a1 ⟨i, j, e, h1, p⟩ => by
    subst e
    obtain ⟨v, u, rfl, a, b⟩ := a1.two_inv
    obtain rfl := a.int_inv
    obtain rfl := b.int_inv
    exact ⟨i, j, rfl, h1, q F1 _ _ _ H1 M1 s1 hr1 wk_rng p⟩
/-- an expression's thing, known from now on -/
def tFrz (te : TE) : TE := fun σ H Q => te σ H fun x H1 => ∃ d, x = .ref d ∧ ((∃ u, H1 d = some u ∧ Mut (some u) ∧ ∀ o, Q x (upd H1 d (.frz o u))) ∨ ∃ o u, H1 d = some (.frz o u) ∧ Q x H1)
theorem pe_frz {Y : Cx} {e : Expr} {te : TE} (h : PE Y e te) : PE Y e (tFrz te) := by
  refine ⟨fun pins s σ H Q I hq => thn (h.run pins s σ H _ I hq) fun v s1 ⟨x, H1, I1, r, d, ex, q⟩ => ?_⟩
  rcases q with ⟨u, h1, mu, q⟩ | ⟨o, u, h1, q⟩
  · obtain ⟨od, I2⟩ := I1.lock h1 mu
    exact ⟨x, _, I2, r, q od⟩
  · exact ⟨x, H1, I1, r, q⟩
/-- the dict is read as one that stays -/
theorem frz_k {te : TE} {R' : List (Key × D) → MS → Prop} (h : DE K W X te env M (Fz fun d M1 => ∃ es, d = .dct es ∧ R' es M1)) {F : Hp} {σ : L2.St} {H : Hp} {Q : VK} (he : EnvAt K F σ env) (hr : HR K F H M) (xl : XL K F W X)
    (k : ∀ F2 H2 M1 a o kvs es, Sm F F2 → F2 a = some (.frz o (.dK kvs)) → AtG Key K F2 kvs es → HR K F2 H2 M1 → R' es M1 → Q (.ref a) H2) : tFrz te σ H Q :=
  de_fz h F σ H _ he hr xl fun F1 v1 d1 H1 M1 s1 hr1 a1 ⟨es, e, p⟩ => by
    subst e
    cases a1 with
    | @dct a kvs _ h1 h2 =>
      refine ⟨a, rfl, ?_⟩
      rcases h1 with hF | ⟨o, hF⟩
      · refine .inl ⟨_, hr1.s _ _ hF, trivial, fun o => ?_⟩
        obtain ⟨s, h⟩ := hr1.known o hF (.inl ⟨_, rfl⟩)
        exact k _ _ _ a o kvs es (s1.trans s) upd_same (h2.mono s).gen h p
      · exact .inr ⟨o, _, hr1.s _ _ hF, k F1 H1 M1 a o kvs es s1 hF h2.gen hr1 p⟩
theorem frz_t {te : TE} {R' : List (List Key × D) → MS → Prop} (h : DE K W X te env M (Fz fun d M1 => ∃ es, d = .dcT es ∧ R' es M1)) {F : Hp} {σ : L2.St} {H : Hp} {Q : VK} (he : EnvAt K F σ env) (hr : HR K F H M) (xl : XL K F W X)
    (k : ∀ F2 H2 M1 a o kvs es, Sm F F2 → F2 a = some (.frz o (.dT kvs)) → AtG (List Key) K F2 kvs es → HR K F2 H2 M1 → R' es M1 → Q (.ref a) H2) : tFrz te σ H Q :=
  de_fz h F σ H _ he hr xl fun F1 v1 d1 H1 M1 s1 hr1 a1 ⟨es, e, p⟩ => by
    subst e
    cases a1 with
    | @dcT a kvs _ h1 h2 =>
      refine ⟨a, rfl, ?_⟩
      rcases h1 with hF | ⟨o, hF⟩
      · refine .inl ⟨_, hr1.s _ _ hF, trivial, fun o => ?_⟩
        obtain ⟨s, h⟩ := hr1.known o hF (.inr ⟨_, rfl⟩)
        exact k _ _ _ a o kvs es (s1.trans s) upd_same (h2.mono s).gen h p
      · exact .inr ⟨o, _, hr1.s _ _ hF, k F1 H1 M1 a o kvs es s1 hF h2.gen hr1 p⟩
def itemsD (es : List (Key × D)) : List D := es.map fun p => D.tup [ofKey p.1, p.2]
theorem di_items {te : TE} (h : DE K W X te env M (Fz fun d M1 => ∃ es, d = .dct es ∧ R (itemsD es) (fun _ => True) M1)) : DI K W X (iItems (tFrz te)) env M R := fun F σ H Rr he hr xl q =>
  frz_k h he hr xl fun F2 H2 M1 a o kvs es s2 hF h2 hr2 p => by
    have hl : (itemsD es).length = kvs.length := by unfold itemsD; rw [List.length_map, h2.len]
    refine ⟨a, o, kvs, rfl, hr2.s _ _ hF, q F2 _ (itemsD es) (fun _ => True) H2 M1 s2 hr2 ⟨fun i F H M hi s hr g => ?_, fun F H M s hr g => ?_, fun i F H M x H' hi s hr g y => ?_⟩ p⟩
    · exact ⟨hr.s _ _ (s.ot _ _ hF (fun _ z => nomatch z) (fun _ z => nomatch z)), by rw [← hl]; exact hi⟩
    · exact ⟨hr.s _ _ (s.ot _ _ hF (fun _ z => nomatch z) (fun _ z => nomatch z)), by rw [hl]; exact Nat.le_refl _⟩
    · obtain ⟨T, k, v, e1, rfl, e3, rfl⟩ := y
      obtain ⟨d, e4, e5⟩ := h2.getD e1
      obtain ⟨s3, h3⟩ := hr.still (u := .tup [kV k, v]) e3
      exact ⟨_, .tup [ofKey k, d], by unfold itemsD; rw [List.getElem?_map, e4]; rfl, s3, h3, .tup upd_same (.cons (at_key k) (.cons (e5.mono (s.trans s3)) .nil))⟩
theorem di_vals {te : TE} (h : DE K W X te env M (Fz fun d M1 => ∃ es, d = .dct es ∧ R (es.map (·.2)) (fun _ => True) M1)) : DI K W X (iVals (tFrz te)) env M R := fun F σ H Rr he hr xl q =>
  frz_k h he hr xl fun F2 H2 M1 a o kvs es s2 hF h2 hr2 p => by
    have hl : (es.map (·.2)).length = kvs.length := by rw [List.length_map, h2.len]
    refine ⟨a, o, kvs, rfl, hr2.s _ _ hF, q F2 _ (es.map (·.2)) (fun _ => True) H2 M1 s2 hr2 ⟨fun i F H M hi s hr g => ?_, fun F H M s hr g => ?_, fun i F H M x H' hi s hr g y => ?_⟩ p⟩
    · exact ⟨hr.s _ _ (s.ot _ _ hF (fun _ z => nomatch z) (fun _ z => nomatch z)), by rw [← hl]; exact hi⟩
    · exact ⟨hr.s _ _ (s.ot _ _ hF (fun _ z => nomatch z) (fun _ z => nomatch z)), by rw [hl]; exact Nat.le_refl _⟩
    · obtain ⟨rfl, k, e1⟩ := y
      obtain ⟨d, e4, e5⟩ := h2.getD e1
      exact ⟨F, d, by rw [List.getElem?_map, e4]; rfl, Sm.refl F, hr, e5.mono s⟩
theorem di_keys {te : TE} (h : DE K W X te env M (Fz fun d M1 => ∃ es, d = .dct es ∧ R (es.map fun p => ofKey p.1) (fun _ => True) M1)) : DI K W X (iKeys (tFrz te)) env M R := fun F σ H Rr he hr xl q =>
  frz_k h he hr xl fun F2 H2 M1 a o kvs es s2 hF h2 hr2 p => by
    have hl : (es.map fun p => ofKey p.1).length = kvs.length := by rw [List.length_map, h2.len]
    refine ⟨a, o, rfl, .inl ⟨kvs, hr2.s _ _ hF, q F2 _ (es.map fun p => ofKey p.1) (fun _ => True) H2 M1 s2 hr2 ⟨fun i F H M hi s hr g => ?_, fun F H M s hr g => ?_, fun i F H M x H' hi s hr g y => ?_⟩ p⟩⟩
    · exact ⟨hr.s _ _ (s.ot _ _ hF (fun _ z => nomatch z) (fun _ z => nomatch z)), by rw [← hl]; exact hi⟩
    · exact ⟨hr.s _ _ (s.ot _ _ hF (fun _ z => nomatch z) (fun _ z => nomatch z)), by rw [hl]; exact Nat.le_refl _⟩
    · obtain ⟨rfl, k, v, e1, rfl⟩ := y
      obtain ⟨d, e4, e5⟩ := h2.getD e1
      exact ⟨F, ofKey k, by rw [List.getElem?_map, e4]; rfl, Sm.refl F, hr, at_key k⟩
theorem di_keysT {te : TE} (h : DE K W X te env M (Fz fun d M1 => ∃ es, d = .dcT es ∧ R (es.map fun p => D.tup (p.1.map ofKey)) (fun _ => True) M1)) : DI K W X (iKeys (tFrz te)) env M R := fun F σ H Rr he hr xl q =>
  frz_t h he hr xl fun F2 H2 M1 a o kvs es s2 hF h2 hr2 p => by
    have hl : (es.map fun p => D.tup (p.1.map ofKey)).length = kvs.length := by rw [List.length_map, h2.len]
    refine ⟨a, o, rfl, .inr ⟨kvs, hr2.s _ _ hF, q F2 _ (es.map fun p => D.tup (p.1.map ofKey)) (fun _ => True) H2 M1 s2 hr2 ⟨fun i F H M hi s hr g => ?_, fun F H M s hr g => ?_, fun i F H M x H' hi s hr g y => ?_⟩ p⟩⟩
    · exact ⟨hr.s _ _ (s.ot _ _ hF (fun _ z => nomatch z) (fun _ z => nomatch z)), by rw [← hl]; exact hi⟩
    · exact ⟨hr.s _ _ (s.ot _ _ hF (fun _ z => nomatch z) (fun _ z => nomatch z)), by rw [hl]; exact Nat.le_refl _⟩
    · obtain ⟨rfl, k, v, b, e1, rfl, e3⟩ := y
      obtain ⟨d, e4, e5⟩ := h2.getD e1
      obtain ⟨F3, s3, h3, a3⟩ := hr.adopt e3 (ats_keys k)
      exact ⟨F3, .tup (k.map ofKey), by rw [List.getElem?_map, e4]; rfl, s3, h3, a3⟩
def enumD (xs : List D) : List D := (List.range xs.length).filterMap fun (i : Nat) => xs[i]?.map fun x => D.tup [.int (i : Nat), x]
theorem getElem?_filterMap_some {α β : Type} {f : α → Option β} : ∀ {l : List α}, (∀ x ∈ l, (f x).isSome = true) → ∀ i : Nat, (l.filterMap f)[i]? = l[i]?.bind f
  | [], _, i => by simp
  | x :: l, h, i => by
    obtain ⟨y, hy⟩ := Option.isSome_iff_exists.mp (h x List.mem_cons_self)
    rw [List.filterMap_cons, hy]
    cases i with
    | zero => simp [hy]
    | succ i => simpa using getElem?_filterMap_some (l := l) (fun z hz => h z (List.mem_cons_of_mem _ hz)) i
theorem enumD_get (xs : List D) (i : Nat) : (enumD xs)[i]? = xs[i]?.map fun x => D.tup [.int (i : Nat), x] := by
  unfold enumD
  rw [getElem?_filterMap_some (fun j hj => by
    have := List.mem_range.mp hj
    rw [List.getElem?_eq_getElem this]; rfl)]
  by_cases h : i < xs.length
  · rw [List.getElem?_range h]; rfl
  · rw [List.getElem?_eq_none (by rw [List.length_range]; omega), List.getElem?_eq_none (by omega)]; rfl
theorem enumD_len (xs : List D) : (enumD xs).length = xs.length := by
  have h1 := enumD_get xs xs.length
  rw [List.getElem?_eq_none (Nat.le_refl _)] at h1
  have h2 : (enumD xs).length ≤ xs.length := List.getElem?_eq_none_iff.mp h1
  by_cases h : (enumD xs).length < xs.length
  · have h3 := enumD_get xs (enumD xs).length
    rw [List.getElem?_eq_none (Nat.le_refl _), List.getElem?_eq_getElem h] at h3
    cases h3
  · omega
theorem di_enum {ta : TA} (h : DA K W X ta env M fun ds M1 => ∃ d xs, ds = [d] ∧ IsL M1 d xs ∧ R (enumD xs) (fun M' => IsL M' d xs) M1) : DI K W X (iEnum K ta) env M R := fun F σ H Rr he hr xl q =>
  h F σ H _ he hr xl fun F1 v1 d1 H1 M1 s1 hr1 a1 ⟨d, xs, e, hl, p⟩ => by
    subst e
    obtain ⟨v, rfl, a2⟩ := a1.one_inv
    obtain ⟨a, ys, rfl, h1, h2⟩ := hl.raw hr1 a2
    have rd : ∀ {F H M}, Sm F1 F → HR K F H M → IsL M d xs → ∃ zs, H a = some (.lst zs) ∧ Ats K F zs xs := fun {F H M} s hr hl => by
      obtain ⟨b, zs, e, h3, h4⟩ := hl.raw hr (a2.mono s)
      cases e; exact ⟨zs, h3, h4⟩
    refine ⟨a, ys, rfl, .inl (.inl h1), q F1 _ (enumD xs) (fun M' => IsL M' d xs) H1 M1 s1 hr1 ⟨fun i F H M hi s hr g => ?_, fun F H M s hr g => ?_, fun i F H M x H' hi s hr g y => ?_⟩ p⟩
    · obtain ⟨zs, h3, h4⟩ := rd s hr g
      rw [enumD_len] at hi
      exact ⟨zs, zs[i]'(by rw [h4.length]; exact hi), .inl (.inl h3), List.getElem?_eq_getElem _⟩
    · obtain ⟨zs, h3, h4⟩ := rd s hr g
      exact ⟨zs, .inl (.inl h3), by rw [h4.length, enumD_len]; exact Nat.le_refl _⟩
    · obtain ⟨zs, h3, h4⟩ := rd s hr g
      obtain ⟨T, w, rfl, e3, rfl, y⟩ := y
      obtain ⟨d', e1, e2⟩ := h4.getV (y zs (.inl (.inl h3)))
      obtain ⟨s3, h5⟩ := hr.still (u := .tup [.int (i : Nat), w]) e3
      exact ⟨_, .tup [.int (i : Nat), d'], by rw [enumD_get, e1]; rfl, s3, h5, .tup upd_same (.cons (.int _) (.cons (e2.mono s3) .nil))⟩
theorem di_zip {ta : TA} (h : DA K W X ta env M fun ds M1 => ∃ d e xs ys, ds = [d, e] ∧ IsL M1 d xs ∧ IsL M1 e ys ∧ R (List.zipWith (fun x y => D.tup [x, y]) xs ys) (fun M' => IsL M' d xs ∧ IsL M' e ys) M1) : DI K W X (iZip K ta) env M R := fun F σ H Rr he hr xl q =>
  h F σ H _ he hr xl fun F1 v1 d1 H1 M1 s1 hr1 a1 ⟨d, e, xs, ys, e0, hl, hk, p⟩ => by
    subst e0
    obtain ⟨v, u, rfl, a2, b2⟩ := a1.two_inv
    obtain ⟨a, ws, rfl, h1, h2⟩ := hl.raw hr1 a2
    obtain ⟨b, zs, rfl, h3, h4⟩ := hk.raw hr1 b2
    have rd : ∀ {F H M}, Sm F1 F → HR K F H M → IsL M d xs → ∃ zs, H a = some (.lst zs) ∧ Ats K F zs xs := fun {F H M} s hr hl => by
      obtain ⟨b, zs, e, h3, h4⟩ := hl.raw hr (a2.mono s)
      cases e; exact ⟨zs, h3, h4⟩
    have rd2 : ∀ {F H M}, Sm F1 F → HR K F H M → IsL M e ys → ∃ zs, H b = some (.lst zs) ∧ Ats K F zs ys := fun {F H M} s hr hl => by
      obtain ⟨b, zs, e, h3, h4⟩ := hl.raw hr (b2.mono s)
      cases e; exact ⟨zs, h3, h4⟩
    have wz : ∀ {ws zs : List V}, ws.length = xs.length → zs.length = ys.length → (List.zipWith (fun x y => D.tup [x, y]) xs ys).length = min ws.length zs.length := fun h1 h2 => by rw [List.length_zipWith, h1, h2]
    refine ⟨a, b, ws, zs, rfl, .inl (.inl h1), .inl (.inl h3), q F1 _ _ (fun M' => IsL M' d xs ∧ IsL M' e ys) H1 M1 s1 hr1 ⟨fun i F H M hi s hr g => ?_, fun F H M s hr g => ?_, fun i F H M x H' hi s hr g y => ?_⟩ p⟩
    · obtain ⟨z1, g1, g2⟩ := rd s hr g.1
      obtain ⟨z2, g3, g4⟩ := rd2 s hr g.2
      exact (walk_zip (K := K) (a := a) (b := b) (xs := z1) (ys := z2) (n := _) (wz g2.length g4.length)).goes i H hi ⟨.inl (.inl g1), .inl (.inl g3)⟩
    · obtain ⟨z1, g1, g2⟩ := rd s hr g.1
      obtain ⟨z2, g3, g4⟩ := rd2 s hr g.2
      exact (walk_zip (K := K) (a := a) (b := b) (xs := z1) (ys := z2) (n := _) (wz g2.length g4.length)).stops H ⟨.inl (.inl g1), .inl (.inl g3)⟩
    · obtain ⟨z1, g1, g2⟩ := rd s hr g.1
      obtain ⟨z2, g3, g4⟩ := rd2 s hr g.2
      obtain ⟨T, w, w2, rfl, e3, rfl, y1, y2⟩ := (walk_zip (K := K) (a := a) (b := b) (xs := z1) (ys := z2) (n := _) (wz g2.length g4.length)).yields i H x H' hi ⟨.inl (.inl g1), .inl (.inl g3)⟩ y
      obtain ⟨d1', e1, e2⟩ := g2.getV y1
      obtain ⟨d2', e5, e6⟩ := g4.getV y2
      obtain ⟨s3, h5⟩ := hr.still (u := .tup [w, w2]) e3
      exact ⟨_, .tup [d1', d2'], by rw [List.getElem?_zipWith, e1, e5], s3, h5, .tup upd_same (.cons (e2.mono s3) (.cons (e6.mono s3) .nil))⟩
/-! for -/
theorem ds_for {wi : TI} {g : TG} {tb : TS} {De : DEnds} (h : DI K W X wi env M fun xs G M1 => ∃ Iv : Nat → DEnv → MS → Prop, Iv 0 env M1 ∧ (∀ i e m, i ≤ xs.length → Iv i e m → G m) ∧
      (∀ i x e m, xs[i]? = some x → Iv i e m → DG K W X g x e m fun e2 m2 => DS K W X tb { nx := Iv (i + 1), ct := Iv (i + 1), bk := De.nx, rt := De.rt } e2 m2) ∧ (∀ e m, Iv xs.length e m → De.nx e m)) :
    DS K W X (tFor wi g tb) De env M := fun F σ H Ds he hr xl cn => by
  refine h F σ H _ he hr xl fun F1 J xs G H1 M1 s1 hr1 wk ⟨Iv, i0, iG, is, ie⟩ => ?_
  refine ⟨fun i m σ' H' => m = xs.length - i ∧ i ≤ xs.length ∧ ∃ F' env' M', Sm F1 F' ∧ EnvAt K F' σ' env' ∧ HR K F' H' M' ∧ Iv i env' M', ⟨xs.length, rfl, Nat.zero_le _, F1, env, M1, Sm.refl F1, he.mono s1, hr1, i0⟩, ?_⟩
  rintro i m σ2 H2 ⟨rfl, hi, F2, env2, M2, s2, he2, hr2, inv⟩
  have gg := iG i _ _ hi inv
  by_cases hlt : i < xs.length
  · refine .inr ⟨wk.goes i F2 H2 M2 hlt s2 hr2 gg, fun σ' H' => ∃ F' env' M', Sm F1 F' ∧ EnvAt K F' σ' env' ∧ HR K F' H' M' ∧ Iv (i + 1) env' M', fun σ' H' p => ⟨xs.length - (i + 1), by omega, rfl, hlt, p⟩, fun x H' y => ?_⟩
    obtain ⟨F3, d, e, s3, hr3, a3⟩ := wk.yields i F2 H2 M2 x H' hlt s2 hr2 gg y
    have s13 := s2.trans s3
    refine is i d env2 M2 e inv F3 σ2 H' x _ (he2.mono s3) hr3 (xl.mono (s1.trans s13)) a3 fun F4 σ4 env4 H4 M4 s4 he4 hr4 k => ?_
    have nn : CnG K F4 (Iv (i + 1)) fun σ' H' => ∃ F' env' M', Sm F1 F' ∧ EnvAt K F' σ' env' ∧ HR K F' H' M' ∧ Iv (i + 1) env' M' := fun F' σ' env' H' M' s he' hr' v => ⟨F', env', M', (s13.trans s4).trans s, he', hr', v⟩
    have sA := (s1.trans s13).trans s4
    exact k F4 σ4 H4 _ he4 hr4 (xl.mono sA) ⟨nn, cn.rt.mono sA, cn.nx.mono sA, nn⟩
  · have e : i = xs.length := by omega
    subst e
    exact .inl ⟨wk.stops F2 H2 M2 s2 hr2 gg, cn.nx F2 σ2 env2 H2 M2 (s1.trans s2) he2 hr2 (ie _ _ inv)⟩
/-! comprehensions -/
structure Own (vs : List Nat) (g : TG) : Prop where
  mono : ∀ x σ H (Q Q' : L2.St → Hp → Prop), (∀ σ H, Q σ H → Q' σ H) → g x σ H Q → g x σ H Q'
  ok : ∀ x σ H (Q : L2.St → Hp → Prop), g x σ H Q → g x σ H fun σ2 H2 => wipe σ2 vs = wipe σ vs ∧ Q σ2 H2
structure Owns (vs : List Nat) (g : TGs) : Prop where
  mono : ∀ x σ H (Q Q' : L2.St → Hp → Prop), (∀ σ H, Q σ H → Q' σ H) → g x σ H Q → g x σ H Q'
  ok : ∀ x σ H (Q : L2.St → Hp → Prop), g x σ H Q → g x σ H fun σ2 H2 => wipe σ2 vs = wipe σ vs ∧ Q σ2 H2
theorem wipe_set : ∀ {vs : List Nat} {i : Nat} {v : Option V} {σ : St}, i ∈ vs → wipe (σ.set i v) vs = wipe σ vs
  | w :: vs, i, v, σ, h => by
    show (wipe (σ.set i v) vs).set w none = (wipe σ vs).set w none
    by_cases e : i ∈ vs
    · rw [wipe_set e]
    · have e2 : i = w := (List.mem_cons.mp h).resolve_right e
      subst e2
      have : ∀ (vs : List Nat) (σ : St), (wipe (σ.set i v) vs).set i none = (wipe σ vs).set i none := by
        intro vs
        induction vs with
        | nil => intro σ; show (σ.set i v).set i none = σ.set i none; rw [List.set_set]
        | cons w vs ih =>
          intro σ
          show ((wipe (σ.set i v) vs).set w none).set i none = ((wipe σ vs).set w none).set i none
          by_cases z : w = i
          · subst z; rw [List.set_set, List.set_set]; exact ih σ
          · rw [List.set_comm _ _ z, List.set_comm _ _ z, ih]
      exact this vs σ
theorem wipe_wipe : ∀ (vs us : List Nat) (σ : St), (∀ i ∈ us, i ∈ vs) → wipe (wipe σ us) vs = wipe σ vs
  | _, [], _, _ => rfl
  | vs, u :: us, σ, h => by
    show wipe ((wipe σ us).set u none) vs = _
    rw [wipe_set (h u List.mem_cons_self), wipe_wipe vs us σ fun i hi => h i (List.mem_cons_of_mem _ hi)]
theorem own_name {vs : List Nat} {i : Nat} (hi : i ∈ vs) : Own vs (gName i) := ⟨fun x σ H Q Q' f h => f _ _ h, fun x σ H Q h => ⟨wipe_set hi, h⟩⟩
theorem owns_nil {vs : List Nat} : Owns vs gNil := ⟨fun x σ H Q Q' f ⟨e, h⟩ => ⟨e, f _ _ h⟩, fun x σ H Q ⟨e, h⟩ => ⟨e, rfl, h⟩⟩
theorem owns_cons {vs : List Nat} {g : TG} {gs : TGs} (o : Own vs g) (h : Owns vs gs) : Owns vs (gCons g gs) := by
  refine ⟨fun x σ H Q Q' f ⟨v, r, e, q⟩ => ⟨v, r, e, o.mono _ _ _ _ _ (fun σ H => h.mono _ _ _ _ _ f) q⟩, fun x σ H Q ⟨v, r, e, q⟩ => ⟨v, r, e, o.mono _ _ _ _ _ (fun σ2 H2 ⟨e1, q1⟩ => ?_) (o.ok _ _ _ _ q)⟩⟩
  exact h.mono _ _ _ _ _ (fun σ3 H3 ⟨e2, q2⟩ => ⟨e2.trans e1, q2⟩) (h.ok _ _ _ _ q1)
theorem own_tup {vs : List Nat} {n : Nat} {gs : TGs} (h : Owns vs gs) : Own vs (gTup K n gs) :=
  ⟨fun x σ H Q Q' f ⟨a, xs, e1, e2, e3, q⟩ => ⟨a, xs, e1, e2, e3, h.mono _ _ _ _ _ f q⟩, fun x σ H Q ⟨a, xs, e1, e2, e3, q⟩ => ⟨a, xs, e1, e2, e3, h.ok _ _ _ _ q⟩⟩
def wipeD (env : DEnv) : List Nat → DEnv
  | [] => env
  | v :: vs => (wipeD env vs).set v none
theorem EnvAt.wipe {σ : St} {env : DEnv} (h : EnvAt K F σ env) : ∀ vs : List Nat, EnvAt K F (L2.wipe σ vs) (wipeD env vs)
  | [] => h
  | v :: vs => (EnvAt.wipe h vs).setN (o := none) v
end
section
variable {K : PySem.W.Frag} {W : WX} {X : XP} {F F' H : Hp} {env : DEnv} {M : MS} {P : D → MS → Prop}
/-- a comprehension: the new list stands ahead of the state while it is made -/
theorem de_lc {wi : TI} {g : TG} {tt : TT} {te : TE} {vs : List Nat} (o : Own vs g) (h : DI K W X wi env M fun xs G M1 => ∃ Pv : Nat → List D → MS → Prop, Pv 0 [] M1 ∧ (∀ i acc m a, Pv i acc m → G ((a, .lst acc) :: m)) ∧
      (∀ i x acc m a, xs[i]? = some x → Pv i acc m → DG K W X g x (wipeD env vs) ((a, .lst acc) :: m) fun e2 m2 => DT K W X tt e2 m2 fun b m3 =>
        if b = true then DE K W X te e2 m3 (Fz fun d m4 => ∃ m5, m4 = (a, .lst acc) :: m5 ∧ acc.length < sizeLine ∧ Pv (i + 1) (acc ++ [d]) m5) else ∃ m5, m3 = (a, .lst acc) :: m5 ∧ Pv (i + 1) acc m5) ∧
      (∀ acc m a, Pv xs.length acc m → P (.loc a) ((a, .lst acc) :: m))) : DE K W X (tLc wi g tt te vs) env M P := fun F σ H Q he hr xl q => by
  refine h F σ H _ he hr xl fun F1 J xs G H1 M1 s1 hr1 wk ⟨Pv, p0, pG, ps, pe⟩ D hD => ?_
  refine ⟨fun i m H' => m = xs.length - i ∧ i ≤ xs.length ∧ ∃ F' M' acc, Sm F1 F' ∧ HR K F' H' ((D, .lst acc) :: M') ∧ Pv i acc M', ⟨xs.length, rfl, Nat.zero_le _, F1, M1, [], Sm.refl F1, hr1.new hD (o := .lst []) (fun H' e => ⟨_, e, .nil⟩), p0⟩, ?_⟩
  rintro i m H2 ⟨rfl, hi, F2, M2, acc, s2, hr2, inv⟩
  have gg := pG i acc M2 D inv
  by_cases hlt : i < xs.length
  · refine .inr ⟨wk.goes i F2 H2 _ hlt s2 hr2 gg, fun H' => ∃ F' M' acc, Sm F1 F' ∧ HR K F' H' ((D, .lst acc) :: M') ∧ Pv (i + 1) acc M', fun H' p => ⟨xs.length - (i + 1), by omega, rfl, hlt, p⟩, fun x H' y => ?_⟩
    obtain ⟨F3, d, e, s3, hr3, a3⟩ := wk.yields i F2 H2 _ x H' hlt s2 hr2 gg y
    have s13 := s2.trans s3
    have he3 := (he.mono (s1.trans s13)).wipe vs
    refine o.mono _ _ _ _ _ (fun σ4 H4 ⟨ew, z⟩ => ⟨ew.trans (wipe_wipe vs vs σ fun _ h => h), z⟩) (o.ok _ _ _ _ (ps i d acc M2 D e inv F3 (wipe σ vs) H' x _ he3 hr3 (xl.mono (s1.trans s13)) a3 fun F4 σ4 env4 H4 M4 s4 he4 hr4 k => ?_))
    have s14 := s13.trans s4
    refine k F4 σ4 H4 _ he4 hr4 (xl.mono (s1.trans s14)) fun F5 b H5 M5 s5 hr5 p => ?_
    have s15 := s14.trans s5
    cases b with
    | true =>
      refine w_ifT rfl (de_fz (unT p) F5 σ4 H5 _ (he4.mono s5) hr5 (xl.mono (s1.trans s15)) fun F6 v d6 H6 M6 s6 hr6 a6 ⟨m5, e5, hl, pv⟩ => ?_)
      subst e5
      obtain ⟨ys, e7, q7⟩ := HR.cell (M1 := []) hr6
      exact ⟨ys, e7, by rw [q7.length]; exact hl, F6, m5, acc ++ [d6], s15.trans s6, HR.put (M1 := []) (o' := .lst (acc ++ [d6])) hr6 (fun H' e' => ⟨_, e', q7.append (.one a6)⟩), pv⟩
    | false =>
      obtain ⟨m5, e5, pv⟩ := unF p
      subst e5
      exact w_ifF rfl ⟨F5, m5, acc, s15, hr5, pv⟩
  · have e : i = xs.length := by omega
    subst e
    exact .inl ⟨wk.stops F2 H2 _ s2 hr2 gg, (q.mono s1) F2 _ _ _ _ s2 hr2 (.loc D) (pe _ _ _ inv)⟩
/-- .. that leaves the state as it is: el x is what x gives -/
theorem de_lcP {wi : TI} {g : TG} {tt : TT} {te : TE} {vs : List Nat} (o : Own vs g) (h : DI K W X wi env M fun xs G M1 => xs.length < sizeLine ∧ (∀ a acc, G ((a, .lst acc) :: M1)) ∧ ∃ el : D → Option D,
      (∀ (i : Nat) x m, xs[i]? = some x → M1.Sublist m → DG K W X g x (wipeD env vs) m fun e2 m2 => DT K W X tt e2 m2 fun b m3 =>
        if b = true then DE K W X te e2 m3 (Fz fun d m4 => m4 = m ∧ el x = some d) else m3 = m ∧ el x = none) ∧ ∀ a, P (.loc a) ((a, .lst (xs.filterMap el)) :: M1)) : DE K W X (tLc wi g tt te vs) env M P := by
  refine de_lc o fun F σ H Rr he hr xl q => h F σ H Rr he hr xl fun F' J xs G H' M' s hr' wk ⟨hz, hG, el, hs, hk⟩ => q F' J xs G H' M' s hr' wk ⟨fun i acc m => m = M' ∧ acc = (xs.take i).filterMap el ∧ acc.length ≤ i, ⟨rfl, rfl, Nat.le_refl _⟩, fun i acc m a ⟨e, _⟩ => by subst e; exact hG a acc, fun i x acc m a ex ⟨e1, e2, e3⟩ => ?_, fun acc m a ⟨e1, e2, _⟩ => ?_⟩
  · subst e1
    have hi : i < xs.length := (List.getElem?_eq_some_iff.mp ex).1
    have et : xs.take (i + 1) = xs.take i ++ [x] := by rw [List.take_add_one, ex]; rfl
    refine fun F2 σ2 H2 v2 Q2 he2 hr2 xl2 a2 c2 => hs i x _ ex (List.sublist_cons_self (a, .lst acc) _) F2 σ2 H2 v2 Q2 he2 hr2 xl2 a2 fun F3 σ3 e3' H3 M3 s3 he3 hr3 k3 => c2 F3 σ3 e3' H3 M3 s3 he3 hr3 fun F4 σ4 H4 Q4 he4 hr4 xl4 c4 => k3 F4 σ4 H4 Q4 he4 hr4 xl4 fun F5 b H5 M5 s5 hr5 p5 => c4 F5 b H5 M5 s5 hr5 ?_
    cases b with
    | true =>
      refine w_ifT rfl (de_mono (de_fz (unT p5)) fun d m4 ⟨z1, z2⟩ => .keep ⟨_, z1, by omega, rfl, ?_, ?_⟩)
      · rw [et, List.filterMap_append, ← e2, List.filterMap_cons, z2]; rfl
      · rw [List.length_append]; exact Nat.succ_le_succ e3
    | false =>
      obtain ⟨z1, z2⟩ := unF p5
      refine w_ifF rfl ⟨_, z1, rfl, ?_, by omega⟩
      rw [et, List.filterMap_append, ← e2, List.filterMap_cons, z2]
      exact (List.append_nil _).symm
  · subst e1
    rw [e2, List.take_length]
    exact hk a
/-! ### what a def promises -/
abbrev DSp := List D → MS → (D → MS → Prop) → (Value → List (Str × D) → MS → Prop) → Prop
end
def up (K : PySem.W.Frag) (sp : DSp) : Sp := fun vs H Q E => ∃ F M ds P X', HR K F H M ∧ Ats K F vs ds ∧ sp ds M P X' ∧ Cn K F P Q ∧
  ∀ F' cls dx ws fs H' M', Sm F F' → HR K F' H' M' → H' dx = some (.xd ws) → AtF K F' ws fs → X' cls fs M' → E cls (some dx) H'
section
variable {K : PySem.W.Frag} {W : WX} {X : XP} {F F' H : Hp} {env : DEnv} {M : MS} {P : D → MS → Prop}
theorem de_call {sp : DSp} {E : XK} {t : TA} (hE : ∀ c d σ H, W c d σ H → E c d H) (h : DA K W X t env M fun ds M1 => sp ds M1 (Fz P) fun cls fs m => X cls fs env m) : DE K W X (tCall (up K sp) [] E t) env M P := fun F σ H Q he hr xl q =>
  h F σ H _ he hr xl fun F1 vs ds H1 M1 s1 hr1 a1 hp => by
    show up K sp (vs ++ []) H1 Q E
    rw [List.append_nil]
    exact ⟨F1, M1, ds, Fz P, _, hr1, a1, hp, (q.mono s1).fz, fun F' cls dx ws fs H' M' s hr' e af x => hE _ _ σ _ (xl F' cls dx ws fs σ env H' M' (s1.trans s) (he.mono (s1.trans s)) hr' e af x)⟩
theorem de_call0 {sp : DSp} {E : XK} {t : TA} (h : DA K W X t env M fun ds M1 => sp ds M1 (Fz P) fun _ _ _ => False) : DE K W X (tCall (up K sp) [] E t) env M P := fun F σ H Q he hr xl q =>
  h F σ H _ he hr xl fun F1 vs ds H1 M1 s1 hr1 a1 hp => by
    show up K sp (vs ++ []) H1 Q E
    rw [List.append_nil]
    exact ⟨F1, M1, ds, Fz P, _, hr1, a1, hp, (q.mono s1).fz, fun F' cls dx ws fs H' M' s hr' e af x => x.elim⟩
theorem de_meth {C : Addr} {m : Str} {sp : DSp} {E : XK} {ta : TE} {t : TA} (hE : ∀ c d σ H, W c d σ H → E c d H)
    (h : DE K W X ta env M fun d M1 => ∃ fs, IsO M1 d C fs ∧ fs.lookup m = none ∧ DA K W X t env M1 fun ds M2 => sp (d :: ds) M2 (Fz P) fun cls fs m => X cls fs env m) : DE K W X (tMeth C m (up K sp) [] E ta t) env M P := fun F σ H Q he hr xl q =>
  h F σ H _ he hr xl fun F1 v1 d1 H1 M1 s1 hr1 a1 ⟨fs, ho, hl, h2⟩ => by
    obtain ⟨b, dx, xs, rfl, e, g⟩ := ho.raw hr1 a1
    refine ⟨b, dx, xs, rfl, e, g.lookN hl, h2 F1 σ H1 _ (he.mono s1) hr1 (xl.mono s1) fun F2 vs ds H2 M2 s2 hr2 a2 hp => ?_⟩
    show up K sp (.ref b :: (vs ++ [])) H2 Q E
    rw [List.append_nil]
    have s := s1.trans s2
    exact ⟨F2, M2, d1 :: ds, Fz P, _, hr2, .cons (a1.mono s2) a2, hp, (q.mono s).fz, fun F' cls dx ws fs H' M' s' hr' e af x => hE _ _ σ _ (xl F' cls dx ws fs σ env H' M' (s.trans s') (he.mono (s.trans s')) hr' e af x)⟩
theorem de_meth0 {C : Addr} {m : Str} {sp : DSp} {E : XK} {ta : TE} {t : TA}
    (h : DE K W X ta env M fun d M1 => ∃ fs, IsO M1 d C fs ∧ fs.lookup m = none ∧ DA K W X t env M1 fun ds M2 => sp (d :: ds) M2 (Fz P) fun _ _ _ => False) : DE K W X (tMeth C m (up K sp) [] E ta t) env M P := fun F σ H Q he hr xl q =>
  h F σ H _ he hr xl fun F1 v1 d1 H1 M1 s1 hr1 a1 ⟨fs, ho, hl, h2⟩ => by
    obtain ⟨b, dx, xs, rfl, e, g⟩ := ho.raw hr1 a1
    refine ⟨b, dx, xs, rfl, e, g.lookN hl, h2 F1 σ H1 _ (he.mono s1) hr1 (xl.mono s1) fun F2 vs ds H2 M2 s2 hr2 a2 hp => ?_⟩
    show up K sp (.ref b :: (vs ++ [])) H2 Q E
    rw [List.append_nil]
    have s := s1.trans s2
    exact ⟨F2, M2, d1 :: ds, Fz P, _, hr2, .cons (a1.mono s2) a2, hp, (q.mono s).fz, fun F' cls dx ws fs H' M' s' hr' e af x => x.elim⟩
theorem HR.made {C x dx : Addr} {H1 : Hp} (hr : HR K F H1 M) (hx : H1 x = none) (hd : H1 dx = none) (ne : dx ≠ x) : HR K F (upd (upd H1 dx (.own x)) x (.ins C dx [])) ((x, .ins C []) :: M) :=
  (hr.grow (Same.new hd)).new (by rw [upd_ne (Ne.symm ne)]; exact hx) (o := .ins C []) fun H' e => ⟨dx, [], e, .nil⟩
theorem de_make {C : Addr} {sp : DSp} {E : XK} {t : TA} (hE : ∀ c d σ H, W c d σ H → E c d H)
    (h : DA K W X t env M fun ds M1 => ∀ x, sp (.loc x :: ds) ((x, .ins C []) :: M1) (fun d m => d = .non ∧ Fz P (.loc x) m) fun cls fs m => X cls fs env m) : DE K W X (tMake C (up K sp) [] E t) env M P := fun F σ H Q he hr xl q =>
  h F σ H _ he hr xl fun F1 vs ds H1 M1 s1 hr1 a1 hp x dx hx hd ne => by
    show up K sp (.ref x :: (vs ++ [])) _ _ E
    rw [List.append_nil]
    refine ⟨F1, _, .loc x :: ds, _, _, hr1.made hx hd ne, .cons (.loc x) a1, hp x, fun F' v d H' M' s hr' a ⟨e, z⟩ => ?_, fun F' cls dx ws fs H' M' s hr' e af x => hE _ _ σ _ (xl F' cls dx ws fs σ env H' M' (s1.trans s) (he.mono (s1.trans s)) hr' e af x)⟩
    subst e
    exact ⟨a.non_inv, (q.mono s1).fz F' _ _ H' M' s hr' (.loc x) z⟩
theorem de_make0 {C : Addr} {sp : DSp} {E : XK} {t : TA}
    (h : DA K W X t env M fun ds M1 => ∀ x, sp (.loc x :: ds) ((x, .ins C []) :: M1) (fun d m => d = .non ∧ Fz P (.loc x) m) fun _ _ _ => False) : DE K W X (tMake C (up K sp) [] E t) env M P := fun F σ H Q he hr xl q =>
  h F σ H _ he hr xl fun F1 vs ds H1 M1 s1 hr1 a1 hp x dx hx hd ne => by
    show up K sp (.ref x :: (vs ++ [])) _ _ E
    rw [List.append_nil]
    refine ⟨F1, _, .loc x :: ds, _, _, hr1.made hx hd ne, .cons (.loc x) a1, hp x, fun F' v d H' M' s hr' a ⟨e, z⟩ => ?_, fun F' cls dx ws fs H' M' s hr' e af x => x.elim⟩
    subst e
    exact ⟨a.non_inv, (q.mono s1).fz F' _ _ H' M' s hr' (.loc x) z⟩
end
def startD (N : List Str) (ds : List D) : DEnv := ds.map some ++ List.replicate (N.length - ds.length) none
theorem envAt_start {K : PySem.W.Frag} {F : Hp} {N : List Str} {vs : List V} {ds : List D} (a : Ats K F vs ds) : EnvAt K F (L2.start N vs) (startD N ds) := by
  unfold L2.start startD
  rw [a.length]
  have h2 : ∀ n, EnvAt K F (List.replicate n none) (List.replicate n none) := by
    intro n
    induction n with
    | zero => exact .nil
    | succ n ih => exact .non ih
  have h3 : ∀ {vs : List V} {ds : List D} (n : Nat), Ats K F vs ds → EnvAt K F (vs.map some ++ List.replicate n none) (ds.map some ++ List.replicate n none) := by
    intro vs
    induction vs with
    | nil => intro ds n a; cases a; exact h2 n
    | cons v vs ih => intro ds n a; cases a with | cons a1 a2 => exact .cons a1 (ih n a2)
  exact h3 _ a
section
variable {P : Program} {w : World} {K : PySem.W.Frag} {mg : Str → Option Value} {base : Heap} {x qual : Str} {st : Stmt} {f : Addr} {fd : FuncData} {N ps : List Str} {k : Nat} {sp : DSp}
/-- the walk of a body over the state -/
def Body (K : PySem.W.Frag) (N : List Str) (sp : DSp) (W : WX) (wx : Bool) (t : TS) : Prop := ∀ ds M P X', sp ds M P X' → DS K W (fun cls fs _ m => wx = true ∧ X' cls fs m) t { nx := fun _ m => P .non m, rt := P } (startD N ds) M
theorem up_len (hl : ∀ ds M P X', sp ds M P X' → ds.length = ps.length) : ∀ vs H Q E, up K sp vs H Q E → vs.length = ps.length := fun vs H Q E ⟨F, M, ds, P, X', _, a, h, _⟩ => by rw [a.length]; exact hl _ _ _ _ h
theorem body_run {W : WX} {wx : Bool} {t : TS} {E : XK} {vs : List V} {H : Hp} {Q : VK} (hW : wx = true → ∀ c d σ H, E c d H → W c d σ H) (b : Body K N sp W wx t) (h : up K sp vs H Q E) : t { nx := fun _ H' => Q .non H', rt := Q } (L2.start N vs) H := by
  obtain ⟨F, M, ds, P, X', hr, a, hs, q, qx⟩ := h
  refine b ds M P X' hs F _ H _ (envAt_start a) hr (fun F' cls dx ws fs σ env H' M' s he hr' e af x => ?_) ⟨fun F' σ env H' M' s he hr' p => q F' _ _ H' M' s hr' .non p, q, fun _ _ _ _ _ _ _ _ z => z.elim, fun _ _ _ _ _ _ _ _ z => z.elim⟩
  exact hW x.1 _ _ _ _ (qx F' cls dx ws fs H' M' s hr' e af x.2)
/-- a def that may raise -/
theorem Fun.okD (F : Fun K x qual st f fd) (S : FnScope N ps (defScope st)) (hl : ∀ ds M P X', sp ds M P X' → ds.length = ps.length)
    (hb : ∀ (cdv : Value) (A : Around) (outer : List Env) (s : Shared) (H : Hp) (E : XK), Room k (A.deeper (PyProof.Rows.envOfC qual (defScope st) s.heap.objs.size f cdv)) →
      ∃ t, PSs (cxOf (L2.CX P w) P w K mg base N qual (defScope st) f cdv A outer s H E) (defBody st) t ∧ Body K N sp (fun cls d _ H => E cls d H) true t) : FnOk P w K mg base (L2.CX P w) (k + 1) f fd ps (up K sp) :=
  L2.Fun.okX F S (up_len hl) fun cdv A outer s H vs Q E hr h => by
    obtain ⟨t, ht, b⟩ := hb cdv A outer s H E hr
    exact ⟨t, ht, body_run (fun _ _ _ _ _ z => z) b h⟩
end
section
variable {P : Program} {w : World} {K : PySem.W.Frag} {mg : Str → Option Value} {base : Heap} {x qual : Str} {st : Stmt} {f : Addr} {fd : FuncData} {N ps : List Str} {k : Nat} {sp : DSp}
/-- a def that raises nothing -/
theorem Fun.okD0 (F : Fun K x qual st f fd) (S : FnScope N ps (defScope st)) (hl : ∀ ds M P X', sp ds M P X' → ds.length = ps.length)
    (hb : ∀ (cdv : Value) (A : Around) (outer : List Env) (s : Shared) (H : Hp) (E : XK), Room k (A.deeper (PyProof.Rows.envOfC qual (defScope st) s.heap.objs.size f cdv)) →
      ∃ t, PSs (cxOf CX0 P w K mg base N qual (defScope st) f cdv A outer s H E).nox (defBody st) t ∧ Body K N sp (fun _ _ _ _ => False) false t) : FnOk P w K mg base CX0 (k + 1) f fd ps (up K sp) :=
  F.ok S (up_len hl) fun cdv A outer s H vs Q E hr h => by
    obtain ⟨t, ht, b⟩ := hb cdv A outer s H E hr
    exact ⟨t, ht, body_run (wx := false) (fun z => Bool.noConfusion z) b h⟩
end
section
variable {K : PySem.W.Frag} {W : WX} {X : XP} {F F' H : Hp} {env : DEnv} {M : MS} {P : D → MS → Prop} {R : List D → (MS → Prop) → MS → Prop}
theorem de_allS {te : TE} {Z : Str} (h : DE K W X te env M fun d M1 => ∃ x, d = .str x ∧ x.length < sizeLine ∧ P (.bl (x.cps.toList.all fun c => decide (c ∈ Z.cps.toList))) M1) : DE K W X (tAllS te Z) env M P := fun F σ H Q he hr xl q =>
  h F σ H _ he hr xl fun F1 v1 d1 H1 M1 s1 hr1 a1 ⟨x, e, z, p⟩ => by
    subst e
    exact ⟨x, a1.str_inv, z, fun H' s => (q.mono s1).now (hr1.grow s) (.bl _) p⟩
/-- names walked: a list or a tuple -/
theorem di_seqS {i : Nat} {d : D} {ns : List Str} (h : env[i]? = some (some d)) (hs : IsS M d ns) (k : R (ns.map D.str) (fun M' => IsS M' d ns) M) : DI K W X (iSeq K (tVar i)) env M R := fun F σ H Rr he hr xl q => by
  have strV : ∀ {i : Nat} {x : V}, (ns.map V.str)[i]? = some x → ∃ n, ns[i]? = some n ∧ x = .str n := fun {i x} e => by
    rw [List.getElem?_map] at e
    cases hn : ns[i]? with
    | none => rw [hn] at e; cases e
    | some n => rw [hn] at e; exact ⟨n, rfl, (Option.some.inj e).symm⟩
  have hl : (ns.map D.str).length = (ns.map V.str).length := by rw [List.length_map, List.length_map]
  cases hs with
  | l h0 => exact di_seqL (di_list (de_var h ⟨_, h0, by
      show R _ _ _
      have e : (fun M' => IsS M' d ns) = fun M' => IsL M' d (ns.map D.str) := by
        funext M'
        refine propext ⟨fun z => ?_, .l⟩
        cases h0 with
        | v => cases z with | l z => exact z
        | l _ => cases z with | l z => exact z
      rw [← e]; exact k⟩)) F σ H Rr he hr xl q
  | t =>
    obtain ⟨v, e1, a⟩ := he.get h
    cases a with
    | @tup a xs _ h1 h2 =>
      have h3 := h2.strs
      subst h3
      have rd : ∀ {F' H' M'}, Sm F F' → HR K F' H' M' → SqT K H' a (ns.map V.str) := fun s hr => .inl (.inl (hr.s _ _ (s.tup h1)))
      refine .inr ⟨_, e1, a, rfl, ⟨_, rd (Sm.refl F) hr⟩, q F _ _ _ H M (Sm.refl F) hr ⟨fun i F' H' M' hi s hr g => ?_, fun F' H' M' s hr g => ?_, fun i F' H' M' x H2 hi s hr g y => ?_⟩ k⟩
      · exact ⟨_, (ns.map V.str)[i]'(by rw [← hl]; exact hi), rd s hr, List.getElem?_eq_getElem _⟩
      · exact ⟨_, rd s hr, by rw [hl]; exact Nat.le_refl _⟩
      · obtain ⟨rfl, y⟩ := y
        obtain ⟨n, e2, rfl⟩ := strV (y _ (rd s hr))
        exact ⟨F', .str n, by rw [List.getElem?_map, e2]; rfl, Sm.refl F', hr, .str n⟩
  | k =>
    obtain ⟨v, e1, a⟩ := he.get h
    cases a with
    | @ktp a _ h1 =>
      have rd : ∀ {F' H' M'}, Sm F F' → HR K F' H' M' → SqT K H' a (ns.map V.str) := fun s hr => hr.s.tup (s.sqT h1)
      refine .inr ⟨_, e1, a, rfl, ⟨_, rd (Sm.refl F) hr⟩, q F _ _ _ H M (Sm.refl F) hr ⟨fun i F' H' M' hi s hr g => ?_, fun F' H' M' s hr g => ?_, fun i F' H' M' x H2 hi s hr g y => ?_⟩ k⟩
      · exact ⟨_, (ns.map V.str)[i]'(by rw [← hl]; exact hi), rd s hr, List.getElem?_eq_getElem _⟩
      · exact ⟨_, rd s hr, by rw [hl]; exact Nat.le_refl _⟩
      · obtain ⟨rfl, y⟩ := y
        obtain ⟨n, e2, rfl⟩ := strV (y _ (rd s hr))
        exact ⟨F', .str n, by rw [List.getElem?_map, e2]; rfl, Sm.refl F', hr, .str n⟩
end
theorem ps_fldK {Y : Cx} {K : PySem.W.Frag} {o value : Expr} {ta tv : TE} {f : Str} {pos' pos : Pos} (hK : Y.K = K) (ha : PE Y o ta) (hv : PE Y value tv) (hs : swapsWith value (some (.Attribute o f pos')) pos.line Y.env = pure false) :
    PS Y (.Assign [.Attribute o f pos'] value pos) (sFld K ta tv f) := by subst hK; exact ps_fld ha hv hs
section
variable {K : PySem.W.Frag} {M : MS} {P : D → MS → Prop}
theorem dc_fz {r : List V → Hp → VK → Prop} {ds : List D} (h : DC K r ds M (Fz P)) : DC K r ds M P := fun F H vs Q hr a q => h F H vs Q hr a q.fz
theorem dc_listV {d : D} {ds : List D} (h : IsL M d ds) (k : P (.lst ds) M) : DC K (rListOf K) [d] M P := dc_fz (dc_listL h fun a => .lst (M1 := []) (.keep k))
end
/-! ### dicts written; loops over a dict that changes behind the loop -/
def DPs (K : PySem.W.Frag) (W : WX) (X : XP) (te : List (TE × TE)) (env : DEnv) (M : MS) (P : List (D × D) → MS → Prop) : Prop := ∀ F σ H (Q : List (V × V) → Hp → Prop), EnvAt K F σ env → HR K F H M → XL K F W X →
  (∀ F' vs ds H' M', Sm F F' → HR K F' H' M' → Paired (fun (p : V × V) (q : D × D) => At K F' p.1 q.1 ∧ At K F' p.2 q.2) vs ds → P ds M' → Q vs H') → tPairs te σ H Q
def keyPs : List (D × D) → Option (List (Key × D))
  | [] => some []
  | p :: t => do (← keyD p.1, p.2) :: (← keyPs t)
section
variable {K : PySem.W.Frag} {W : WX} {X : XP} {F F' H : Hp} {env : DEnv} {M : MS} {P : D → MS → Prop}
theorem dps_nil {P : List (D × D) → MS → Prop} (k : P [] M) : DPs K W X [] env M P := fun F σ H Q he hr xl q => q F [] [] H M (Sm.refl F) hr .nil k
theorem dps_cons {tk tv : TE} {r : List (TE × TE)} {P : List (D × D) → MS → Prop} (h : DE K W X tk env M fun k M1 => DE K W X tv env M1 fun v M2 => DPs K W X r env M2 fun ps M3 => P ((k, v) :: ps) M3) : DPs K W X ((tk, tv) :: r) env M P := fun F σ H Q he hr xl q =>
  h F σ H _ he hr xl fun F1 v1 d1 H1 M1 s1 hr1 a1 h2 => h2 F1 σ H1 _ (he.mono s1) hr1 (xl.mono s1) fun F2 v2 d2 H2 M2 s2 hr2 a2 h3 => h3 F2 σ H2 _ (he.mono (s1.trans s2)) hr2 (xl.mono (s1.trans s2)) fun F3 vs ds H3 M3 s3 hr3 a3 p =>
    q F3 _ _ H3 M3 ((s1.trans s2).trans s3) hr3 (.cons ⟨a1.mono (s2.trans s3), a2.mono s3⟩ a3) p
theorem keyPs_raw : ∀ {ds : List (D × D)} {vs : List (V × V)} {es : List (Key × D)}, Paired (fun (p : V × V) (q : D × D) => At K F p.1 q.1 ∧ At K F p.2 q.2) vs ds → keyPs ds = some es → ∃ kvs : List (Key × V), vs = kvs.map (fun kv => (kV kv.1, kv.2)) ∧ AtG Key K F kvs es := by
  intro ds
  induction ds with
  | nil => intro vs es h e; cases h; cases e; exact ⟨[], rfl, .nil⟩
  | cons d ds ih =>
    intro vs es h e
    cases h with
    | @cons p _ _ _ r t =>
      obtain ⟨y, x⟩ := d
      simp only [keyPs] at e
      cases hk : keyD y with
      | none => rw [hk] at e; simp at e
      | some k0 =>
        rw [hk] at e
        cases hr : keyPs ds with
        | none => rw [hr] at e; simp at e
        | some kr =>
          rw [hr] at e
          simp at e
          subst e
          obtain ⟨kvs, rfl, g⟩ := ih t hr
          obtain ⟨p1, p2⟩ := p
          have e1 : p1 = kV k0 := At.key r.1 hk
          subst e1
          exact ⟨(k0, p2) :: kvs, rfl, .cons ⟨rfl, r.2⟩ g⟩
theorem de_disp {trs : List (TE × TE)} (h : ∀ a, DPs K W X trs env ((a, .dct []) :: M) fun ps m => ∃ M1 es, m = (a, .dct []) :: M1 ∧ keyPs ps = some es ∧ es.length ≤ 15 ∧ P (.loc a) ((a, .dct (mergeD [] es)) :: M1)) : DE K W X (tDisp trs) env M P := fun F σ H Q he hr xl q p hp =>
  h p F σ _ _ he (hr.new hp (o := .dct []) fun H' e => ⟨_, e, .nil⟩) xl fun F' vs ds H' M' s hr' a ⟨M1, es, e1, e2, e3, k⟩ => by
    subst e1
    obtain ⟨kvs, rfl, g⟩ := keyPs_raw a e2
    obtain ⟨ks, c1, c2⟩ := HR.cell (M1 := []) hr'
    cases c2
    exact ⟨c1, kvs, rfl, by rw [g.len]; exact e3, q F' _ _ _ _ s (HR.put (M1 := []) (o' := .dct (mergeD [] es)) hr' fun H'' e => ⟨_, e, (AtG.mergeK .nil g).k⟩) (.loc p) k⟩
theorem ds_lockKeys {i : Nat} {g : TG} {tb : TS} {De : DEnds} {M1 M2 : MS} {a : Addr} {es : List (Key × D)} (hv : env[i]? = some (some (.loc a))) (Iv : Nat → DEnv → Prop) (h0 : Iv 0 env)
    (hs : ∀ n x e o kvs, (es.map fun p => ofKey p.1)[n]? = some x → Iv n e → DG K W X g x e (M1 ++ (a, .lck o kvs es) :: M2) fun e2 m2 => DS K W X tb
      { nx := fun e m => m = M1 ++ (a, .lck o kvs es) :: M2 ∧ Iv (n + 1) e, ct := fun e m => m = M1 ++ (a, .lck o kvs es) :: M2 ∧ Iv (n + 1) e, bk := fun e m => m = M1 ++ (a, .lck o kvs es) :: M2 ∧ De.nx e (M1 ++ (a, .dct es) :: M2), rt := fun d m => m = M1 ++ (a, .lck o kvs es) :: M2 ∧ De.rt d (M1 ++ (a, .dct es) :: M2) } e2 m2)
    (hd : ∀ e, Iv es.length e → De.nx e (M1 ++ (a, .dct es) :: M2)) : DS K W X (tLock (tFor (iKeys (tVar i)) g tb)) De env (M1 ++ (a, .dct es) :: M2) := fun F σ H Ds he hr xl cn => by
  obtain ⟨kvs, c1, c2⟩ := hr.cell
  obtain ⟨v, v1, v2⟩ := he.get hv
  obtain rfl := v2.loc_inv
  refine ⟨a, .dK kvs, c1, trivial, fun od => ⟨_, v1, a, od, rfl, .inl ⟨kvs, upd_same, ?_⟩⟩⟩
  have hl : es.length = kvs.length := c2.gen.len.symm
  have hL : HR K F (upd H a (.frz od (.dK kvs))) (M1 ++ (a, .lck od kvs es) :: M2) := hr.put (o' := .lck od kvs es) fun H' e => ⟨e, c2⟩
  have back : ∀ {F' H'}, HR K F' H' (M1 ++ (a, .lck od kvs es) :: M2) → H' a = some (.frz od (.dK kvs)) ∧ HR K F' (upd H' a (.dK kvs)) (M1 ++ (a, .dct es) :: M2) := fun h => ⟨h.cell.1, h.put (o' := .dct es) fun H'' e => ⟨_, e, h.cell.2⟩⟩
  refine for_it walk_keys (fun i σ' H' => ∃ F' env', Sm F F' ∧ EnvAt K F' σ' env' ∧ HR K F' H' (M1 ++ (a, .lck od kvs es) :: M2) ∧ Iv i env') ⟨F, env, Sm.refl F, he, hL, h0⟩ (fun n σ' H' _ ⟨F', env', s, he', hr', iv⟩ => hr'.cell.1) ?_ ?_
  · rintro n x σ' H' H'' hn ⟨F', env', s, he', hr', iv⟩ ⟨rfl, k, w, e1, rfl⟩
    obtain ⟨d, e2, _⟩ := c2.gen.getD e1
    refine hs n (ofKey k) env' od kvs (by rw [List.getElem?_map, e2]; rfl) iv F' σ' _ _ _ he' hr' (xl.mono s) (at_key k) fun F2 σ2 env2 H2 m2 s2 he2 hr2 kk => ?_
    have s12 := s.trans s2
    have nn : CnG K F2 (fun e m => m = M1 ++ (a, .lck od kvs es) :: M2 ∧ Iv (n + 1) e) fun σ' H' => ∃ F' env', Sm F F' ∧ EnvAt K F' σ' env' ∧ HR K F' H' (M1 ++ (a, .lck od kvs es) :: M2) ∧ Iv (n + 1) env' :=
      fun F3 σ3 env3 H3 m3 s3 he3 hr3 ⟨e, iv3⟩ => by subst e; exact ⟨F3, env3, s12.trans s3, he3, hr3, iv3⟩
    refine kk F2 σ2 H2 _ he2 hr2 (xl.mono s12) ⟨nn, fun F3 v d H3 m3 s3 hr3 av ⟨e, r⟩ => ?_, fun F3 σ3 env3 H3 m3 s3 he3 hr3 ⟨e, r⟩ => ?_, nn⟩
    · subst e
      obtain ⟨b1, b2⟩ := back hr3
      exact ⟨b1, cn.rt F3 v d _ _ (s12.trans s3) b2 av r⟩
    · subst e
      obtain ⟨b1, b2⟩ := back hr3
      exact ⟨b1, cn.nx F3 σ3 env3 _ _ (s12.trans s3) he3 b2 r⟩
  · rintro σ' H' ⟨F', env', s, he', hr', iv⟩
    obtain ⟨b1, b2⟩ := back hr'
    rw [← hl] at iv
    exact ⟨b1, cn.nx F' σ' env' _ _ s he' b2 (hd env' iv)⟩
end
/-! ### texts by their signs -/
def strL (l : List Nat) : Str := ⟨l.toArray⟩
theorem strL_l (l : List Nat) : (strL l).cps.toList = l := rfl
theorem strL_len (l : List Nat) : (strL l).length = l.length := rfl
theorem str_eqL {x : Str} {l : List Nat} (h : x.cps.toList = l) : x = strL l := TL.ext_tl h
theorem len_l (x : Str) : x.length = x.cps.toList.length := by rw [Array.length_toList]; rfl
theorem strL_app (a b : List Nat) : strL a ++ strL b = strL (a ++ b) := TL.ext_tl (TL.tl_append _ _)
theorem rep_fold (c : Nat) : ∀ (n : Nat) (acc : Array Nat), ((List.replicate n #[c]).foldl (· ++ ·) acc).toList = acc.toList ++ List.replicate n c
  | 0, acc => by simp
  | n + 1, acc => by
    rw [List.replicate_succ, List.foldl_cons, rep_fold c n, List.replicate_succ, Array.toList_append, List.append_assoc]
    rfl
/-- a sign so many times -/
def rRepC : R2 := fun x y H Q => ∃ c n : Nat, x = .str (strL [c]) ∧ y = .int (n : Int) ∧ n ≤ 5000 ∧ Q (.str (strL (List.replicate n c))) H
theorem op_mulS {Y : Cx} : OpR Y (binaryOp .Mult) rRepC := by
  intro pins s σ H x y v u Q I rx ry h
  obtain ⟨c, n, rfl, rfl, hn, q⟩ := h
  obtain ⟨t, rfl⟩ := rx
  obtain ⟨t', rfl⟩ := ry
  have hlen : (strL [c]).length = 1 := rfl
  have big : (sizeLine : Nat) = 16777216 := by decide
  refine PySem.P.mul_str (by rw [decide_eq_false (by omega), decide_eq_false (by omega)]; rfl) (fun h1 _ => by
    rw [hlen]
    have h3 : ((2 : Int) ^ 63 - 1) / (n : Int) ≥ 1 := Int.le_ediv_of_mul_le (by omega) (by omega)
    omega) (fun _ _ => by
    rw [hlen, Nat.one_mul, Int.toNat_natCast]
    exact decide_eq_false (by omega)) ?_
  by_cases h1 : (n : Int) < 1
  · rw [if_pos h1]
    have : n = 0 := by omega
    subst this
    exact ⟨by decide, ⟨.str _, H, I.tok _, ⟨_, rfl⟩, q⟩⟩
  · rw [if_neg h1]
    by_cases h2 : n = 1
    · subst h2
      rw [if_pos (by rw [hlen]; rfl)]
      exact ⟨.str (strL [c]), H, I, ⟨_, rfl⟩, q⟩
    · have h3 : ((n : Int) == 1 || (strL [c]).length == 0) = false := by
        rw [hlen]
        have : ((n : Int) == 1) = false := by rw [beq_eq_false_iff_ne]; omega
        rw [this]; rfl
      rw [if_neg (by rw [h3]; decide)]
      have e : (⟨(List.replicate (n : Int).toNat (strL [c]).cps).foldl (· ++ ·) #[]⟩ : Str) = strL (List.replicate n c) := by
        refine TL.ext_tl ?_
        show ((List.replicate (n : Int).toNat #[c]).foldl (· ++ ·) #[]).toList = List.replicate n c
        rw [rep_fold, Int.toNat_natCast]; rfl
      rw [e]
      exact ⟨by rw [strL_len, List.length_replicate]; exact Nat.le_trans hn (by decide), ⟨.str _, H, I.tok _, ⟨_, rfl⟩, q⟩⟩
section
variable {K : PySem.W.Frag} {M : MS} {P : D → MS → Prop}
theorem dop_mulS {x : Str} {c n : Nat} (hx : x = strL [c]) (hn : n ≤ 5000) (k : P (.str (strL (List.replicate n c))) M) : DOp K rRepC (.str x) (.int (n : Int)) M P := fun F H v1 v2 Q hr a1 a2 q => ⟨c, n, by rw [a1.str_inv, hx], a2.int_inv, hn, q.now hr (.str _) k⟩
end
theorem join_sg {cs : List Nat} : (Txt.join (strL []) (cs.map fun c => strL [c])).cps.toList = cs := by
  have e : strL [] = Str.empty := rfl
  rw [e, TL.join_eq]
  show TL.tl _ = _
  rw [TL.tl_join]
  induction cs with
  | nil => rfl
  | cons c cs ih =>
    cases cs with
    | nil => rfl
    | cons d cs => exact congrArg (c :: ·) ih
theorem cutS_to {z : List Nat} {k : Nat} : cutS (strL z) none (some (k : Int)) = strL (z.take k) := by
  refine TL.ext_tl ?_
  show (z.drop 0).take (HT.sIx z.length z.length (some (k : Int)) - 0) = _
  rw [HT.sIx_nat, List.drop_zero, Nat.sub_zero]
  by_cases h : k ≤ z.length
  · rw [Nat.min_eq_left h]; rfl
  · rw [Nat.min_eq_right (by omega), List.take_of_length_le (Nat.le_refl _)]
    show z = z.take k
    rw [List.take_of_length_le (by omega)]
theorem cutS_from {z : List Nat} {k : Nat} : cutS (strL z) (some (k : Int)) none = strL (z.drop k) := by
  refine TL.ext_tl ?_
  show (z.drop (HT.sIx z.length 0 (some (k : Int)))).take (HT.sIx z.length z.length none - HT.sIx z.length 0 (some (k : Int))) = z.drop k
  rw [HT.sIx_nat, HT.sIx_none]
  by_cases h : k ≤ z.length
  · rw [Nat.min_eq_left h, List.take_of_length_le (by rw [List.length_drop]; exact Nat.le_refl _)]
  · rw [Nat.min_eq_right (by omega), List.drop_of_length_le (Nat.le_refl _), List.drop_of_length_le (by omega), List.take_nil]
theorem abcL {i : Nat} (h : i < 26) : atI ("abcdefghijklmnopqrstuvwxyz" : Str).cps.toList (i : Int) = some (97 + i) := by
  have hf : ∀ n : Fin 26, ("abcdefghijklmnopqrstuvwxyz" : Str).cps.toList[n.1]? = some (97 + n.1) := by decide +kernel
  exact atI_nat' (hf ⟨i, h⟩)
/-! ### plain data: deep equality, repr -/
mutual
def pyD : D → PyData
  | .bl b => .bool b
  | .int i => .int i
  | .str x => .str x
  | .lst ds => .list (pyDs ds)
  | .tup ds => .tuple (pyDs ds)
  | _ => .none
def pyDs : List D → List PyData
  | [] => []
  | d :: ds => pyD d :: pyDs ds
end
/-- plain, at most so deep, with numbers and signs that repr takes -/
def okD : Nat → D → Bool
  | _, .non => true
  | _, .bl _ => true
  | _, .int i => decide (0 ≤ i) && decide (i ≤ 10000000000000)
  | _, .str x => x.cps.toList.all fun c => decide (c < 1114112)
  | n + 1, .lst ds => ds.all (okD n)
  | n + 1, .tup ds => ds.all (okD n)
  | _, _ => false
mutual
/-- no less than the signs of its repr -/
def wtD : D → Nat
  | .non => 4
  | .bl _ => 5
  | .int _ => 14
  | .str x => 10 * x.length + 2
  | .lst ds => wtDs ds + 3
  | .tup ds => wtDs ds + 3
  | _ => 4
def wtDs : List D → Nat
  | [] => 0
  | d :: ds => wtD d + 2 + wtDs ds
end
theorem pyDs_map : ∀ ds : List D, pyDs ds = ds.map pyD
  | [] => by rw [pyDs]; rfl
  | d :: ds => by rw [pyDs, pyDs_map ds]; rfl
section
variable {K : PySem.W.Frag} {F F' H : Hp} {M : MS}
mutual
theorem At.is : ∀ {v : V} {d : D}, At K F v d → ∀ n, okD n d = true → Is K F v (pyD d)
  | _, _, .non, _, _ => by rw [pyD]; exact .non; all_goals (intros; contradiction)
  | _, _, .bl b, _, _ => by rw [pyD]; exact .bl b
  | _, _, .int i, _, _ => by rw [pyD]; exact .int i
  | _, _, .str x, _, _ => by rw [pyD]; exact .str x
  | _, _, .lst h1 h2, n, ho => by
    cases n with
    | zero => cases ho
    | succ n => rw [pyD]; exact .lst (.inl (.inl h1)) (Ats.is h2 n ho)
  | _, _, .tup h1 h2, n, ho => by
    cases n with
    | zero => cases ho
    | succ n => rw [pyD]; exact .tup (.inl (.inl h1)) (Ats.is h2 n ho)
  | _, _, .ty _, n, ho => by cases n <;> cases ho
  | _, _, .dct _ _, n, ho => by cases n <;> cases ho
  | _, _, .dcT _ _, n, ho => by cases n <;> cases ho
  | _, _, .obj _ _, n, ho => by cases n <;> cases ho
  | _, _, .scr _, n, ho => by cases n <;> cases ho
  | _, _, .ktp _, n, ho => by cases n <;> cases ho
  | _, _, .exc _ _, n, ho => by cases n <;> cases ho
  | _, _, .loc _, n, ho => by cases n <;> cases ho
theorem Ats.is : ∀ {vs : List V} {ds : List D}, Ats K F vs ds → ∀ n, ds.all (okD n) = true → IsAll K F vs (pyDs ds)
  | _, _, .nil, _, _ => by rw [pyDs]; exact .nil
  | _, _, .cons h t, n, ho => by
    rw [List.all_cons, Bool.and_eq_true] at ho
    rw [pyDs]
    exact .cons (At.is h n ho.1) (Ats.is t n ho.2)
end
mutual
/-- plain data stand as well where F stands in a heap -/
theorem At.isH (hs : Sm F H) : ∀ {v : V} {d : D}, At K F v d → ∀ n, okD n d = true → Is K H v (pyD d)
  | _, _, h, n, ho => At.is (h.mono hs) n ho
end
end
/-! what is known of the PyData -/
structure PyOk (n : Nat) (p : PyData) (w : Nat) : Prop where
  nd : p.hasDict = false
  dp : p.depth ≤ n
  sh : p.showable = true
  cl : p.canLay0 = true
  le : p.shown.length ≤ w
structure PysOk (n : Nat) (ps : List PyData) (w : Nat) : Prop where
  nd : PyData.hasDictAll ps = false
  dp : PyData.depthAll ps ≤ n
  sh : PyData.showableAll ps = true
  cl : PyData.canLayAll0 ps = true
  le : ((PyData.shownAll ps).map (·.length)).sum + 2 * (PyData.shownAll ps).length ≤ w
theorem PysOk.lst {n w : Nat} {ps : List PyData} (h : PysOk n ps w) : PyOk (n + 1) (.list ps) (w + 3) :=
  ⟨by simp only [PyData.hasDict]; exact h.nd, by simp only [PyData.depth]; have := h.dp; omega, by simp only [PyData.showable]; exact h.sh, by simp only [PyData.canLay0]; exact h.cl, by
    simp only [PyData.shown]
    have := listText_len_le (PyData.shownAll ps)
    have := h.le
    omega⟩
theorem PysOk.tup {n w : Nat} {ps : List PyData} (h : PysOk n ps w) : PyOk (n + 1) (.tuple ps) (w + 3) :=
  ⟨by simp only [PyData.hasDict]; exact h.nd, by simp only [PyData.depth]; have := h.dp; omega, by simp only [PyData.showable]; exact h.sh, by simp only [PyData.canLay0]; exact h.cl, by
    simp only [PyData.shown]
    have := tupleText_len_le (PyData.shownAll ps)
    have := h.le
    omega⟩
theorem natAbs_log {i : Int} (h0 : 0 ≤ i) (h1 : i ≤ 10000000000000) : i.natAbs.log2 < 1920 := by
  have : i.natAbs < 2 ^ 44 := by omega
  have h2 : i.natAbs.log2 ≤ 44 := by
    by_cases z : i.natAbs = 0
    · rw [z]; decide
    · exact Nat.le_of_lt ((Nat.log2_lt z).mpr this)
  omega
mutual
theorem okD_py : ∀ (d : D) (n : Nat), okD n d = true → PyOk n (pyD d) (wtD d)
  | .non, n, _ => by simp only [pyD, wtD]; exact ⟨rfl, Nat.zero_le _, rfl, rfl, by decide⟩
  | .bl b, n, _ => by simp only [pyD, wtD]; exact ⟨rfl, Nat.zero_le _, rfl, rfl, by cases b <;> decide⟩
  | .int i, n, h => by
    have h' : (decide (0 ≤ i) && decide (i ≤ 10000000000000)) = true := by cases n <;> exact h
    rw [Bool.and_eq_true] at h'
    have h0 := of_decide_eq_true h'.1
    have h1 := of_decide_eq_true h'.2
    simp only [pyD, wtD]
    exact ⟨rfl, Nat.zero_le _, by simp only [PyData.showable]; exact decide_eq_true (natAbs_log h0 h1), rfl, by simp only [PyData.shown]; exact PyProof.Rows.toString_length_le h0 (by decide) (by omega)⟩
  | .str x, n, h => by
    have h' : (x.cps.toList.all fun c => decide (c < 1114112)) = true := by cases n <;> exact h
    simp only [pyD, wtD]
    refine ⟨rfl, Nat.zero_le _, rfl, ?_, ?_⟩
    · simp only [PyData.canLay0, PyData.strOk]
      rw [← Array.all_toList]; exact h'
    · simp only [PyData.shown]
      exact StrLaws.reprText_len x fun c hc => Nat.lt_trans (of_decide_eq_true (List.all_eq_true.mp h' c hc)) (by decide)
  | .lst ds, 0, h => by cases h
  | .lst ds, n + 1, h => by simp only [pyD, wtD]; exact (okDs_py ds n h).lst
  | .tup ds, 0, h => by cases h
  | .tup ds, n + 1, h => by simp only [pyD, wtD]; exact (okDs_py ds n h).tup
  | .ty _, n, ho => by cases n <;> cases ho
  | .dct _, n, ho => by cases n <;> cases ho
  | .dcT _, n, ho => by cases n <;> cases ho
  | .obj _ _, n, ho => by cases n <;> cases ho
  | .scr _, n, ho => by cases n <;> cases ho
  | .ktp _, n, ho => by cases n <;> cases ho
  | .exc _ _ _, n, ho => by cases n <;> cases ho
  | .loc _, n, ho => by cases n <;> cases ho
theorem okDs_py : ∀ (ds : List D) (n : Nat), ds.all (okD n) = true → PysOk n (pyDs ds) (wtDs ds)
  | [], n, _ => by simp only [pyDs, wtDs]; exact ⟨rfl, Nat.zero_le _, rfl, rfl, by simp [PyData.shownAll]⟩
  | d :: ds, n, ho => by
    rw [List.all_cons, Bool.and_eq_true] at ho
    have h1 := okD_py d n ho.1
    have h2 := okDs_py ds n ho.2
    simp only [pyDs, wtDs]
    refine ⟨?_, ?_, ?_, ?_, ?_⟩
    · simp only [PyData.hasDictAll, h1.nd, h2.nd, Bool.or_self]
    · simp only [PyData.depthAll]; exact Nat.max_le.mpr ⟨h1.dp, h2.dp⟩
    · simp only [PyData.showableAll, h1.sh, h2.sh, Bool.and_self]
    · simp only [PyData.canLayAll0, h1.cl, h2.cl, Bool.and_self]
    · have := h1.le
      have := h2.le
      simp only [PyData.shownAll, List.map_cons, List.sum_cons, List.length_cons]
      omega
end
mutual
theorem noDict_of : ∀ p : PyData, p.canLay0 = true → noDict p = true
  | .none, _ => rfl
  | .bool _, _ => rfl
  | .int _, _ => rfl
  | .str _, _ => rfl
  | .list xs, h => by simp only [PyData.canLay0] at h; simp only [noDict]; exact noDicts_of xs h
  | .tuple xs, h => by simp only [PyData.canLay0] at h; simp only [noDict]; exact noDicts_of xs h
  | .dict _, h => by simp [PyData.canLay0] at h
theorem noDicts_of : ∀ ps : List PyData, PyData.canLayAll0 ps = true → noDict.noDictAll ps = true
  | [], _ => rfl
  | p :: ps, h => by
    simp only [PyData.canLayAll0, Bool.and_eq_true] at h
    simp only [noDict.noDictAll, noDict_of p h.1, noDicts_of ps h.2, Bool.and_self]
end
section
variable {K : PySem.W.Frag} {M : MS} {P : D → MS → Prop} {F H : Hp}
/-- a list, still or changing, of plain data -/
theorem IsL.is {n : Nat} {x : D} {ds : List D} {v : V} (h : IsL M x ds) (ho : ds.all (okD n) = true) (hr : HR K F H M) (a : At K F v x) : Is K H v (.list (pyDs ds)) := by
  obtain ⟨p, xs, rfl, h1, h2⟩ := h.raw hr a
  exact .lst (.inl (.inl h1)) (Ats.is (h2.mono (Sm.of hr.s)) n ho)
/-- not equal to an empty list -/
theorem dop_neNil {n : Nat} {x y : D} {ds : List D} (hx : IsL M x ds) (hy : IsL M y []) (ho : ds.all (okD n) = true) (hn : n ≤ 20) (k : P (.bl (!ds.isEmpty)) M) : DOp K (rNeD K) x y M P := fun F H v1 v2 Q hr a1 a2 q => by
  have h1 := hx.is ho hr a1
  have h2 := hy.is (n := 0) rfl hr a2
  rw [pyDs] at h2
  have h3 := (okDs_py ds n ho).lst
  refine ⟨_, _, h1.dp (noDict_of _ h3.cl), h2.dp rfl, ?_, by decide +kernel, ?_⟩
  · unfold SeqAt.shaped
    rw [Bool.and_eq_true]
    exact ⟨h3.cl, decide_eq_true (by have := h3.dp; omega)⟩
  · have e : PyData.eqv (.list (pyDs ds)) (.list []) = ds.isEmpty := by
      cases ds with
      | nil => simp [pyDs, PyData.eqv, PyData.eqvAll]
      | cons d ds => simp [pyDs, PyData.eqv, PyData.eqvAll]
    rw [e]; exact q.now hr (.bl _) k
end
def rReprA (K : PySem.W.Frag) : List V → Hp → VK → Prop := fun xs H Q => ∃ v, xs = [v] ∧ ((∃ d, Is K H v d ∧ d.hasDict = false ∧ d.showable = true ∧ d.shown.length ≤ sizeLine ∧ d.depth ≤ 60 ∧ Q (.str d.shown) H) ∨
  (∃ a kvs es, v = .ref a ∧ Rd H a (.dK kvs) ∧ IsKv K H kvs es ∧ (PyData.dict es).showable = true ∧ PyData.hasDictAll (es.map (·.1)) = false ∧ PyData.hasDictAll (es.map (·.2)) = false ∧ (PyData.dict es).shown.length ≤ sizeLine ∧ (PyData.dict es).depth ≤ 60 ∧ Q (.str (PyData.dict es).shown) H) ∨
  ∃ t vs ds, v = .ref t ∧ SqT K H t vs ∧ IsAll K H vs ds ∧ (PyData.tuple ds).showable = true ∧ (PyData.tuple ds).shown.length ≤ sizeLine ∧ (PyData.tuple ds).depth ≤ 60 ∧ Q (.str (PyData.tuple ds).shown) H)
section
variable {K : PySem.W.Frag} {W : WX} {X : XP} {env : DEnv} {M : MS} {F H : Hp}
theorem EnvAt.drops {K : PySem.W.Frag} {F : Hp} {σ : St} {env : DEnv} (h : EnvAt K F σ env) {i : Nat} {v : V} {d : D} (h1 : σ[i]? = some (some v)) (a : At K F v d) : EnvAt K F σ (env.set i (some d)) := by
  have h2 := h.set (i := i) a
  have e : σ.set i (some v) = σ := by
    refine List.ext_getElem? fun j => ?_
    rw [List.getElem?_set]
    by_cases z : i = j
    · subst z
      rw [if_pos rfl, h1]
      rw [if_pos (List.getElem?_eq_some_iff.mp h1).1]
    · rw [if_neg z]
  rw [e] at h2; exact h2
/-- a name's object is read as what stays -/
theorem ds_frz {i : Nat} {d : D} {t : TS} {De : DEnds} (h : env[i]? = some (some d)) (z : Fz (fun d' M' => DS K W X t De (env.set i (some d')) M') d M) : DS K W X t De env M := fun F σ H Ds he hr xl c => by
  obtain ⟨v, h1, h2⟩ := he.get h
  exact z.out (F0 := F) (Sm.refl F) hr h2 fun F' d' M' s hr' a p => p F' σ H Ds ((he.mono s).drops h1 a) hr' (xl.mono s) (c.mono s)
/-- a list that stands in a changing one is read as what stays -/
def sub1 (a : Addr) (x : D) : D → D
  | .loc b => if b = a then x else .loc b
  | d => d
theorem At.sub1 {a : Addr} {x : D} (hx : At K F (.ref a) x) {v : V} {d : D} (h : At K F v d) : At K F v (sub1 a x d) := by
  cases d with
  | loc b =>
    obtain rfl := h.loc_inv
    show At K F _ (if b = a then x else .loc b)
    by_cases e : b = a
    · rw [if_pos e, e]; exact hx
    · rw [if_neg e]; exact h
  | _ => exact h
theorem Ats.sub1 {a : Addr} {x : D} (hx : At K F (.ref a) x) : ∀ {vs : List V} {ds : List D}, Ats K F vs ds → Ats K F vs (ds.map (Fm.sub1 a x))
  | _, _, .nil => .nil
  | _, _, .cons h t => .cons (At.sub1 hx h) (Ats.sub1 hx t)
theorem ds_melt {a p : Addr} {xs ds : List D} {M0 : MS} {t : TS} {De : DEnds} (hp : ((a, MO.lst xs) :: (p, MO.lst ds) :: M0).Perm M) (h : DS K W X t De env ((p, .lst (ds.map (sub1 a (.lst xs)))) :: M0)) : DS K W X t De env M := fun F σ H Ds he hr xl c => by
  have hr := hr.perm hp
  obtain ⟨ys, e, q⟩ := HR.cell (M1 := []) hr
  obtain ⟨s, hr2⟩ := HR.freeze (M1 := []) hr e
  obtain ⟨zs, e2, q2⟩ := HR.cell (M1 := []) hr2
  refine h _ σ H Ds (he.mono s) ⟨hr2.s, hr2.nd, fun r hr' => ?_⟩ (xl.mono s) (c.mono s)
  rcases List.mem_cons.mp hr' with e3 | e3
  · subst e3
    exact ⟨(hr2.at' _ List.mem_cons_self).1, ⟨zs, e2, Ats.sub1 (.lst upd_same (q.mono s)) q2⟩⟩
  · exact hr2.at' r (List.mem_cons_of_mem _ e3)
end
/-- what holds behind a statement, said ahead of it -/
theorem ds_cut {K : PySem.W.Frag} {W : WX} {X : XP} {env : DEnv} {M : MS} {t : TS} {De : DEnds} (Iv : DEnv → MS → Prop) (h : DS K W X t { De with nx := Iv } env M) (k : ∀ e m, Iv e m → De.nx e m) : DS K W X t De env M := ds_mono h k (fun _ _ z => z) (fun _ _ z => z) (fun _ _ z => z)
theorem ds_par {K : PySem.W.Frag} {W : WX} {X : XP} {env : DEnv} {M : MS} {i j : Nat} {ta : TA} {De : DEnds} (h : DA K W X ta env M fun ds M1 => ∃ d e, ds = [d, e] ∧ De.nx ((env.set i (some d)).set j (some e)) M1) : DS K W X (tPar i j ta) De env M := fun F σ H Ds he hr xl c =>
  h F σ H _ he hr xl fun F1 vs ds H1 M1 s1 hr1 a1 ⟨d, e, z, p⟩ => by
    subst z
    obtain ⟨v, w, rfl, a, b⟩ := a1.two_inv
    exact ⟨v, w, rfl, c.nx F1 _ _ H1 M1 s1 (((he.mono s1).set a i).set b j) hr1 p⟩
theorem ds_nd {K : PySem.W.Frag} {W : WX} {X : XP} {env : DEnv} {M : MS} {t : TS} {De : DEnds} (h : (M.map (·.1)).Nodup → DS K W X t De env M) : DS K W X t De env M := fun F σ H Ds he hr xl c => h hr.nd F σ H Ds he hr xl c
/-- what a def gives may be frozen at last -/
theorem ds_fz {K : PySem.W.Frag} {W : WX} {X : XP} {env : DEnv} {M : MS} {t : TS} {De : DEnds} (h : DS K W X t { De with rt := Fz De.rt } env M) : DS K W X t De env M := fun F σ H Ds he hr xl c => h F σ H Ds he hr xl ⟨c.nx, c.rt.fz, c.bk, c.ct⟩
theorem all_congrD {α : Type} {f g : α → Bool} : ∀ {l : List α}, (∀ x ∈ l, f x = g x) → l.all f = l.all g
  | [], _ => rfl
  | x :: l, h => by rw [List.all_cons, List.all_cons, h x List.mem_cons_self, all_congrD fun y hy => h y (List.mem_cons_of_mem _ hy)]
theorem dt_cut {K : PySem.W.Frag} {W : WX} {X : XP} {env : DEnv} {M : MS} {c : TT} {P : Bool → MS → Prop} (Iv : Bool → MS → Prop) (h : DT K W X c env M Iv) (k : ∀ b m, Iv b m → P b m) : DT K W X c env M P := fun F σ H Q he hr xl q => h F σ H Q he hr xl fun F' b H' M' s hr' p => q F' b H' M' s hr' (k _ _ p)
section
variable {K : PySem.W.Frag} {M : MS} {P : D → MS → Prop}
/-- equal to an empty list -/
theorem dop_eqNil {n : Nat} {x y : D} {ds : List D} (hx : IsL M x ds) (hy : IsL M y []) (ho : ds.all (okD n) = true) (hn : n ≤ 20) (k : P (.bl ds.isEmpty) M) : DOp K (rEqD K) x y M P := fun F H v1 v2 Q hr a1 a2 q => by
  have h1 := hx.is ho hr a1
  have h2 := hy.is (n := 0) rfl hr a2
  rw [pyDs] at h2
  have h3 := (okDs_py ds n ho).lst
  refine ⟨_, _, h1.dp (noDict_of _ h3.cl), h2.dp rfl, ?_, by decide +kernel, ?_⟩
  · unfold SeqAt.shaped
    rw [Bool.and_eq_true]
    exact ⟨h3.cl, decide_eq_true (by have := h3.dp; omega)⟩
  · have e : PyData.eqv (.list (pyDs ds)) (.list []) = ds.isEmpty := by
      cases ds with
      | nil => simp [pyDs, PyData.eqv, PyData.eqvAll]
      | cons d ds => simp [pyDs, PyData.eqv, PyData.eqvAll]
    rw [e]; exact q.now hr (.bl _) k
end
/-! ### exceptions: made, let out, caught -/
/-- try: body, except C as n: suite -/
def tTryAs (K : PySem.W.Frag) (c : Value) (i : Nat) (ts : Addr → Value → Option Addr → TS) (tb : WX → TS) (Wo : WX) : TS := fun D σ H => tb (wAs K c i ts Wo D) D σ H
theorem ps_try_asD {X : Cx} {K : PySem.W.Frag} {x n : Str} {c : Value} {i : Nat} {body suite : List Stmt} {b₀ : Stmt} {np pos pos' : Pos} {tb : WX → TS} {ts : Addr → Value → Option Addr → TS} {Wo : WX} (hK : X.K = K) (h1 : X.stack = X.env :: X.outer) (h2 : X.env.frame = some X.env.locals) (h3 : X.N.Nodup) (h4 : X.N[i]? = some n)
    (h5 : X.env.kindOf n = some .local) (h6 : Names X x c) (h7 : Takes X Wo) (hb : ∀ (W : WX) (pn : List (Addr × Obj)) (xe : Value → Shared → Prop), Takes (X.tr pn xe) W → PassesOwn (model X.prog X.w) X.A X.env xe → PSs (X.tr pn xe) body (tb W))
    (hu : ∀ (a : Addr) (oe : Obj) (cls : Value) (d : Option Addr) (pn : List (Addr × Obj)), Zc cls d oe → (∃ vs, oe.data = .fields vs) → PSs (X.suite a ((a, oe) :: pn)) (b₀ :: suite) (ts a cls d)) :
    PS X (.Try body [.ExceptHandler (some (.Name x np)) (some n) (b₀ :: suite) pos'] [] [] pos) (tTryAs K c i ts tb Wo) := by
  subst hK
  exact ps_try_as h1 h2 h3 h4 h5 h6 h7 hb hu
/-- what the __init__ of a class with one field promises -/
def spExc1 (K : PySem.W.Frag) (C : Addr) (f : Str) : Sp := fun vs H Q _ => ∃ a v, vs = [.ref a, v] ∧ H a = some (exo a C none) ∧ ∀ dx, H dx = none → dx ≠ a → Q .non (upd (upd H dx (exd dx [(f, v)])) a (exo a C (some dx)))
/-- .. with two fields -/
def spExc2 (K : PySem.W.Frag) (C : Addr) (f g : Str) : Sp := fun vs H Q _ => ∃ a v u, vs = [.ref a, v, u] ∧ H a = some (exo a C none) ∧ ∀ dx, H dx = none → dx ≠ a → Q .non (upd (upd (upd H dx (exd dx [(f, v)])) a (exo a C (some dx))) dx (exd dx [(g, u), (f, v)]))
section
variable {K : PySem.W.Frag} {W : WX} {X : XP} {F H : Hp} {env : DEnv} {M : MS} {P : D → MS → Prop}
theorem exo_end {H1 : Hp} {a C dx : Addr} {fs : List (Str × V)} (ha : H1 a = none) (hd : H1 dx = none) (ne : dx ≠ a) : upd (del (upd (upd (upd H1 a (exo a C none)) dx (exd dx fs)) a (exo a C (some dx))) a) dx (.xd fs) = upd H1 dx (.xd fs) := by
  funext b
  by_cases e : b = dx
  · subst e; rw [upd_same, upd_same]
  · rw [upd_ne e, upd_ne e]
    by_cases e2 : b = a
    · subst e2; rw [del_same, ha]
    · rw [del_ne e2, upd_ne e2, upd_ne e, upd_ne e2]
/-- raise C(e) -/
theorem ds_exc1 {C : Addr} {f : Str} {t : TA} {De : DEnds} (h : DA K W X t env M fun ds M1 => ∃ d, ds = [d] ∧ X (.ref C) [(f, d)] env M1) : DS K W X (fun _ σ H => tMkO C (spExc1 K C f) [] t σ H fun cls d H' => W cls d σ H') De env M := fun F σ H Ds he hr xl c =>
  h F σ H _ he hr xl fun F1 vs ds H1 M1 s1 hr1 a1 ⟨d, e, x⟩ => by
    subst e
    obtain ⟨v, rfl, a⟩ := a1.one_inv
    refine ⟨by show 1 ≤ 1000; decide, fun b hb => ⟨b, v, rfl, upd_same, fun dx hdx ne => ⟨rfl, dx, [(f, v)], upd_same, ?_, ?_, ?_⟩⟩⟩
    · rw [upd_ne ne, upd_same]
    · rwa [upd_ne ne] at hdx
    · have hd : H1 dx = none := by rwa [upd_ne ne] at hdx
      rw [exo_end hb hd ne]
      exact xl F1 _ dx [(f, v)] [(f, d)] σ env _ M1 s1 (he.mono s1) (hr1.grow (Same.new hd)) upd_same (.cons a .nil) x
/-- a call that may let something out, where it stands -/
theorem de_callS {sp : DSp} {t : TA} (h : DA K W X t env M fun ds M1 => sp ds M1 (Fz P) fun cls fs m => X cls fs env m) : DE K W X (tCallS (up K sp) (WE W) t) env M P := fun F σ H Q he hr xl q =>
  h F σ H _ he hr xl fun F1 vs ds H1 M1 s1 hr1 a1 hp => by
    show up K sp vs H1 Q (WE W σ)
    exact ⟨F1, M1, ds, Fz P, _, hr1, a1, hp, (q.mono s1).fz, fun F' cls dx ws fs H' M' s hr' e af x => xl F' cls dx ws fs σ env H' M' (s1.trans s) (he.mono (s1.trans s)) hr' e af x⟩
/-- an exception's dict stays -/
theorem HR.xd {dx : Addr} {ws : List (Str × V)} (hr : HR K F H M) (h : H dx = some (.xd ws)) : ∃ F', Sm F F' ∧ HR K F' H M ∧ F' dx = some (.xd ws) := by
  cases e : F dx with
  | some u =>
    have := hr.s _ _ e
    rw [h] at this
    cases this
    exact ⟨F, Sm.refl F, hr, e⟩
  | none =>
    have s : Sm F (upd F dx (.xd ws)) := Sm.of (Same.new e)
    have hn : ∀ p ∈ M, p.1 ≠ dx := fun p hp z => by
      have ho := (hr.at' p hp).2
      rw [z] at ho
      obtain ⟨p1, o⟩ := p
      cases o with
      | lst => obtain ⟨_, e, _⟩ := ho; rw [h] at e; cases e
      | dct => obtain ⟨_, e, _⟩ := ho; rw [h] at e; cases e
      | dcT => obtain ⟨_, e, _⟩ := ho; rw [h] at e; cases e
      | ins => obtain ⟨_, _, e, _⟩ := ho; rw [h] at e; cases e
      | lck => obtain ⟨e, _⟩ := ho; rw [h] at e; cases e
    refine ⟨_, s, ⟨fun b u e2 => ?_, hr.nd, fun p hp => ⟨(upd_ne (hn p hp)).trans (hr.at' p hp).1, (hr.at' p hp).2.mono s rfl⟩⟩, upd_same⟩
    by_cases z : b = dx
    · subst z; rw [upd_same] at e2; rw [← e2]; exact h
    · rw [upd_ne z] at e2; exact hr.s _ _ e2
theorem EnvAt.unset {σ : St} {env : DEnv} (h : EnvAt K F σ env) : ∀ i, EnvAt K F (σ.set i none) (env.set i none) := by
  induction h with
  | nil => intro i; exact .nil
  | non h ih => intro i; cases i with
    | zero => exact .non h
    | succ i => exact .non (ih i)
  | cons a h ih => intro i; cases i with
    | zero => exact .non h
    | succ i => exact .cons a (ih i)
theorem ds_try_as {c : Value} {i : Nat} {ts : Addr → Value → Option Addr → TS} {tb : WX → TS} {De : DEnds}
    (h : ∀ W', DS K W' (fun cls fs e1 m1 => ∃ b, PySem.W.exmOne K cls c = some b ∧
      (b = true → ∀ a dd, DS K (fun _ _ _ _ => False) (fun _ _ _ _ => False) (ts a cls (some dd)) { nx := fun e m => De.nx (e.set i none) m, rt := De.rt, bk := fun e m => De.bk (e.set i none) m, ct := fun e m => De.ct (e.set i none) m } (e1.set i (some (.exc a dd fs))) m1) ∧
      (b = false → X cls fs e1 m1)) (tb W') De env M) : DS K W X (tTryAs K c i ts tb W) De env M := fun F σ H Ds he hr xl c0 => by
  refine h (wAs K c i ts W Ds) F σ H Ds he hr (fun F' cls dx ws fs σ' e' H' M' s' he' hr' hx af ⟨b, e1, hy, hn⟩ => ⟨b, e1, fun eb a ha => ?_, fun eb => xl F' cls dx ws fs σ' e' H' M' s' he' hr' hx af (hn eb)⟩) c0
  obtain ⟨F2, s2, hr2, hx2⟩ := hr'.xd hx
  have s02 := s'.trans s2
  refine hy eb a dx F2 (σ'.set i (some (.ref a))) H' _ ((he'.mono s2).set (.exc hx2 (af.mono s2)) i) hr2 (fun _ _ _ _ _ _ _ _ _ _ _ _ _ _ z => z.elim) ⟨fun F3 σ3 e3 H3 M3 s3 he3 hr3 k => ?_, fun F3 v d H3 M3 s3 hr3 av k => ?_, fun F3 σ3 e3 H3 M3 s3 he3 hr3 k => ?_, fun F3 σ3 e3 H3 M3 s3 he3 hr3 k => ?_⟩
  · exact c0.nx F3 _ _ H3 M3 (s02.trans s3) (he3.unset i) hr3 k
  · exact c0.rt F3 v d H3 M3 (s02.trans s3) hr3 av k
  · exact c0.bk F3 _ _ H3 M3 (s02.trans s3) (he3.unset i) hr3 k
  · exact c0.ct F3 _ _ H3 M3 (s02.trans s3) (he3.unset i) hr3 k
theorem AtF.look {vs : List (Str × V)} {fs : List (Str × D)} (h : AtF K F vs fs) {f : Str} {x : D} (e : fs.lookup f = some x) : ∃ v, vs.lookup f = some v ∧ At K F v x := by
  induction vs generalizing fs with
  | nil => cases h; cases e
  | cons p vs ih =>
    cases h with
    | @cons k v _ d ds a t =>
      rw [List.lookup_cons] at e ⊢
      cases hb : f == k with
      | true =>
        rw [hb] at e
        cases e
        exact ⟨v, rfl, a⟩
      | false =>
        rw [hb] at e
        exact ih t e
/-- err.f in a suite -/
theorem de_xf {a C dd : Addr} {cls : Value} {f : Str} {te : TE} (h : DE K W X te env M fun d M1 => cls = .ref C ∧ ∃ fs x, d = .exc a dd fs ∧ fs.lookup f = some x ∧ P x M1) : DE K W X (tXf a cls (some dd) C f te) env M P := fun F σ H Q he hr xl q =>
  h F σ H _ he hr xl fun F1 v1 d1 H1 M1 s1 hr1 a1 ⟨ec, fs, x, ed, el, p⟩ => by
    subst ed
    cases a1 with
    | exc h1 h2 =>
      obtain ⟨v, ev, av⟩ := AtF.look h2 el
      exact ⟨rfl, ec, dd, _, v, rfl, hr1.s _ _ h1, ev, (q.mono s1).now hr1 av p⟩
end
theorem passF {P : Program} {w : World} {X : Cx} : Passes (L2.CX P w) X (fun _ _ _ => False) := fun _ _ _ _ _ _ _ c => by
  obtain ⟨_, _, _, _, _, _, _, _, _, _, _, _, z⟩ := c
  exact z.elim
theorem spExc1_len {K : PySem.W.Frag} {C : Addr} {f : Str} {vs : List V} {H : Hp} {Q : VK} {E : XK} (h : spExc1 K C f vs H Q E) : vs.length = 2 := by obtain ⟨a, v, rfl, _⟩ := h; rfl
theorem spExc2_len {K : PySem.W.Frag} {C : Addr} {f g : Str} {vs : List V} {H : Hp} {Q : VK} {E : XK} (h : spExc2 K C f g vs H Q E) : vs.length = 3 := by obtain ⟨a, v, u, rfl, _⟩ := h; rfl
theorem spExc1_run {K : PySem.W.Frag} {C : Addr} {f s : Str} {N : List Str} {vs : List V} {H : Hp} {Q : VK} {E : XK} (oc : OexC K C) (no : PySem.W.findIn K (.ref C) f = some none) (h : spExc1 K C f vs H Q E) :
    tSeq (tDrop (tVeI K (tCons (tVar 0) (tCons (tC (.str s)) tNil)))) (tOst K f (tVar 0) (tVar 1)) { nx := fun _ H' => Q .non H', rt := Q } (L2.start N vs) H := by
  obtain ⟨a, v, rfl, ha, k⟩ := h
  exact ⟨_, rfl, a, C, _, rfl, by show 1 ≤ 1000; decide, oc, ha, _, rfl, _, rfl, a, C, rfl, oc, no, .inl ⟨ha, fun dx h1 h2 => k dx h1 h2⟩⟩
theorem FnOk.void {P : Program} {w : World} {K : PySem.W.Frag} {mg : Str → Option Value} {base : Heap} {CX : CXT} {k : Nat} {f : Addr} {fd : FuncData} {ps : List Str} {sp : Sp} (h : ∀ vs H Q E, ¬ sp vs H Q E) : FnOk P w K mg base CX k f fd ps sp :=
  ⟨fun vs H Q E z => (h vs H Q E z).elim, fun A outer s H args us vs Q E hr e0 hb r z => (h vs H Q E z).elim⟩
/-! ### repr of a dict whose values hold no dict; calls that know of no guard -/
section
variable {prog : Program} {w : World} {h₀ : Heap} {a : Addr} {kvs : List (PyData × PyData)} {as : List Addr}
theorem showsBy_flat (r : Reads h₀ (.ref a) (.dict kvs) as) (hs : (PyData.dict kvs).showable = true) (hsys : (a == sysModules) = false) (f1 : PyData.hasDictAll (kvs.map (·.1)) = false) (f2 : PyData.hasDictAll (kvs.map (·.2)) = false)
    (hz : (dictText (PyData.shownKv kvs)).length ≤ sizeLine) : ∃ T idr, ShowsBy prog w h₀ a (.dict kvs) T idr := by
  cases r with
  | dict h1 h2 h3 h4 h5 =>
    rename_i o es n as₁ bs₁
    obtain ⟨hs1, hs2⟩ := PyData.showableKv_split kvs (by simpa [PyData.showable] using hs)
    obtain ⟨b1, hb1, k1⟩ := ReprAllK.of_readsAll (prog := prog) (w := w) h4 hs1 (fun z => by rw [f1] at z; cases z) (fun t ht => let ⟨p, hp, hl⟩ := PyData.shownKv_key_le kvs t ht; Nat.le_trans hl (Nat.le_trans (dictText_mem_le hp) hz))
    obtain ⟨b2, hb2, k2⟩ := ReprAllK.of_readsAll (prog := prog) (w := w) h5 hs2 (fun z => by rw [f2] at z; cases z) (fun t ht => let ⟨p, hp, hl⟩ := PyData.shownKv_val_le kvs t ht; Nat.le_trans hl (Nat.le_trans (dictText_mem_le hp) hz))
    have hb : ReadAtMost h₀ (PyData.depthKv kvs) (b1 ++ b2) := (hb1.mono (PyData.depthAll_keys_le kvs)).append (hb2.mono (PyData.depthAll_vals_le kvs))
    have hna : a ∉ b1 ++ b2 := not_mem_of_deeper (.dict h1 h2 h3 h4 h5) (by simp only [PyData.depth]; omega) hb
    refine ⟨"dict", "dict.__repr__", F.slot_dict_repr, F.slot_dict_str, F.slot_dict_format, fun s hk0 => ⟨o, hk0 _ _ h1, h2⟩, fun A E s Q hg hu hk0 hQ => ?_⟩
    simp only [PyData.depth] at hu
    simp only [PyData.shown, PyData.shownKv_eq] at hQ
    exact call_dict_reprK h1 h2 h3 hsys hna (ReprEntriesK.of_two es.toList _ _
      (k1.more_le (fun b hb => List.mem_append_left _ hb) (PyData.depthAll_keys_le kvs)) (k2.more_le (fun b hb => List.mem_append_right _ hb) (PyData.depthAll_vals_le kvs))) hg (fun b _ => Clear.nil b) hu hk0 hQ (by rw [← PyData.shownKv_eq]; exact hz)
end
section
variable {X : Cx} {pins : List (Addr × Obj)} {σ : L2.St} {H : Hp} {s : Shared}
theorem key_reads (k : Key) (key : Value) (h : (mixKind X.prog X.w).is k key = true) : Reads s.heap key (kD k) [] := by
  rw [mixKind_is] at h
  rcases keyIs_shape h with ⟨i, t, rfl, rfl⟩ | ⟨x, t, rfl, rfl⟩
  · exact Reads.int _ _
  · exact Reads.str _ _
mutual
theorem Is.reads (I : Inv X pins σ H s) : ∀ {v : V} {d : PyData}, Is X.K H v d → ∀ u, RelV v u → ∃ as, Reads s.heap u d as
  | _, _, .non, _, r => by cases r; exact ⟨_, Reads.none⟩
  | _, _, .bl b, _, r => by cases r; exact ⟨_, Reads.bool b⟩
  | _, _, .int i, _, r => by obtain ⟨t, rfl⟩ := r; exact ⟨_, Reads.int i t⟩
  | _, _, .str x, _, r => by obtain ⟨t, rfl⟩ := r; exact ⟨_, Reads.str x t⟩
  | _, _, .lst hs ha, _, r => by
    cases r
    obtain ⟨its, rv, ⟨o, n, ho, hc, _, hd⟩, _⟩ := I.list hs
    obtain ⟨as, hr⟩ := IsAll.reads I ha its rv
    exact ⟨_, Reads.list ho hc hd hr⟩
  | _, _, .tup hs ha, _, r => by
    cases r
    obtain ⟨its, rv, ⟨o, ho, hc, n, hd⟩, _⟩ := I.tuple hs
    obtain ⟨as, hr⟩ := IsAll.reads I ha its rv
    exact ⟨_, Reads.tuple ho hc hd hr⟩
  | _, _, .dct hd hk, _, r => by
    cases r
    obtain ⟨_, _, vs, hr, dd⟩ := hd.ok I.hok
    obtain ⟨bs, p⟩ := IsKv.reads I hk vs hr
    exact ⟨_, PyProof.V.reads_dictOf key_reads dd p⟩
theorem IsAll.reads (I : Inv X pins σ H s) : ∀ {vs : List V} {ds : List PyData}, IsAll X.K H vs ds → ∀ us, Vals vs us → ∃ as, ReadsAll s.heap us ds as
  | _, _, .nil, _, r => by cases r; exact ⟨_, ReadsAll.nil⟩
  | _, _, .cons h t, _, r => by
    cases r with
    | cons r1 r2 =>
      obtain ⟨as, q1⟩ := Is.reads I h _ r1
      obtain ⟨bs, q2⟩ := IsAll.reads I t _ r2
      exact ⟨_, ReadsAll.cons q1 q2⟩
theorem IsKv.reads (I : Inv X pins σ H s) : ∀ {kvs : List (Key × V)} {es : List (PyData × PyData)}, IsKv X.K H kvs es → ∀ us, KV kvs us → ∃ bs, PyProof.V.PairsRead s.heap kD us es bs
  | _, _, .nil, _, r => by cases r; exact ⟨_, .nil⟩
  | _, _, .cons h t, _, r => by
    cases r with
    | cons r1 r2 =>
      obtain ⟨e, r1⟩ := r1
      obtain ⟨as, q1⟩ := Is.reads I h _ r1
      obtain ⟨bs, q2⟩ := IsKv.reads I t _ r2
      rename_i q _
      obtain ⟨k, u⟩ := q
      obtain rfl : _ = k := e
      exact ⟨_, .cons q1 q2⟩
end
end
def rReprD (K : PySem.W.Frag) : List V → Hp → VK → Prop := fun xs H Q => ∃ v es, xs = [v] ∧ Is K H v (.dict es) ∧ (PyData.dict es).showable = true ∧ PyData.hasDictAll (es.map (·.1)) = false ∧ PyData.hasDictAll (es.map (·.2)) = false ∧
  (PyData.dict es).shown.length ≤ sizeLine ∧ (PyData.dict es).depth ≤ 60 ∧ Q (.str (PyData.dict es).shown) H
theorem call_reprG {X : Cx} {K : PySem.W.Frag} (e : X.K = K) (hG : X.A.guards = some []) (hu : X.A.units + 64 < cLine) : CallR X (.builtin "repr") (rReprD K) := by
  subst e
  intro pins s σ H xs us Q I r h
  obtain ⟨v, es, rfl, hd, hs, f1, f2, hz, hdp, q⟩ := h
  obtain ⟨u, rfl, rv⟩ := vals1 r
  obtain ⟨as, rd⟩ := hd.reads I u rv
  cases hd with
  | dct ha hk =>
    cases rv
    obtain ⟨_, hS, _⟩ := ha.ok I.hok
    obtain ⟨T, idr, S⟩ := showsBy_flat (prog := X.prog) (w := X.w) rd hs hS f1 f2 hz
    exact call_repr_slot (by omega) (S.typeIs s fun _ _ e => e) S.slotRepr (S.call X.A.in1 X.xe s _ hG (by show X.A.units + 1 + _ < cLine; omega) (fun _ _ e => e) fun h' u tk hk => ⟨_, _, rfl, ⟨.str _, H, I.kept hk, ⟨_, rfl⟩, q⟩⟩)
end Fm
namespace Fm
open PySem PySem.Spec PyProof.Rows L2 LiI
/-- a def's promise where no guard is set -/
structure FnG (P : Program) (w : World) (K : PySem.W.Frag) (mg : Str → Option Value) (base : Heap) (CX : CXT) (k : Nat) (f : Addr) (fd : FuncData) (ps : List Str) (sp : Sp) : Prop where
  len : ∀ vs H Q E, sp vs H Q E → vs.length = ps.length
  run : ∀ (A : Around) (outer : List Env) (s : Shared) (H : Hp) (args : Args) (us : List Value) (vs : List V) (Q : VK) (E : XK), A.guards = some [] → Room k A → Env0 P w K mg base A outer s H → BindsTo s fd args (ps.zip us) → Vals vs us → sp vs H Q E →
    codeAny (model P w) A (.call (.ref f) args) (CR CX outer P w H s Q E) s
/-- by the promise of a def under a fixed surrounding -/
theorem FnG.of {P : Program} {w : World} {K : PySem.W.Frag} {mg : Str → Option Value} {base : Heap} {k : Nat} {f : Addr} {fd : FuncData} {ps : List Str} {sp : Sp} {x qual : Str} {st : Stmt} {N : List Str} (F : Fun K x qual st f fd) (S : FnScope N ps (defScope st)) (len : ∀ vs H Q E, sp vs H Q E → vs.length = ps.length)
    (hbody : ∀ (cdv : Value) (A : Around) (outer : List Env) (s : Shared) (H : Hp) (vs : List V) (Q : VK) (E : XK), A.guards = some [] → Room k (A.deeper (envOfC qual (defScope st) s.heap.objs.size f cdv)) → sp vs H Q E →
      ∃ t, PSs (cxOf CX0 P w K mg base N qual (defScope st) f cdv A outer s H E).nox (defBody st) t ∧ t { nx := fun _ H' => Q .non H', rt := Q } (start N vs) H) : FnG P w K mg base CX0 (k + 1) f fd ps sp := by
  obtain ⟨oc, od, kV, doc, pm, an, cdv, ct, osl, rfl, lk, hcd⟩ := F.ex
  refine ⟨len, fun A outer s H args us vs Q E hG hr e0 hb r hsp => ?_⟩
  have hl := len _ _ _ _ hsp
  have KX : K.In s.heap := e0.mod.kin.keeps fun b o e => (e0.bs b o e).1
  have lim : s.heap.NoLimit := e0.mod.nolimit.keeps fun b o e => (e0.bs b o e).1
  have hkind : ∀ y ∈ ps.zip us, (defScope st).names.lookup y.1 = some .local ∨ ((defScope st).names.lookup y.1 = some .cell ∧ ((cellsFrom (s.heap.objs.size + 1) (defScope st).names []).lookup y.1).isSome = true) := fun ⟨n, v⟩ hy =>
    (S.par n (List.of_mem_zip hy).1).imp id fun q => ⟨q, PySem.W.cellsFrom_some _ _ _ (.inl q)⟩
  refine codeAny_call_function hr.depth (KX _ _ lk) rfl S.co S.gen rfl (PySem.W.codeRec_of KX hcd) (hb _ _ _ _ ?_)
  refine wpAny_newFunctionEnv_cells S.kind hkind fun env he s1 x => ?_
  subst he
  obtain ⟨t, ht, hq⟩ := hbody cdv A outer s H vs Q E hG (hr.deeper _) hsp
  have I : Inv (cxOf CX0 P w K mg base N qual (defScope st) f cdv A outer s H E) [] (start N vs) H s1 := inv_start S hr.hd e0 hl r x
  refine ⟨lim.keeps x.toInCall.keep, codeAny_func (wpAny_mono (ht.nox.run [] s1 (start N vs) H _ I hq) (fun fl s' hs => ?_) fun e s' hs => hs)⟩
  cases fl with
  | ret u =>
    obtain ⟨v, σ', H', J, rv, q⟩ := hs
    exact ⟨v, H', J.os, J.bare, J.base, J.hok, rv, q⟩
  | next =>
    obtain ⟨σ', H', J, q⟩ := hs
    exact ⟨V.non, H', J.os, J.bare, J.base, J.hok, rfl, q⟩
  | brk =>
    obtain ⟨_, _, _, q⟩ := hs
    exact False.elim q
  | cont =>
    obtain ⟨_, _, _, q⟩ := hs
    exact False.elim q
theorem pe_callG {X : Cx} {CX : CXT} {k : Nat} {f : Addr} {fd : FuncData} {ps : List Str} {sp : Sp} {dvs : List V} {ds : List Value} {E : XK} {x : Str} {p pos : Pos} {e : Expr} {es : List Expr} {t : TA}
    (F : FnG X.prog X.w X.K X.mg X.base CX k f fd ps sp) (hG : X.A.guards = some []) (hr : Room k X.A) (hg : Gl X x) (hm : X.mg x = some (.ref f)) (hk : PySem.W.keepIn X.K (.ref f) = true) (hb : Binds X.K fd ps ds) (hd : Vals dvs ds) (hx : Passes CX X E)
    (ha : PA X (e :: es) t) (hdb : (x == ("__debug__" : Str)) = false := by decide) (he : starEach (e :: es) X.env = (false, eval e X.env) :: starEach es X.env := by rfl) (hpl : (backTo pos (starEach es X.env)).any (·.1) = false := by rfl) :
    PE X (.Call (.Name x p) (e :: es) [] pos) (tCall sp dvs E t) := by
  refine ⟨fun pins s σ H Q I h => wpAny_Call_Name_kw (ld_glob I hg hm ?_ hdb)⟩
  refine PySem.W.callWith_K (h₀ := X.base) I.ok.mod.kin hk (thn (ha.run pos pins s σ H _ I h) fun us s1 ⟨vs, H1, I1, r, q⟩ => ⟨I1.kIn, ?_⟩) he hpl
  have r2 : Vals (vs ++ dvs) (us ++ ds) := r.append hd
  have hl : (us ++ ds).length = ps.length := by rw [← r2.length]; exact F.len _ _ _ _ q
  refine wpAny_call (codeAny_mono (F.run X.A X.stack s1 H1 ⟨us, []⟩ (us ++ ds) (vs ++ dvs) Q E hG hr I1.env0 (hb s1 us I1.kIn hl) r2 q) fun r s' hq => ?_)
  cases r with
  | error e => exact hx pins σ H1 s1 e s' I1 hq
  | ok fl =>
    cases fl with
    | ret u => exact I1.after hq
    | next => exact False.elim hq
    | brk => exact False.elim hq
    | cont => exact False.elim hq

/-! ### repr of a tuple of any data -/
section
variable {X : Cx} {pins : List (Addr × Obj)} {σ : L2.St} {H : Hp} {s : Shared}
theorem vals_of_pairs {prog : Program} {w : World} : ∀ {es : List DictEntry} {vs : List (Key × Value)}, Pairs (mixKind prog w) es vs → es.map (·.val) = vs.map (·.2)
  | _, _, .nil => rfl
  | _, _, .cons _ hv t => by rw [List.map_cons, List.map_cons, hv, vals_of_pairs t]
theorem keys_read {h : Heap} {prog : Program} {w : World} {kk : ∀ (k : Key) (key : Value), (mixKind prog w).is k key = true → Reads h key (kD k) []} : ∀ {es : List DictEntry} {kvs : List (Key × V)} {vs : List (Key × Value)} {K : PySem.W.Frag} {H : Hp} {ds : List (PyData × PyData)}, Pairs (mixKind prog w) es vs → KV kvs vs → IsKv K H kvs ds → ReadsAll h (es.map (·.key)) (ds.map (·.1)) []
  | _, _, _, _, _, _, .nil, .nil, .nil => .nil
  | _, _, _, _, _, _, .cons hk _ t, .cons r t2, .cons _ t3 => by
    obtain ⟨e, _⟩ := r
    have e : _ = _ := e
    subst e
    exact ReadsAll.cons (kk _ _ hk) (keys_read (kk := kk) t t2 t3)
mutual
theorem Is.reprK (I : Inv X pins σ H s) : ∀ {v : V} {d : PyData}, Is X.K H v d → ∀ u, RelV v u → d.showable = true → d.shown.length ≤ sizeLine → ∃ bs, ReadAtMost s.heap d.depth bs ∧ ReprK X.prog X.w bs s.heap d.depth u d.shown
  | _, _, .non, _, r, hs, hz => by
    cases r
    exact ReprK.of_reads Reads.none hs (fun h => by simp [PyData.hasDict] at h) hz |>.imp fun _ h => h
  | _, _, .bl b, _, r, hs, hz => by
    cases r
    exact ReprK.of_reads (Reads.bool b) hs (fun h => by simp [PyData.hasDict] at h) hz
  | _, _, .int i, _, r, hs, hz => by
    obtain ⟨t, rfl⟩ := r
    exact ReprK.of_reads (Reads.int i t) hs (fun h => by simp [PyData.hasDict] at h) hz
  | _, _, .str x, _, r, hs, hz => by
    obtain ⟨t, rfl⟩ := r
    exact ReprK.of_reads (Reads.str x t) hs (fun h => by simp [PyData.hasDict] at h) hz
  | _, _, .lst hq ha, _, r, hs, hz => by
    cases r
    obtain ⟨its, rv, ⟨o, n, ho, hc, _, hd⟩, _⟩ := I.list hq
    obtain ⟨as, hr⟩ := IsAll.reads I ha its rv
    obtain ⟨bs, hb, hk⟩ := IsAll.reprK I ha its rv (by simpa [PyData.showable] using hs) (fun t ht => Nat.le_trans (listText_mem_le ht) (by simpa only [PyData.shown] using hz))
    have rd : Reads s.heap _ (.list _) _ := .list ho hc hd hr
    have hna := not_mem_of_deeper rd (by simp only [PyData.depth]; omega) hb
    refine ⟨_, ReadAtMost.cons rd (by simp only [PyData.depth]; omega) hb, ?_⟩
    simp only [PyData.depth, PyData.shown]
    cases its with
    | nil =>
      cases hr
      simp only [PyData.shownAll, listText_nil]
      exact ReprK.listEmpty ho hc hd
    | cons x l => exact ReprK.list ho hc hd hna (by simpa using hk.length_eq) fun i y e => hk.item i y (by simpa using e)
  | _, _, .tup hq ha, _, r, hs, hz => by
    cases r
    obtain ⟨its, rv, ⟨o, ho, hc, n, hd⟩, _⟩ := I.tuple hq
    obtain ⟨as, hr⟩ := IsAll.reads I ha its rv
    obtain ⟨bs, hb, hk⟩ := IsAll.reprK I ha its rv (by simpa [PyData.showable] using hs) (fun t ht => Nat.le_trans (tupleText_mem_le ht) (by simpa only [PyData.shown] using hz))
    have rd : Reads s.heap _ (.tuple _) _ := .tuple ho hc hd hr
    have hna := not_mem_of_deeper rd (by simp only [PyData.depth]; omega) hb
    refine ⟨_, ReadAtMost.cons rd (by simp only [PyData.depth]; omega) hb, ?_⟩
    simp only [PyData.depth, PyData.shown]
    exact ReprK.tuple ho hc hd hna hk
  | _, _, .dct (es := D0) hd hk, _, r, hs, hz => by
    cases r
    obtain ⟨_, hsys, vs, hr, dd⟩ := hd.ok I.hok
    obtain ⟨cs, p⟩ := IsKv.reads I hk vs hr
    have rd := PyProof.V.reads_dictOf key_reads dd p
    obtain ⟨o, es, ep, ho, hx, hdat, _, hp, _⟩ := dd
    have hz' : (dictText (PyData.shownKv D0)).length ≤ sizeLine := by simpa only [PyData.shown] using hz
    obtain ⟨hs1, hs2⟩ := PyData.showableKv_split D0 (by simpa [PyData.showable] using hs)
    obtain ⟨b1, hb1, k1⟩ := ReprAllK.of_readsAll (prog := X.prog) (w := X.w) (keys_read (kk := key_reads) hp hr hk) hs1 (fun _ hm => by cases hm) (fun t ht => let ⟨p, hp, hl⟩ := PyData.shownKv_key_le D0 t ht; Nat.le_trans hl (Nat.le_trans (dictText_mem_le hp) hz'))
    obtain ⟨b2, hb2, k2⟩ := IsKv.reprK I hk vs hr hs2 (fun t ht => let ⟨p, hp, hl⟩ := PyData.shownKv_val_le D0 t ht; Nat.le_trans hl (Nat.le_trans (dictText_mem_le hp) hz'))
    rw [← vals_of_pairs hp] at k2
    have hb := (hb1.mono (PyData.depthAll_keys_le D0)).append (hb2.mono (PyData.depthAll_vals_le D0))
    have hna := not_mem_of_deeper rd (by simp only [PyData.depth]; omega) hb
    refine ⟨_, ReadAtMost.cons rd (by simp only [PyData.depth]; omega) hb, ?_⟩
    simp only [PyData.depth, PyData.shown, PyData.shownKv_eq]
    exact ReprK.dict ho hx.1 hdat hsys hna (ReprEntriesK.of_two es.toList _ _
      (k1.more_le (fun b hb => List.mem_append_left _ hb) (PyData.depthAll_keys_le D0)) (k2.more_le (fun b hb => List.mem_append_right _ hb) (PyData.depthAll_vals_le D0)))
theorem IsAll.reprK (I : Inv X pins σ H s) : ∀ {vs : List V} {ds : List PyData}, IsAll X.K H vs ds → ∀ us, Vals vs us → PyData.showableAll ds = true → (∀ t ∈ PyData.shownAll ds, t.length ≤ sizeLine) → ∃ bs, ReadAtMost s.heap (PyData.depthAll ds) bs ∧ ReprAllK X.prog X.w bs s.heap (PyData.depthAll ds) us (PyData.shownAll ds)
  | _, _, .nil, _, r, _, _ => by cases r; exact ⟨[], (fun _ h => nomatch h), by simp only [PyData.shownAll]; exact .nil⟩
  | _, _, .cons (d := d0) (ds := ds0) h t, _, r, hs, hz => by
    cases r with
    | cons r1 r2 =>
      have hs' : d0.showable = true ∧ PyData.showableAll ds0 = true := by simpa [PyData.showableAll] using hs
      obtain ⟨b1, hb1, k1⟩ := Is.reprK I h _ r1 hs'.1 (hz _ (by simp only [PyData.shownAll]; exact List.mem_cons_self ..))
      obtain ⟨b2, hb2, k2⟩ := IsAll.reprK I t _ r2 hs'.2 fun t ht => hz t (by simp only [PyData.shownAll]; exact List.mem_cons_of_mem _ ht)
      refine ⟨b1 ++ b2, (hb1.mono ?_).append (hb2.mono ?_), ?_⟩
      · simp only [PyData.depthAll]; exact Nat.le_max_left _ _
      · simp only [PyData.depthAll]; exact Nat.le_max_right _ _
      · simp only [PyData.depthAll, PyData.shownAll]
        exact .cons ((k1.more fun b hb => List.mem_append_left _ hb).level_le (Nat.le_max_left _ _)) (k2.more_le (fun b hb => List.mem_append_right _ hb) (Nat.le_max_right _ _))
theorem IsKv.reprK (I : Inv X pins σ H s) : ∀ {kvs : List (Key × V)} {es : List (PyData × PyData)}, IsKv X.K H kvs es → ∀ us, KV kvs us → PyData.showableAll (es.map (·.2)) = true → (∀ t ∈ PyData.shownAll (es.map (·.2)), t.length ≤ sizeLine) → ∃ bs, ReadAtMost s.heap (PyData.depthAll (es.map (·.2))) bs ∧ ReprAllK X.prog X.w bs s.heap (PyData.depthAll (es.map (·.2))) (us.map (·.2)) (PyData.shownAll (es.map (·.2)))
  | _, _, .nil, _, r, _, _ => by cases r; exact ⟨[], (fun _ h => nomatch h), by simp only [List.map_nil, PyData.shownAll]; exact .nil⟩
  | _, _, .cons (d := d0) (es := es0) h t, _, r, hs, hz => by
    cases r with
    | cons r1 r2 =>
      obtain ⟨_, r1⟩ := r1
      have hs' : d0.showable = true ∧ PyData.showableAll (es0.map (·.2)) = true := by simpa [PyData.showableAll] using hs
      obtain ⟨b1, hb1, k1⟩ := Is.reprK I h _ r1 hs'.1 (hz _ (by simp only [List.map_cons, PyData.shownAll]; exact List.mem_cons_self ..))
      obtain ⟨b2, hb2, k2⟩ := IsKv.reprK I t _ r2 hs'.2 fun t ht => hz t (by simp only [List.map_cons, PyData.shownAll]; exact List.mem_cons_of_mem _ ht)
      refine ⟨b1 ++ b2, (hb1.mono ?_).append (hb2.mono ?_), ?_⟩
      · simp only [List.map_cons, PyData.depthAll]; exact Nat.le_max_left _ _
      · simp only [List.map_cons, PyData.depthAll]; exact Nat.le_max_right _ _
      · simp only [List.map_cons, PyData.depthAll, PyData.shownAll]
        exact .cons ((k1.more fun b hb => List.mem_append_left _ hb).level_le (Nat.le_max_left _ _)) (k2.more_le (fun b hb => List.mem_append_right _ hb) (Nat.le_max_right _ _))
end
end
def rReprT (K : PySem.W.Frag) : List V → Hp → VK → Prop := fun xs H Q => ∃ t vs ds, xs = [.ref t] ∧ SqT K H t vs ∧ IsAll K H vs ds ∧ (PyData.tuple ds).showable = true ∧ (PyData.tuple ds).shown.length ≤ sizeLine ∧ (PyData.tuple ds).depth ≤ 60 ∧ Q (.str (PyData.tuple ds).shown) H
theorem call_reprT {X : Cx} {K : PySem.W.Frag} (e : X.K = K) (hG : X.A.guards = some []) (hu : X.A.units + 64 < cLine) : CallR X (.builtin "repr") (rReprT K) := by
  subst e
  intro pins s σ H xs us Q I r h
  obtain ⟨t, vs, ds, rfl, ht, ha, hs, hz, hdp, q⟩ := h
  obtain ⟨u, rfl, rv⟩ := vals1 r
  obtain rfl : u = Value.ref t := rv
  obtain ⟨its, rv, ⟨o, ho, hc, n, hd⟩, _⟩ := I.tuple ht
  obtain ⟨as, hr⟩ := IsAll.reads I ha its rv
  have hz' : (tupleText (PyData.shownAll ds)).length ≤ sizeLine := by simpa only [PyData.shown] using hz
  obtain ⟨bs, hb, hk⟩ := IsAll.reprK I ha its rv (by simpa [PyData.showable] using hs) (fun t ht => Nat.le_trans (tupleText_mem_le ht) hz')
  have rd : Reads s.heap (.ref t) (.tuple ds) _ := .tuple ho hc hd hr
  have hna := not_mem_of_deeper rd (by simp only [PyData.depth]; omega) hb
  simp only [PyData.depth] at hdp
  refine call_repr_slot (by omega) ⟨o, ho, hc⟩ F.slot_tuple_repr (call_tuple_reprK ho hc hd hna hk hG (fun b _ => Clear.nil b) (by show X.A.units + 1 + (PyData.depthAll ds + 1) < cLine; omega) (fun _ _ e => e) (fun h' u tk hk => ?_) hz')
  refine ⟨_, _, rfl, .str _, H, I.kept hk, ⟨_, rfl⟩, ?_⟩
  have e : (PyData.tuple ds).shown = tupleText (PyData.shownAll ds) := by simp only [PyData.shown]
  rw [← e]; exact q

theorem call_reprA {X : Cx} {K : PySem.W.Frag} (e : X.K = K) (hG : X.A.guards = some []) (hu : X.A.units + 64 < cLine) : CallR X (.builtin "repr") (rReprA K) := by
  subst e
  intro pins s σ H xs us Q I r h
  obtain ⟨v, rfl, h⟩ := h
  have r0 := r
  obtain ⟨u, rfl, rv⟩ := vals1 r
  rcases h with ⟨d, hd, nd, hs, hz, hdp, q⟩ | ⟨a, kvs, es, rfl, ha, hk, hs, f1, f2, hz, hdp, q⟩ | ⟨t, vs, ds, rfl, ht, ha, hs, hz, hdp, q⟩
  · have go : ∀ (a : Addr) (as : List Addr), u = .ref a → Reads s.heap u d as → wpAny (model X.prog X.w) X.A (call (.builtin "repr") [u]) (fun z s' => ∃ w H', Inv X pins σ H' s' ∧ RelV w z ∧ Q w H') X.xe s := fun a as e rd => by
      subst e
      exact PySem.repr_of_reads' rd hs (fun z => by rw [nd] at z; cases z) hG (by show X.A.units + (d.depth + 1) < cLine; omega) (fun _ _ e => e) (fun h' u tk hk => ⟨.str _, H, I.kept hk, ⟨_, rfl⟩, q⟩) hz
    obtain ⟨as, rd⟩ := hd.reads I u rv
    cases hd with
    | non => cases rv; exact PySem.P.repr_of_none ⟨.str _, H, I.tok _, ⟨_, rfl⟩, q⟩
    | bl b => cases rv; exact PySem.P.repr_of_bool ⟨.str _, H, I.tok _, ⟨_, rfl⟩, q⟩
    | int i => obtain ⟨t, rfl⟩ := rv; exact PySem.P.repr_of_int (of_decide_eq_true hs) ⟨.str _, H, I.tok _, ⟨_, rfl⟩, q⟩
    | str x => obtain ⟨t, rfl⟩ := rv; exact PySem.P.repr_of_str ⟨.str _, H, I.tok _, ⟨_, rfl⟩, q⟩ hz
    | lst _ _ => cases rv; exact go _ _ rfl rd
    | tup _ _ => cases rv; exact go _ _ rfl rd
    | dct _ _ => simp [PyData.hasDict] at nd
  · obtain rfl : u = Value.ref a := rv
    obtain ⟨_, hS, vs, hr, dd⟩ := ha.ok I.hok
    obtain ⟨cs, p⟩ := IsKv.reads I hk vs hr
    have rd := PyProof.V.reads_dictOf key_reads dd p
    obtain ⟨T, idr, S⟩ := showsBy_flat (prog := X.prog) (w := X.w) rd hs hS f1 f2 (by simpa only [PyData.shown] using hz)
    exact call_repr_slot (by omega) (S.typeIs s fun _ _ e => e) S.slotRepr (S.call X.A.in1 X.xe s _ hG (by show X.A.units + 1 + (PyData.dict es).depth < cLine; omega) (fun _ _ e => e) fun h' u tk hk => ⟨_, _, rfl, ⟨.str _, H, I.kept hk, ⟨_, rfl⟩, q⟩⟩)
  · exact call_reprT rfl hG hu pins s σ H _ _ Q I r0 ⟨t, vs, ds, rfl, ht, ha, hs, hz, hdp, q⟩
section
variable {K : PySem.W.Frag} {M : MS} {P : D → MS → Prop}
/-- repr of plain data -/
theorem dc_repr {n : Nat} {d : D} (ho : okD n d = true) (hn : n ≤ 20) (hw : wtD d ≤ sizeLine) (k : P (.str (pyD d).shown) M) : DC K (rReprA K) [d] M P := fun F H vs Q hr b0 q => by
  obtain ⟨v, rfl, a⟩ := b0.one_inv
  have h := okD_py d n ho
  exact ⟨v, rfl, .inl ⟨_, a.isH (Sm.of hr.s) n ho, h.nd, h.sh, Nat.le_trans h.le hw, by have := h.dp; omega, q.now hr (.str _) k⟩⟩
theorem dc_reprL {n : Nat} {x : D} {ds : List D} (hx : IsL M x ds) (ho : ds.all (okD n) = true) (hn : n ≤ 20) (hw : wtDs ds + 3 ≤ sizeLine) (k : P (.str (PyData.list (pyDs ds)).shown) M) : DC K (rReprA K) [x] M P := fun F H vs Q hr b0 q => by
  obtain ⟨v, rfl, a⟩ := b0.one_inv
  have h := (okDs_py ds n ho).lst
  exact ⟨v, rfl, .inl ⟨_, hx.is ho hr a, h.nd, h.sh, Nat.le_trans h.le hw, by have := h.dp; omega, q.now hr (.str _) k⟩⟩
theorem dc_reprD0 (k : P (.str "{}") M) : DC K (rReprA K) [.dct []] M P := fun F H vs Q hr b0 q => by
  obtain ⟨v, rfl, a⟩ := b0.one_inv
  cases a with
  | dct h1 h2 =>
    cases h2
    have e : (PyData.dict []).shown = "{}" := by decide +kernel
    exact ⟨_, rfl, .inr (.inl ⟨_, _, [], rfl, (Sm.of hr.s).rdK h1, .nil, rfl, rfl, rfl, by decide +kernel, by decide, by rw [e]; exact q.now hr (.str _) k⟩)⟩
end

section
variable {P : Program} {w : World} {K : PySem.W.Frag} {mg : Str → Option Value} {base : Heap} {x qual : Str} {st : Stmt} {f : Addr} {fd : FuncData} {N ps : List Str} {k : Nat} {sp : DSp}
/-- a def where no guard is set -/
theorem FnG.okD (F : Fun K x qual st f fd) (S : FnScope N ps (defScope st)) (hl : ∀ ds M P X', sp ds M P X' → ds.length = ps.length)
    (hb : ∀ (cdv : Value) (A : Around) (outer : List Env) (s : Shared) (H : Hp) (E : XK), A.guards = some [] → Room k (A.deeper (PyProof.Rows.envOfC qual (defScope st) s.heap.objs.size f cdv)) →
      ∃ t, PSs (cxOf CX0 P w K mg base N qual (defScope st) f cdv A outer s H E).nox (defBody st) t ∧ Body K N sp (fun _ _ _ _ => False) false t) : FnG P w K mg base CX0 (k + 1) f fd ps (up K sp) :=
  FnG.of F S (up_len hl) fun cdv A outer s H vs Q E hG hr h => by
    obtain ⟨t, ht, b⟩ := hb cdv A outer s H E hG hr
    exact ⟨t, ht, body_run (wx := false) (fun z => Bool.noConfusion z) b h⟩
end

/-! ### refusals: an own exception class over an own one without __init__ -/
/-- the class that stands between -/
structure MidC (K : PySem.W.Frag) (B : Addr) : Prop where
  rd : PySem.W.readsIn K B (.type "type") = true
  ga : PySem.W.specialIn K (.ref B) "__getattribute__" = some (some (.builtin "type.__getattribute__"))
  ini : PySem.W.findCls K (.ref B) (.type "type") "__init__" = some (.val (.builtin "ValueError.__init__"))
theorem pe_meinit {X : Cx} {e : Expr} {es : List Expr} {ta : TA} {p1 p2 pos : Pos} {x : Str} {B : Addr} {pl : Sem Bool} (hg : Gl X x) (hm : X.mg x = some (.ref B)) (m : MidC X.K B) (ha : PA X (e :: es) ta)
    (hc : eval (.Call (.Attribute (.Name x p1) "__init__" p2) (e :: es) [] pos) X.env = (eval (.Name x p1) X.env >>= fun ov => standAt p2.atName >>= fun _ => holding [ov] (getMethod ov "__init__" pl) >>= fun fx => callWith pos fx.1 fx.2 (backTo pos (starEach (e :: es) X.env)) (backToKw pos (keywordEach [] X.env))) := by rfl)
    (hdb : (x == ("__debug__" : Str)) = false := by decide) (h1 : starEach (e :: es) X.env = (false, eval e X.env) :: starEach es X.env := by rfl) (h2 : (backTo pos (starEach es X.env)).any (·.1) = false := by rfl) :
    PE X (.Call (.Attribute (.Name x p1) "__init__" p2) (e :: es) [] pos) (tVeI X.K ta) := ⟨fun pins s σ H Q I h => by
  refine PySem.W.methodCall_KW (ld_glob I hg hm ?_ hdb) hc
  refine PySem.W.method_cls I.kIn m.ga (PySem.W.cls_value I.kIn m.rd m.ini (by decide +kernel) ?_)
  show wpAny _ _ (callWith pos (Value.builtin "ValueError.__init__") [] _ []) _ _ _
  refine PyProof.Rows.callWith_method1 (thn (ha.run pos pins _ σ H _ (I.tok _) h) fun us s1 ⟨vs, H1, I1, r1, b, C, ws, ev, hl, oc, eb, q⟩ => ?_) h1 h2
  subst ev
  cases r1 with
  | @cons _ u0 _ ur ra rw' =>
    obtain rfl : u0 = Value.ref b := ra
    exact oinit_ok oc I1 eb (by rw [← Paired.length rw', sizeLine_eq]; omega) fun s' J => ⟨.non, H1, J, rfl, q⟩⟩
/-- what a class's object says -/
def oexObj (C : Addr) (o : Obj) : Bool := match o with
  | ⟨.type "type", _, .cls cd, sl⟩ => (match cd.mro, sl.toList with
    | .ref C' :: bm, [_, _, _, _, some (.builtin n), _] => C' == C && (n == "ValueError.__new__" && (!cd.hasDel && (cd.hasDict && PySem.HandSPX.refsVE bm)))
    | _, _ => false)
  | _ => false
theorem oexC_of {K : PySem.W.Frag} {C : Addr} {o : Obj} (hl : K.lookup C = some o) (hb : oexObj C o = true) (sa : PySem.W.findIn K (.ref C) "__setattr__" = some (some (.builtin "object.__setattr__")))
    (ex : PySem.W.subIn K (.ref C) (.type "BaseException") = some true) (ty : PySem.W.typeIn K (.ref C) = some (.type "type")) (kc : PySem.W.keepIn K (.ref C) = true) : OexC K C := by
  refine ⟨?_, sa, ex, ty, kc⟩
  unfold oexObj at hb
  split at hb
  · rename_i dd cd sl
    split at hb
    · rename_i C' bm k0 k1 k2 k3 n k5 hm hs
      simp only [Bool.and_eq_true, beq_iff_eq, Bool.not_eq_true'] at hb
      obtain ⟨rfl, rfl, hd, hh, hr⟩ := hb
      obtain ⟨nm, bs, mro, ns, qn, hdct, sn, sub, ab, col, del⟩ := cd
      simp only at hm hd hh
      subst hm hd hh
      have hsl : sl = #[k0, k1, k2, k3, some (.builtin "ValueError.__new__"), k5] := Array.toList_inj.mp hs
      subst hsl
      exact ⟨nm, qn, ns, bs, bm, sn, sub, ab, col, dd, k0, k1, k2, k3, k5, hl, hr⟩
    · cases hb
  · cases hb
theorem clsIn_some {K : PySem.W.Frag} {C : Addr} (oc : OexC K C) : (PySem.W.clsIn K C).isSome = true := by
  obtain ⟨nm, q, N, bs, bm, sn, sub, ab, col, dd, k0, k1, k2, k3, k5, hC, _⟩ := oc.cls
  unfold PySem.W.clsIn
  rw [hC]
  rfl
/-- whether an except clause takes an exception -/
theorem exm_of {K : PySem.W.Frag} {C : Addr} {cls : Value} {b : Bool} (oc : OexC K C) (h : PySem.W.subIn K cls (.ref C) = some b) : PySem.W.exmOne K cls (.ref C) = some b := by
  unfold PySem.W.exmOne
  rw [oc.exC, if_pos (by decide)]
  show (if ((PySem.W.clsIn K C).isSome && PySem.W.typeIn K (.ref C) == some (.type "type")) = true then PySem.W.subIn K cls (.ref C) else none) = _
  rw [clsIn_some oc, oc.tyC, if_pos (by decide)]
  exact h

/-! ### len(set(xs)) of a list of texts -/
def addS (σ : List Str) (v : Str) : List Str := if v ∈ σ then σ else σ ++ [v]
/-- the unlike ones, in their order -/
def difS (xs : List Str) : List Str := xs.foldl addS []
theorem difS_snoc (xs : List Str) (v : Str) : difS (xs ++ [v]) = addS (difS xs) v := by unfold difS; rw [List.foldl_append]; rfl
theorem addS_mem (σ : List Str) (v z : Str) : z ∈ addS σ v ↔ z ∈ σ ∨ z = v := by
  unfold addS
  by_cases h : v ∈ σ
  · rw [if_pos h]; exact ⟨.inl, fun e => e.elim id fun e => e ▸ h⟩
  · rw [if_neg h, List.mem_append, List.mem_singleton]
theorem addS_nd {σ : List Str} (v : Str) (h : σ.Nodup) : (addS σ v).Nodup := by
  unfold addS
  by_cases hv : v ∈ σ
  · rw [if_pos hv]; exact h
  · rw [if_neg hv]
    exact List.nodup_append.mpr ⟨h, by simp, fun a ha b hb => by rw [List.mem_singleton.mp hb]; exact fun e => hv (e ▸ ha)⟩
theorem fold_addS : ∀ (xs acc : List Str), acc.Nodup → (xs.foldl addS acc).Nodup ∧ ∀ z, z ∈ xs.foldl addS acc ↔ z ∈ acc ∨ z ∈ xs
  | [], acc, h => ⟨h, fun z => by simp⟩
  | x :: xs, acc, h => by
    obtain ⟨h1, h2⟩ := fold_addS xs (addS acc x) (addS_nd x h)
    refine ⟨h1, fun z => ?_⟩
    rw [List.foldl_cons, h2 z, addS_mem, List.mem_cons, or_assoc]
theorem difS_nd (xs : List Str) : (difS xs).Nodup := (fold_addS xs [] List.nodup_nil).1
theorem difS_mem (xs : List Str) (z : Str) : z ∈ difS xs ↔ z ∈ xs := ((fold_addS xs [] List.nodup_nil).2 z).trans (by simp)
theorem fold_addS_len : ∀ (xs acc : List Str), (xs.foldl addS acc).length ≤ acc.length + xs.length
  | [], acc => Nat.le_refl _
  | x :: xs, acc => by
    have h := fold_addS_len xs (addS acc x)
    have h2 : (addS acc x).length ≤ acc.length + 1 := by
      unfold addS; split
      · exact Nat.le_succ _
      · rw [List.length_append]; exact Nat.le_refl _
    rw [List.foldl_cons, List.length_cons]; omega
theorem difS_len (xs : List Str) : (difS xs).length ≤ xs.length := by have := fold_addS_len xs []; simpa [difS] using this
theorem txt_get : ∀ {us : List Value} {xs : List Str}, Vals (xs.map V.str) us → ∀ (i : Nat) (v : Value), us[i]? = some v → ∃ z t, xs[i]? = some z ∧ v = .str z t
  | _, [], .nil, i, v, h => by simp at h
  | _, x :: xs, .cons r t, 0, v, h => by
    obtain ⟨k, rfl⟩ := r
    simp at h
    exact ⟨x, k, rfl, h.symm⟩
  | _, x :: xs, .cons r t, i + 1, v, h => by
    obtain ⟨z, k, h1, h2⟩ := txt_get t i v (by simpa using h)
    exact ⟨z, k, by simpa using h1, h2⟩
section
variable {P : Program} {w : World} {A : Around} {J : Addr} {fp wr : List Addr} {G : Array GenState → Array GenState → Prop} {Y : Nat → Value → Prop} {St : Nat → Shared → Prop} {Z : Result → Shared → Prop}
/-- the set of the unlike ones of xs at a -/
def SetD (P : Program) (w : World) (h : Heap) (a : Addr) (xs : List Str) : Prop := h.SetOf (PySem.strKind P w) a (fun z => decide (z ∈ difS xs)) (difS xs).length
theorem SetD.at {h h' : Heap} {a : Addr} {xs : List Str} (q : SetD P w h a xs) (k : ∀ o, h.get? a = some o → h'.get? a = some o) : SetD P w h' a xs := by
  obtain ⟨o, es, ep, t, ho, rest⟩ := q
  exact ⟨o, es, ep, t, k o ho, rest⟩
theorem SetD.snoc {h : Heap} {a : Addr} {xs : List Str} {v : Str} (q : h.SetOf (PySem.strKind P w) a (fun z => decide (z ∈ difS xs) || decide (z = v)) (if decide (v ∈ difS xs) = true then (difS xs).length else (difS xs).length + 1)) : SetD P w h a (xs ++ [v]) := by
  refine PyProof.Rows.SetOf_congr q (fun z => ?_) ?_
  · rw [difS_snoc, ← Bool.decide_or]
    exact decide_eq_decide.mpr (addS_mem _ _ _).symm
  · rw [difS_snoc]
    unfold addS
    by_cases hv : v ∈ difS xs
    · rw [if_pos hv, if_pos (decide_eq_true hv)]
    · rw [if_neg hv, if_neg (by simpa using hv), List.length_append]; rfl
theorem set_turns {xs : List Str} (W : WalksS P w A.in1 J fp wr G xs.length Y St) (a : Addr) (ha : a ∉ fp) (hy : ∀ i v, Y i v → ∃ z t, xs[i]? = some z ∧ v = .str z t) (room : xs.length + 1 < scanBound) :
    ∀ (m i : Nat) (s : Shared), i + m = xs.length → St i s → SetD P w s.heap a (xs.take i) →
      (∀ s2, Moved (a :: wr) G s s2 → SetD P w s2.heap a xs → Z (.ok (.ret .none)) s2) → codeAny (model P w) A (.builtin "set.update.loop" ⟨[.ref a, .ref J], []⟩) Z s := by
  have haw : a ∉ wr := fun z => ha (W.sub _ z)
  have up : ∀ b ∈ wr, b ∈ a :: wr := fun b z => List.mem_cons_of_mem _ z
  intro m
  induction m with
  | zero =>
    intro i s e st sd fin
    obtain rfl : i = xs.length := e
    rw [List.take_length] at sd
    refine codeAny_builtin PyProof.Rows.F.entry_set_update_loop (by
      rw [Around.under_plainId PyProof.Rows.F.plain_set_update_loop _]
      exact wpAny_bind (W.done s _ _ st fun s2 mv => wpAny_pure (fin s2 (mv.mono up) (sd.at fun o => mv.heap a o haw))))
  | succ m ih =>
    intro i s e st sd fin
    have lt : i < xs.length := by omega
    refine codeAny_builtin PyProof.Rows.F.entry_set_update_loop (by
      rw [Around.under_plainId PyProof.Rows.F.plain_set_update_loop _]
      refine wpAny_bind (W.item i s _ _ lt st fun v s2 yv st2 mv => ?_)
      obtain ⟨z, t, ez, rfl⟩ := hy i v yv
      have sd2 : SetD P w s2.heap a (xs.take i) := sd.at fun o => mv.heap a o haw
      show wpAny _ A.in1 (holding [Value.str z t] (setAdd a (.str z t)) >>= _) _ _ s2
      refine wpAny_bind (wpAny_holding (by
        unfold setAdd
        refine wpAny_holding (wpAny_bind ((PySem.strKind P w).pyHash (k := z) (strKind_is _ _ _ _) ?_))
        have lim : (difS (xs.take i)).length + 1 < scanBound := by
          have l1 := difS_len (xs.take i)
          rw [List.length_take] at l1
          omega
        refine wpAny_setAddHashed_of (knd := PySem.strKind P w) (s := { s2 with toks := s2.toks + 1 }) (strKind_is _ _ _ _) rfl sd2 lim fun hp sb q => ?_
        have sd3 : SetD P w hp a (xs.take (i + 1)) := by rw [take_snoc ez]; exact SetD.snoc q
        have old : ∀ b, b ≠ a → ∀ o, s2.heap.get? b = some o → hp.get? b = some o := fun b hb o eo => by rw [sb.2 b hb]; exact eo
        exact wpAny_pure ⟨plainId_quiet PyProof.Rows.F.plain_set_update_loop _, ih (i + 1) _ (by omega) (W.frame _ s2 _ _ st2 (Nat.le_succ _) fun b hb o eo => old b (fun z => ha (z ▸ hb)) o eo) sd3 fun s3 mv3 q3 =>
          fin s3 (Moved.trans W.gtrans ((mv.mono up).then_heap (Nat.le_succ _) fun b o hb eo => old b (fun z => hb (z ▸ List.mem_cons_self)) o eo) mv3) q3⟩)))
end
/-- the set as it is made -/
abbrev setNew (led : Bool) : Obj := { cls := .type "set", dict := none, data := .set #[] 0 (.fresh 0 0 led) }
section
variable {P : Program} {w : World} {A : Around} {E : Value → Shared → Prop} {s : Shared}
set_option maxHeartbeats 3200000 in
theorem set_ofL {q : Addr} {its : Array Value} {xs : List Str} {Q : Value → Shared → Prop} (cal : A.handled = none) (ql : s.heap.IsList q its) (val : Vals (xs.map V.str) its.toList) (room : xs.length + 1 < scanBound)
    (fin : ∀ (hp : Heap) (tk : Nat), SetD P w hp s.heap.objs.size xs → (∀ b o, b < s.heap.objs.size → s.heap.get? b = some o → hp.get? b = some o) → Q (.ref s.heap.objs.size) { s with heap := hp, toks := tk }) :
    wpAny (model P w) A (call (.type "set") [.ref q]) Q E s := by
  have lx : its.size = xs.length := by
    have l1 := Paired.length val
    rw [List.length_map, Array.length_toList] at l1
    exact l1.symm
  obtain ⟨c, tl, mro_set⟩ := PySem.F.called_set.mro
  have made_set := PySem.F.called_set.made
  have sub_set := PySem.F.called_set.sub
  refine wpAny_call (codeAny_of_tree (show wpAny _ _ (callAny (.type "set") _) _ _ _ from wpAny_pure ⟨Code.quiet_builtin _ (by decide +kernel), codeAny_builtin PySem.F.entry_type_call ?_⟩))
  rw [Around.under_plain (weight_type_call_type "set" [.ref q] []) rfl]
  have nt := PySem.F.called_set.notType
  have cc := PySem.F.called_set.canCreate
  have tc := PySem.F.typeCall_set_1 (.ref q)
  (repeat (any_goals (first | assumption | wp_step)))
  refine codeAny_mono (code_set_new_1 (.ref q) (E := E) (Q₁ := fun ob s1 => ∃ led : Bool, ob = .ref s.heap.objs.size ∧ s1 = { s with heap := s.heap.push (setNew led) }) fun led => ⟨led, rfl, rfl⟩) fun r s1 rs => ?_
  rcases r with e | fl
  · exact rs
  cases fl with
  | ret ob =>
    obtain ⟨led, rfl, rfl⟩ := rs
    have g0 : (s.heap.push (setNew led)).get? s.heap.objs.size = some (setNew led) := Heap.get?_push_size _ rfl
    have t0 : Shared.TypeIs { s with heap := s.heap.push (setNew led) } (.ref s.heap.objs.size) "set" := ⟨_, g0, rfl⟩
    have li := PySem.F.called_set.init.lookup
    have bi := PySem.F.called_set.init.bind (.ref s.heap.objs.size)
    (repeat (any_goals (first | assumption | wp_step)))
    refine codeAny_mono (codeAny_call_builtin (R := wants (fun r s2 => r = .none ∧ ∃ hp tk, s2 = { s with heap := hp, toks := tk } ∧ SetD P w hp s.heap.objs.size xs ∧ ∀ b o, b < s.heap.objs.size → s.heap.get? b = some o → hp.get? b = some o) E)
      PySem.F.called_set.init.plain PySem.F.entry_set_init (check_set_init_1 t0 ?_)) fun r2 s2 rs2 => ?_
    · have ql2 := ql
      obtain ⟨ol, gl, kl, nl, dl⟩ := ql
      obtain ⟨ocls, odict, odata, oslots⟩ := ol
      obtain rfl : ocls = .type "list" := kl
      obtain rfl : odata = .seq its nl := dl
      have gl2 : (s.heap.push (setNew led)).get? q = some { cls := .type "list", dict := odict, data := .seq its nl, slots := oslots } := Heap.get?_push_of_some _ gl
      have s1 := PySem.F.sub_list_set
      have s2 := PySem.F.sub_list_frozenset
      have nd : (Value.type "list" == Value.type "dict") = false := by decide
      have ql3 : (s.heap.push (setNew led)).IsList q its := ⟨_, gl2, rfl, nl, rfl⟩
      unfold Builtin.«set.__init__» noKeywords Builtin.Frozenset.updateFrom
      generalize hPI : pyIter = PI
      wp_walk
      subst hPI
      refine wpAny_pyIter_list ql3 (wpAny_bind (wpAny_runValue ?_))
      have lq : q < s.heap.objs.size := Heap.lt_size gl
      have cal3 : A.in1.in1.in1.handled = none := by simp [cal]
      have z1 : q ≠ (s.heap.push (setNew led)).objs.size := by rw [Heap.size_push]; exact Nat.ne_of_lt (Nat.lt_succ_of_lt lq)
      have z2 : s.heap.objs.size ∉ [(s.heap.push (setNew led)).objs.size, q] := fun z => by
        rw [Heap.size_push] at z
        rcases List.mem_cons.mp z with z | z
        · exact Nat.ne_of_lt (Nat.lt_succ_self _) z
        · exact Nat.ne_of_gt lq (List.mem_singleton.mp z)
      have wk := (Walks.list (prog := P) (w := w) cal3 (s.heap.push (setNew led)).objs.size q z1 its).toS
      rw [lx] at wk
      refine set_turns wk s.heap.objs.size z2 (fun i v e => txt_get val i v (by rw [Array.getElem?_toList]; exact e)) room xs.length 0 _ (Nat.zero_add _) ⟨⟨_, Heap.get?_push_size _ rfl, rfl, rfl⟩, ql3.push _⟩ ?_ fun s3 mv sd => ?_
      · have g2 : ((s.heap.push (setNew led)).push { cls := .type "list_iterator", data := .fields #[.ref q, .int 0 0] }).get? s.heap.objs.size = some (setNew led) := Heap.get?_push_of_some _ g0
        exact PyProof.Rows.SetOf_congr ((PyProof.Rows.setObjOf_fresh (knd := PySem.strKind P w) led).setOf g2 (by unfold scanBound; omega)) (fun z => (decide_eq_false (List.not_mem_nil)).symm) rfl
      · obtain ⟨hp, gn, dr, tk, os⟩ := s3
        obtain rfl : gn = s.gens := mv.gens
        obtain rfl : dr = s.drawn := mv.drawn
        obtain rfl : os = s.os := mv.os
        refine wpAny_pure (show wpAny _ _ (ret Value.none) _ _ _ from wpAny_pure ⟨rfl, hp, tk, rfl, sd, fun b o lb e => mv.heap b o (fun z => ?_) (Heap.get?_push_of_some _ (Heap.get?_push_of_some _ e))⟩)
        rcases List.mem_cons.mp z with z | z
        · exact Nat.ne_of_lt lb z
        · have z := List.mem_singleton.mp z
          rw [Heap.size_push] at z
          exact Nat.ne_of_lt (Nat.lt_succ_of_lt lb) z
    · rcases r2 with e | fl2
      · exact rs2
      cases fl2 with
      | ret r =>
        obtain ⟨rfl, hp, tk, rfl, sd, kp⟩ := rs2
        (repeat (any_goals (first | assumption | wp_step)))
        exact fin _ _ sd kp
      | _ => exact rs2.elim
  | _ => exact rs.elim
end
def tLenSetT (K : PySem.W.Frag) (ta : TE) : TE := fun σ H Q => ta σ H fun x H1 => ∃ (l : Addr) (xs : List Str), x = .ref l ∧ SqL K H1 l (xs.map V.str) ∧ xs.length ≤ 4000 ∧ Q (.int ((difS xs).length : Nat)) H1
theorem pe_lenSetT {X : Cx} {K : PySem.W.Frag} {a : Expr} {ta : TE} {p p2 q pos : Pos} (hK : X.K = K) (hc : X.calm = true) (g1 : Gl X "len") (m1 : X.mg "len" = none) (g2 : Gl X "set") (m2 : X.mg "set" = none) (ha : PE X a ta)
    (sa : starEach [a] X.env = (false, eval a X.env) :: starEach [] X.env := by rfl) : PE X (.Call (.Name "len" p) [.Call (.Name "set" p2) [a] [] q] [] pos) (tLenSetT K ta) := ⟨fun pins s σ H Q I h => by
  subst hK
  refine PyProof.Rows.Call_ (ld_blt I g1 m1 PySem.boot_len (PyProof.Rows.callWith_builtin1 (PyProof.Rows.args_cons (PyProof.Rows.Call_ (ld_blt I g2 m2 PyProof.Rows.boot_set (PyProof.Rows.callWith_type1 (PyProof.Rows.args_cons (thn (ha.run pins s σ H _ I h) fun v s1 ⟨x, H1, I1, r1, l, xs, ex, hq, hl, q1⟩ => PyProof.Rows.args_nil ?_) sa) sa rfl))) rfl) rfl rfl))
  subst ex
  obtain rfl : v = Value.ref l := r1
  obtain ⟨its, r, pl, hz⟩ := I1.list hq
  refine set_ofL (I1.ok.hd hc) pl.isList (by simpa using r) (by unfold scanBound; omega) fun hp tk sd kp => PyProof.Rows.args_nil ?_
  obtain ⟨o, es, ep, t, ho, hex, hd, _, _, _, hf, hn⟩ := sd
  have I2 : Inv X pins σ H1 { s1 with heap := hp, toks := tk } := I1.kept fun b o e => kp b o (Heap.lt_size e) e
  have dl := difS_len xs
  exact call_len_set ho hex hd hf (by rw [hn] <;> omega) ⟨.int ((difS xs).length : Nat), H1, I2.tok _, ⟨_, by rw [hn]⟩, q1⟩⟩

/-! ### x in (texts), x of any kind -/
section
open PySem PySem.SeqAt
theorem dict_eq_txt (a : Addr) (o : Obj) (b : Str) (u : Tok) : Meets (Builtin.«dict.__eq__» ⟨[.ref a, .str b u], []⟩) (fun _ R s => (s.heap.get? a = some o ∧ o.cls = .type "dict") ∧ R (.ok (.ret .notImplemented)) s) :=
  .of_wp fun prog w A R s h => by
    obtain ⟨hp, g, d, tk, os⟩ := s
    obtain ⟨⟨ho, hc⟩, h⟩ := h
    have f1 := PySem.F.sub_str_dict
    wp_walk using wpAny_load ho
    exact ⟨_, rfl, h⟩
theorem txt_eq_dict (b : Str) (u : Tok) (a : Addr) (dd : Option Addr) (es : Array DictEntry) (ep : Nat) (sl : Array (Option Value)) : Meets (Builtin.«str.__eq__» ⟨[.str b u, .ref a], []⟩) (fun _ R s => s.heap.get? a = some { cls := .type "dict", dict := dd, data := .dict es ep, slots := sl } ∧ R (.ok (.ret .notImplemented)) s) :=
  .of_wp fun prog w A R s h => by
    obtain ⟨hp, g, d, tk, os⟩ := s
    obtain ⟨ho, h⟩ := h
    wp_walk using wpAny_load ho
    exact ⟨_, rfl, h⟩
theorem rc_txt_dict {A : Around} {s : Shared} {a : Addr} {o : Obj} {es : Array DictEntry} {ep : Nat} (b : Str) (u : Tok) (ho : s.heap.get? a = some o) (hc : o.cls = .type "dict") (hd : o.data = .dict es ep) (hu : A.units < cLine) : RcAt A s (.str b u) (.ref a) false := fun prog w E Q h => by
  have e : o = { cls := .type "dict", dict := o.dict, data := .dict es ep, slots := o.slots } := by
    obtain ⟨c, dd, dt, sl⟩ := o
    simp only at hc hd
    subst hc hd
    rfl
  have h2 := ho
  rw [e] at h2
  exact rc_eq_decline_or (k := false) (typeIs_str s b u) ⟨_, ho, hc⟩ (by decide) PySem.F.sub_dict_str PySem.F.slot_str_eq PySem.F.slot_dict_eq_refl
    (fun _ q => call_meets PySem.F.slot_str_eq (typeIs_str s b u) PySem.F.entry_str_eq (PySem.F.args_str_eq_2 _ _) (txt_eq_dict b u a o.dict es ep o.slots) ⟨h2, q⟩)
    (fun _ q => call_meets PySem.F.slot_dict_eq_refl ⟨_, ho, hc⟩ PySem.F.entry_dict_eq (PySem.F.args_dict_eq_2 _ _) (dict_eq_txt a o b u) ⟨⟨ho, hc⟩, q⟩)
    (fun _ q => wpAny_of_eq (rfl : isSame (.str b u) (.ref a) = pure false) q) (.inr hu) h
theorem eq_txt_dict {A : Around} {s : Shared} {a : Addr} {o : Obj} {es : Array DictEntry} {ep : Nat} (b : Str) (u : Tok) (ho : s.heap.get? a = some o) (hc : o.cls = .type "dict") (hd : o.data = .dict es ep) (hu : A.units < cLine) : EqAt A s (.str b u) (.ref a) false := fun prog w E Q h => by
  unfold eqBool
  refine wpAny_holding (wpAny_ite_split (fun z => absurd (eq_of_beq z) nofun) fun _ => ?_)
  exact wpAny_bind (rc_txt_dict b u ho hc hd hu prog w E _ (wpAny_truthy_bool h))
end
/-- a value of any kind, the text that it is -/
inductive OddV (K : PySem.W.Frag) (H : Hp) : V → Option Str → Prop
  | str (z : Str) : OddV K H (.str z) (some z)
  | non : OddV K H .non none
  | bl (b : Bool) : OddV K H (.bl b) none
  | int (i : Int) : OddV K H (.int i) none
  | lst {a : Addr} {xs : List V} : SqL K H a xs → OddV K H (.ref a) none
  | tup {a : Addr} {xs : List V} : SqT K H a xs → OddV K H (.ref a) none
  | dct {a : Addr} {kvs : List (Key × V)} : Rd H a (.dK kvs) → OddV K H (.ref a) none
def amongS (o : Option Str) (ss : List Str) : Bool := match o with | some z => decide (z ∈ ss) | none => false
def rAmong (K : PySem.W.Frag) (neg : Bool) : R2 := fun x y H Q => ∃ p ss o, y = .ref p ∧ SqT K H p (ss.map V.str) ∧ OddV K H x o ∧ Q (.bl (if neg then !amongS o ss else amongS o ss)) H
def isTxt (o : Option Str) : Value → Bool
  | .str x _ => match o with | some z => x == z | none => false
  | _ => false
theorem any_txt (o : Option Str) : ∀ {ss : List Str} {its : List Value}, Vals (ss.map V.str) its → its.any (isTxt o) = amongS o ss
  | [], _, .nil => by cases o <;> rfl
  | s :: ss, _, .cons r t => by
    obtain ⟨k, rfl⟩ := r
    rw [List.any_cons, any_txt o t]
    cases o with
    | none => rfl
    | some z =>
      show (s == z || decide (z ∈ ss)) = decide (z ∈ s :: ss)
      by_cases e : s = z
      · subst e; simp
      · have h1 : (s == z) = false := by simpa using e
        rw [h1, Bool.false_or]
        exact decide_eq_decide.mpr ⟨fun h => List.mem_cons_of_mem _ h, fun h => (List.mem_cons.mp h).elim (fun q => absurd q.symm e) id⟩
section
variable {X : Cx} {pins : List (Addr × Obj)} {σ : L2.St} {H : Hp} {s : Shared}
theorem eqs_odd {x : V} {o : Option Str} {v : Value} {ss : List Str} {its : List Value} (I : Inv X pins σ H s) (h : OddV X.K H x o) (r : RelV x v) (hu : X.A.units + 64 < cLine) (t : Vals (ss.map V.str) its) : ∀ w ∈ its, PySem.SeqAt.EqAt X.A.in1 s w v (isTxt o w) := by
  intro w hw
  obtain ⟨z, tk, rfl⟩ : ∃ z tk, w = .str z tk := by
    obtain ⟨i, hi⟩ := List.mem_iff_getElem?.mp hw
    obtain ⟨z, tk, _, e⟩ := txt_get t i w hi
    exact ⟨z, tk, e⟩
  have hu1 : X.A.in1.units < cLine := by show X.A.units + 1 < cLine; omega
  cases h with
  | str y => obtain ⟨k, rfl⟩ := r; exact PySem.SeqAt.EqAt.str_str z tk y k
  | non => cases r; exact PySem.SeqAt.EqAt.str_none z tk
  | bl b => cases r; exact PySem.SeqAt.EqAt.str_bool z tk b
  | int i => obtain ⟨k, rfl⟩ := r; exact PySem.SeqAt.EqAt.str_int z tk i k
  | lst hl => cases r; obtain ⟨ts, _, pl, _⟩ := I.list hl; exact PySem.SeqAt.EqAt.str_list z tk pl.isList hu1
  | tup hl => cases r; obtain ⟨ts, _, pl, _⟩ := I.tuple hl; exact PySem.SeqAt.EqAt.str_tuple z tk pl hu1
  | dct hl =>
    cases r
    obtain ⟨_, _, vs, _, dd⟩ := hl.ok I.hok
    obtain ⟨ob, es, ep, ho, hx, hdat, _⟩ := dd
    exact eq_txt_dict z tk ho hx.1 hdat hu1
theorem op_amongK {K : PySem.W.Frag} (e : X.K = K) (hu : X.A.units + 64 < cLine) : OpR X (compareOp .In) (rAmong K false) := by
  subst e
  intro pins s σ H x y v u Q I rx ry h
  obtain ⟨p, ss, o, rfl, hq, ho, q⟩ := h
  cases ry
  obtain ⟨its, r, pl, hz⟩ := I.tuple hq
  refine PySem.SeqAt.in_tupleAt (isTxt o) pl (fun w hw => eqs_odd I ho rx hu r w (by simpa using hw)) ⟨.bl _, H, I, rfl, ?_⟩
  rw [show its.toArray.any (isTxt o) = its.any (isTxt o) by simp, any_txt o r]
  exact q
theorem op_notAmongK {K : PySem.W.Frag} (e : X.K = K) (hu : X.A.units + 64 < cLine) : OpR X (compareOp .NotIn) (rAmong K true) := by
  subst e
  intro pins s σ H x y v u Q I rx ry h
  obtain ⟨p, ss, o, rfl, hq, ho, q⟩ := h
  cases ry
  obtain ⟨its, r, pl, hz⟩ := I.tuple hq
  refine PySem.SeqAt.notIn_tupleAt (isTxt o) pl (fun w hw => eqs_odd I ho rx hu r w (by simpa using hw)) ⟨.bl _, H, I, rfl, ?_⟩
  rw [show its.toArray.any (isTxt o) = its.any (isTxt o) by simp, any_txt o r]
  exact q
end

/-! ### list(d.values()) -/
def rValsL : V → Hp → VK → Prop := fun x H Q => ∃ (d : Addr) (kvs : List (Key × V)), x = .ref d ∧ H d = some (.dK kvs) ∧ ∀ q, H q = none → Q (.ref q) (upd H q (.lst (kvs.map (·.2))))
def tListValues (te : TE) : TE := fun σ H Q => te σ H fun x H1 => rValsL x H1 Q
theorem kv_from : ∀ {kvs : List (Key × V)} {vs : List (Key × Value)} {j : Nat} {k : Key} {w : Value}, KV kvs vs → vs[j]? = some (k, w) → ∃ x, kvs[j]? = some (k, x) ∧ RelV x w
  | _, _, _, _, _, .nil, h => by simp at h
  | (k1, x) :: _, _, 0, k, w, .cons r _, h => by
    have h : some _ = some (k, w) := h
    cases h
    obtain ⟨e, r⟩ := r
    obtain rfl : k1 = _ := e
    exact ⟨x, rfl, r⟩
  | _ :: _, _ :: _, j + 1, _, _, .cons _ t, h => kv_from (j := j) t h
theorem pe_listValues {X : Cx} {e : Expr} {te : TE} {p apos cpos pos : Pos} (hc : X.calm = true) (he : PE X e te) (hg : Gl X "list") (hm : X.mg "list" = none) (hv : bootBuiltins "list" = some (.type "list"))
    (hbase : attributeBase e "values" X.env (eval e X.env) = eval e X.env := by rfl) (hline : (apos.endLine == cpos.line) = true := by rfl)
    (hs : starEach [.Call (.Attribute e "values" apos) [] [] cpos] X.env = (false, eval (.Call (.Attribute e "values" apos) [] [] cpos) X.env) :: starEach [] X.env := by rfl) :
    PE X (.Call (.Name "list" p) [.Call (.Attribute e "values" apos) [] [] cpos] [] pos) (tListValues te) := by
  refine ⟨fun pins s σ H Q I hq => wpAny_Call_Name_kw (ld_blt I hg hm hv (PyProof.Rows.callWith_type1 ?_ hs rfl))⟩
  rw [hs]
  show wpAny _ _ (spliced ((false, eval (.Call (.Attribute e "values" apos) [] [] cpos) X.env) :: backTo pos (starEach [] X.env))) _ _ s
  refine Calls.spliced_cons (wpAny_Call_method (T := "dict") (id := "dict.values") hbase rfl hline F.plainAttrs_dict F.slot_dict_values F.type_dict_values (thn (he.run pins s σ H _ I hq) fun u s1 ⟨x, H1, I1, rx, d, kvs, ex, hd, q⟩ => ?_))
  subst ex
  obtain rfl : u = Value.ref d := rx
  obtain ⟨hz, hs0, vs, kv, hdo⟩ := I1.hok d _ hd
  obtain ⟨ep, hat⟩ := hdo.dictAt
  have lk : kvs.length = vs.length := Paired.length kv
  have J : Inv X pins σ H1 { s1 with heap := s1.heap.push { cls := .type "dict_values", data := .fields #[.ref d] } } := I1.kept (t' := s1.toks) fun b ob q => Heap.get?_push_of_some _ q
  refine ⟨hdo.typeIs, hdo.mapOf.noDict, ?_⟩
  show wpAny _ _ (callWith cpos (.builtin "dict.values") [.ref d] [] []) _ X.xe s1
  refine method_meetsIn F.slot_dict_values F.entry_dict_values rfl (PySem.evalArgs_none ⟨rfl, hdo.typeIs, F.args_dict_values_1 _, _, meets_dict_values (mixKind X.prog X.w) d hs0, ⟨vs, hdo⟩, Calls.spliced_nil ?_⟩)
  refine PySem.W.kdl_call (PySem.W.kdl_values (knd := mixKind X.prog X.w) (kvs := vs) (ep := ep)) (I1.ok.hd hc) ⟨⟨_, Heap.get?_push_size _ rfl, rfl, rfl⟩, hat.push _⟩ (by omega) fun h' tk acc c hk hS hacc => ?_
  refine ⟨.ref _, _, J.laid hk (Nat.le_refl _) (show ObjOk X.prog X.w _ _ _ (.lst (kvs.map (·.2))) from ⟨by rw [List.length_map]; exact hz, acc.toList, c, ?_, by rw [Array.toArray_toList]; exact hS⟩), rfl, q _ (J.hok.fresh (Nat.le_refl _))⟩
  have el : acc.toList.length = acc.size := by simp
  refine vals_of_at (by rw [List.length_map, el, hacc.1, lk]) fun j x w h1 h2 => ?_
  obtain ⟨k, hky⟩ := hacc.2 j w (by rw [← Array.getElem?_toList]; exact h2)
  obtain ⟨y, g1, g2⟩ := kv_from kv hky
  rw [List.getElem?_map, g1] at h1
  cases h1
  exact g2
theorem w_listValues {te : TE} {σ : L2.St} {H : Hp} {Q : VK} (k : te σ H fun x H1 => rValsL x H1 Q) : tListValues te σ H Q := k
theorem w_lockE {t : TE} {σ : L2.St} {H : Hp} {Q : VK} {d : Addr} {u : HO} (h : H d = some u) (m : Mut (some u)) (k : ∀ od, t σ (upd H d (.frz od u)) fun v H' => H' d = some (.frz od u) ∧ Q v (upd H' d u)) : tLockE t σ H Q := ⟨d, u, h, m, k⟩

/-! ### lists of plain data compared; sorted ints; dicts cleared; values listed; unlike texts counted -/
section
variable {K : PySem.W.Frag} {W : WX} {X : XP} {env : DEnv} {M : MS} {P : D → MS → Prop}
theorem dop_eqL {n : Nat} {x y : D} {ds es : List D} (hx : IsL M x ds) (hy : IsL M y es) (ho : ds.all (okD n) = true) (ho2 : es.all (okD n) = true) (hn : n ≤ 20) (k : P (.bl (PyData.eqv (.list (pyDs ds)) (.list (pyDs es)))) M) : DOp K (rEqD K) x y M P := fun F H v1 v2 Q hr a1 a2 q => by
  have h1 := hx.is ho hr a1
  have h2 := hy.is ho2 hr a2
  have h3 := (okDs_py ds n ho).lst
  have h4 := (okDs_py es n ho2).lst
  refine ⟨_, _, h1.dp (noDict_of _ h3.cl), h2.dp (noDict_of _ h4.cl), ?_, ?_, q.now hr (.bl _) k⟩
  all_goals (unfold SeqAt.shaped; rw [Bool.and_eq_true])
  · exact ⟨h3.cl, decide_eq_true (by have := h3.dp; omega)⟩
  · exact ⟨h4.cl, decide_eq_true (by have := h4.dp; omega)⟩
theorem dop_neL {n : Nat} {x y : D} {ds es : List D} (hx : IsL M x ds) (hy : IsL M y es) (ho : ds.all (okD n) = true) (ho2 : es.all (okD n) = true) (hn : n ≤ 20) (k : P (.bl (!PyData.eqv (.list (pyDs ds)) (.list (pyDs es)))) M) : DOp K (rNeD K) x y M P := fun F H v1 v2 Q hr a1 a2 q => by
  have h1 := hx.is ho hr a1
  have h2 := hy.is ho2 hr a2
  have h3 := (okDs_py ds n ho).lst
  have h4 := (okDs_py es n ho2).lst
  refine ⟨_, _, h1.dp (noDict_of _ h3.cl), h2.dp (noDict_of _ h4.cl), ?_, ?_, q.now hr (.bl _) k⟩
  all_goals (unfold SeqAt.shaped; rw [Bool.and_eq_true])
  · exact ⟨h3.cl, decide_eq_true (by have := h3.dp; omega)⟩
  · exact ⟨h4.cl, decide_eq_true (by have := h4.dp; omega)⟩
theorem eqv_selfL {n : Nat} {ds : List D} (ho : ds.all (okD n) = true) : PyData.eqv (.list (pyDs ds)) (.list (pyDs ds)) = true := PySem.SeqAt.eqv_refl _ (okDs_py ds n ho).lst.cl
/-- sorted(xs) of ints -/
theorem dc_sortI {x : D} {ns : List Int} (h : IsL M x (ns.map D.int)) (k : ∀ (ns' : List Int) a, ns'.Perm ns → ns'.Pairwise (· ≤ ·) → P (.loc a) ((a, .lst (ns'.map D.int)) :: M)) : DC K (rSortedI K) [x] M P := fun F H vs Q hr b0 q => by
  obtain ⟨v, rfl, a⟩ := b0.one_inv
  obtain ⟨p, xs, rfl, h1, h2⟩ := h.raw hr a
  obtain rfl := h2.ints
  exact ⟨p, ns, rfl, .inl (.inl h1), fun ns' b hp hs hb => q.new hr hb (o := .lst (ns'.map D.int)) (fun H' e => ⟨_, e, ats_ints ns'⟩) (k ns' b hp hs)⟩
def tDClear (K : PySem.W.Frag) (to : TE) : TE := tBM0 K "dict" rDClear to
theorem pe_dclearK {X : Cx} {K : PySem.W.Frag} {o : Expr} {to : TE} {apos cpos : Pos} (h : X.K = K) (ho : PE X o to) (hbase : attributeBase o "clear" X.env (eval o X.env) = eval o X.env := by rfl) (hline : (apos.endLine == cpos.line) = true := by rfl) : PE X (.Call (.Attribute o "clear" apos) [] [] cpos) (tDClear K to) := by subst h; exact pe_dclear ho hbase hline
theorem cr_sortedIK {X : Cx} {K : PySem.W.Frag} (h : X.K = K) : CallR X (.builtin "sorted") (rSortedI K) := by subst h; exact cr_sortedI
theorem perm_sortI : ∀ {l m : List Int}, l.Perm m → l.Pairwise (· ≤ ·) → m.Pairwise (· ≤ ·) → l = m
  | [], m, h, _, _ => (List.nil_perm.mp h).symm
  | a :: l, [], h, _, _ => absurd h.length_eq (by simp)
  | a :: l, b :: m, h, h1, h2 => by
    obtain ⟨h3, h4⟩ := List.pairwise_cons.mp h1
    obtain ⟨h5, h6⟩ := List.pairwise_cons.mp h2
    have e : a = b := by
      have ha := h.subset List.mem_cons_self
      have hb := h.symm.subset List.mem_cons_self
      rcases List.mem_cons.mp ha with e | ha
      · exact e
      · rcases List.mem_cons.mp hb with e | hb
        · exact e.symm
        · exact Int.le_antisymm (h3 _ hb) (h5 _ ha)
    subst e
    rw [perm_sortI h.cons_inv h4 h6]
/-- d.clear() -/
theorem de_dclear {to : TE} (h : DE K W X to env M fun d M1 => ∃ a es N1 N2, d = .loc a ∧ M1 = N1 ++ (a, .dct es) :: N2 ∧ P .non (N1 ++ (a, .dct []) :: N2)) : DE K W X (tDClear K to) env M P := fun F σ H Q he hr xl q =>
  h F σ H _ he hr xl fun F1 v1 d1 H1 M1 s1 hr1 a1 ⟨a, es, N1, N2, e1, e2, p⟩ => by
    subst e1 e2
    obtain rfl := a1.loc_inv
    obtain ⟨kvs, e, g⟩ := hr1.cell
    exact ⟨.inr (.inr (.inl ⟨rfl, .inl ⟨kvs, e⟩⟩)), a, kvs, rfl, rfl, e, q F1 _ _ _ _ s1 (hr1.put (o' := .dct []) fun H' e' => ⟨_, e', .nil⟩) .non p⟩
theorem AtK.vals {F : Hp} : ∀ {kvs : List (Key × V)} {es : List (Key × D)}, AtK K F kvs es → Ats K F (kvs.map (·.2)) (es.map (·.2))
  | _, _, .nil => .nil
  | _, _, .cons h t => .cons h (AtK.vals t)
/-- list(d.values()) -/
theorem de_listVals {te : TE} (h : DE K W X te env M fun d M1 => ∃ a es, d = .loc a ∧ (a, .dct es) ∈ M1 ∧ ∀ p, P (.loc p) ((p, .lst (es.map (·.2))) :: M1)) : DE K W X (tListValues te) env M P := fun F σ H Q he hr xl q =>
  h F σ H _ he hr xl fun F1 v1 d1 H1 M1 s1 hr1 a1 ⟨a, es, e1, e2, p⟩ => by
    subst e1
    obtain rfl := a1.loc_inv
    obtain ⟨_, kvs, e, g⟩ := hr1.at' _ e2
    exact ⟨a, kvs, rfl, e, fun b hb => (q.mono s1).new hr1 hb (o := .lst (es.map (·.2))) (fun H' e' => ⟨_, e', g.vals⟩) (p b)⟩
/-- len(set(xs)) -/
theorem de_lenSet {te : TE} (h : DE K W X te env M fun d M1 => ∃ xs, IsL M1 d (xs.map D.str) ∧ xs.length ≤ 4000 ∧ P (.int ((difS xs).length : Nat)) M1) : DE K W X (tLenSetT K te) env M P := fun F σ H Q he hr xl q =>
  h F σ H _ he hr xl fun F1 v1 d1 H1 M1 s1 hr1 a1 ⟨xs, e1, e2, p⟩ => by
    obtain ⟨b, zs, rfl, h1, h2⟩ := e1.raw hr1 a1
    obtain rfl := h2.strs
    exact ⟨b, xs, rfl, .inl (.inl h1), e2, (q.mono s1).now hr1 (.int _) p⟩
end
theorem dop_notB {K : PySem.W.Frag} {M : MS} {P : D → MS → Prop} {a b : Bool} (k : P (.bl (!decide (a = b))) M) : DOp K rNotB (.bl a) (.bl b) M P := fun F H v1 v2 Q hr a1 a2 q => by
  obtain rfl := a1.bl_inv
  obtain rfl := a2.bl_inv
  exact ⟨a, b, rfl, rfl, q.now hr (.bl _) k⟩

/-! ### several clauses, each with a name for the exception or with none -/
structure Cl where
  c : Value
  i : Option Nat
  ts : Addr → Value → Option Addr → TS
def Cl.ends (q : Cl) (De : Ends) : Ends := match q.i with
  | none => De
  | some i => { nx := fun σ H => De.nx (σ.set i none) H, rt := De.rt, bk := fun σ H => De.bk (σ.set i none) H, ct := fun σ H => De.ct (σ.set i none) H }
def Cl.st (q : Cl) (a : Addr) (σ : L2.St) : L2.St := match q.i with
  | none => σ
  | some i => σ.set i (some (.ref a))
def wCl (K : PySem.W.Frag) (Wo : WX) (De : Ends) : List Cl → WX
  | [] => Wo
  | q :: r => fun cls d σ H => ∃ b, PySem.W.exmOne K cls q.c = some b ∧ (b = true → ∀ a, H a = none → q.ts a cls d (q.ends De) (q.st a σ) H) ∧ (b = false → wCl K Wo De r cls d σ H)
def tTryCl (K : PySem.W.Frag) (l : List Cl) (tb : WX → TS) (Wo : WX) : TS := fun De σ H => tb (wCl K Wo De l) De σ H
/-- the clause's name: a local one, its slot -/
inductive NmOkC (X : Cx) : Option Str → Option Nat → Prop
  | no : NmOkC X none none
  | as {n : Str} {i : Nat} : X.N[i]? = some n → X.env.kindOf n = some .local → NmOkC X (some n) (some i)
inductive ClsOk (X : Cx) : List ExceptHandler → List Cl → Prop
  | nil : ClsOk X [] []
  | cons {x : Str} {nm : Option Str} {c : Value} {i : Option Nat} {ts : Addr → Value → Option Addr → TS} {b0 : Stmt} {bs : List Stmt} {p1 p2 : Pos} {hds : List ExceptHandler} {l : List Cl} (nc : Names X x c) (nn : NmOkC X nm i)
      (su : ∀ (a : Addr) (oe : Obj) (cls : Value) (d : Option Addr) (pn : List (Addr × Obj)), Zc cls d oe → (∃ vs, oe.data = .fields vs) → PSs (X.suite a ((a, oe) :: pn)) (b0 :: bs) (ts a cls d)) (r : ClsOk X hds l) :
      ClsOk X (.ExceptHandler (some (.Name x p1)) nm (b0 :: bs) p2 :: hds) (⟨c, i, ts⟩ :: l)
section
variable {X : Cx} {body : List Stmt} {hd0 : ExceptHandler} {hds : List ExceptHandler} {l : List Cl} {pos : Pos} {tb : WX → TS} {Wo : WX}
theorem ps_try_cls (st0 : X.stack = X.env :: X.outer) (fr0 : X.env.frame = some X.env.locals) (nd0 : X.N.Nodup) (tk : Takes X Wo)
    (pb : ∀ (W : WX) (pn : List (Addr × Obj)) (xe : Value → Shared → Prop), Takes (X.tr pn xe) W → PassesOwn (model X.prog X.w) X.A X.env xe → PSs (X.tr pn xe) body (tb W))
    (ok0 : ClsOk X (hd0 :: hds) l) : PS X (.Try body (hd0 :: hds) [] [] pos) (tTryCl X.K l tb Wo) := by
  refine ⟨fun pins s σ H De I z => ?_⟩
  have okI := I.ok
  have frs0 : X.A.frames = some (X.env :: X.outer) := by rw [okI.frames, st0]
  refine wpAny_Try_except (wpAny_mono ((pb (wCl X.K Wo De l) (X.pn ++ pins) (fun e s1 => wpAny (model X.prog X.w) X.A (noteFrame e X.env) (fun _ s2 => wpAny (model X.prog X.w) X.A (setFlight e none)
    (fun _ s3 => wpAny (model X.prog X.w) X.A (handleBy e X.env (hd0 :: hds)) (SP X pins De) X.xe s3) X.xe s2) X.xe s1) (fun u s1 xx => ?_) PassesOwn.looking).run [] s σ H De (I.toTry _) z) (fun f s1 sp => ?_) (fun _ _ q => q))
  · obtain ⟨a, B, sI, pins1, σ1, H1, cls, d, rfl, I1, nb, up1, sky1, na, os, ag, w⟩ := xx
    have J : Inv X pins σ1 H1 sI := I1.ofTry okI
    rw [st0] at sky1
    show wpAny (model X.prog X.w) X.A (noteFrame (.ref a) X.env) _ _ _
    refine Sky.land Zc.steady frs0 fr0 sky1 fun hp fly up2 => ?_
    have J2 : Inv X pins σ1 H1 { s1 with heap := hp } := J.landed nb fly.1 (up1.trans up2) os ag
    obtain ⟨oe, vs, ge, ze, de⟩ := fly.there
    have far : a ∉ frs (X.env :: X.outer) := fun hm => by
      obtain ⟨_, o2, g2, nf⟩ := fly.2.2.1.mem hm
      rw [ge] at g2
      cases g2
      exact nf _ de
    have nl : a ≠ X.env.locals := fun q => far (List.mem_filterMap.mpr ⟨X.env, List.mem_cons_self, by rw [fr0, q]⟩)
    have nf : a ∉ X.fs := fun hm => by
      obtain ⟨en, hen, q⟩ := List.mem_filterMap.mp hm
      exact far (List.mem_filterMap.mpr ⟨en, List.mem_cons_of_mem _ hen, q⟩)
    have S2 := J2.suite ge de na nl nf
    have go : ∀ {hds2 : List ExceptHandler} {l2 : List Cl}, ClsOk X hds2 l2 → wCl X.K Wo De l2 cls d σ1 H1 → wpAny (model X.prog X.w) X.A (handleBy (.ref a) X.env hds2) (SP X pins De) X.xe { s1 with heap := hp } := by
      intro hds2 l2 ck
      induction ck with
      | nil =>
        intro w
        refine wpAny_handleBy_nil ?_
        obtain ⟨k1, k2, k3, oe2, vs2, T, oT, ts2, g2, z2, d2, f2, r2⟩ := id fly
        unfold PySem.passOn
        refine wpAny_bind (wpAny_field g2 d2 f2 ?_)
        rw [if_neg (show ¬ ((Value.ref T == Value.none) = true) from by simp)]
        have out : wpAny (model X.prog X.w) X.A (setFlight (.ref a) X.env.frame) (fun _ s4 => wpAny (model X.prog X.w) X.A (throw (.ref a) : Sem Flow) (SP X pins De) X.xe s4) X.xe { s1 with heap := hp } := by
          rw [fr0]
          exact HandSPX.setFlight_upZ fly fun hp2 fl2 up3 => wpAny_throw (tk _ _ ⟨a, B, sI, pins, σ1, H1, cls, d, rfl, J, nb, (up1.trans up2).trans up3, .inr (.inr (by rw [st0]; exact fl2)), na, os, ag, w⟩)
        first
          | exact wpAny_bind (wpAny_pure (wpAny_bind out))
          | exact wpAny_bind out
      | @cons x nm qc qi qts b0 bs p1 p2 hds3 l3 nc nn su r ih =>
        intro w
        obtain ⟨b, eb, yes, no⟩ := w
        refine wpAny_handleBy_cons (codeAny_handlers_test ?_) (by intro q; cases q)
        have lt : PySem.W.Looks (model X.prog X.w) hp (typeOf (.ref a)) cls := fun A Q E s k q => wpAny_typeOf_ref (k _ _ ge) (by rw [ze.1]; exact q)
        have lm := PySem.W.exm_one (M := model X.prog X.w) (J2.kIn) lt eb
        have ask : ∀ {Q : Value → Shared → Prop} {E : Value → Shared → Prop}, Q qc { s1 with heap := hp } → wpAny (model X.prog X.w) (X.A.mark (some (.ref a))) (eval (.Name x p1) X.env) Q E { s1 with heap := hp } := fun {Q E} k => by
          obtain ⟨g1, g2, m1 | ⟨m1, v1, n1⟩⟩ := nc
          · exact ld_glob (X := X.suite a ((a, oe) :: (X.pn ++ pins))) S2 g1 m1 k g2
          · exact ld_blt (X := X.suite a ((a, oe) :: (X.pn ++ pins))) S2 g1 m1 v1 k n1 g2
        refine ask (lm.here ?_)
        cases b with
        | false =>
          show wpAny _ X.A (handleBy (.ref a) X.env hds3) _ _ _
          exact ih (no rfl)
        | true =>
          have w2 := yes rfl a na
          cases nn with
          | no =>
            refine codeAny_handlers_suite (HandSPX.lands_againZ fly fun hp2 fl2 up3 => ?_)
            have J3 : Inv X pins σ1 H1 { s1 with heap := hp2 } := J.landed nb fl2.1 ((up1.trans up2).trans up3) os ag
            obtain ⟨oe3, vs3, ge3, ze3, de3⟩ := fl2.there
            have S3 := J3.suite ge3 de3 na nl nf
            refine wpAny_mono ((su a oe3 cls d (X.pn ++ pins) ze3 ⟨_, de3⟩).run [] _ _ H1 _ S3 w2) (fun f s6 sp => ?_) (fun _ _ z => False.elim z)
            cases f with
            | ret u =>
              obtain ⟨v6, σ6, H6, S6, r6, k6⟩ := sp
              exact ⟨_, _, _, S6.unsuite okI, r6, k6⟩
            | _ =>
              obtain ⟨σ6, H6, S6, k6⟩ := sp
              exact ⟨_, _, S6.unsuite okI, k6⟩
          | @as n i hi hl =>
            refine codeAny_handlers_suite_as (HandSPX.lands_againZ fly fun hp2 fl2 up3 => ?_)
            have J3 : Inv X pins σ1 H1 { s1 with heap := hp2 } := J.landed nb fl2.1 ((up1.trans up2).trans up3) os ag
            obtain ⟨oe3, vs3, ge3, ze3, de3⟩ := fl2.there
            have S3 := J3.suite ge3 de3 na nl nf
            refine store_ok (X := X.suite a ((a, oe3) :: (X.pn ++ pins))) (v := .ref a) S3 nd0 hi (.inl hl) rfl (fun s5 S5 => ?_) (.inr hl)
            refine wpAny_mono ((su a oe3 cls d (X.pn ++ pins) ze3 ⟨_, de3⟩).run [] s5 _ H1 _ S5 w2) (fun f s6 sp => ?_) (fun _ _ z => False.elim z)
            have fin : ∀ {σ6 : L2.St} {H6 : Hp} {Q : Shared → Prop}, Inv (X.suite a ((a, oe3) :: (X.pn ++ pins))) [] σ6 H6 s6 → (∀ s7, Inv X pins (σ6.set i none) H6 s7 → Q s7) →
              wpAny (model X.prog X.w) X.A (do bindName X.env n .none; unbindBehindTheSuite X.env n p2) (fun _ s7 => Q s7) X.xe s6 := fun {σ6 H6 Q} S6 k => gone_ok (S6.unsuite okI) nd0 hi hl k
            cases f with
            | ret u =>
              obtain ⟨v6, σ6, H6, S6, r6, k6⟩ := sp
              exact fin S6 fun s7 J7 => ⟨_, _, _, J7, r6, k6⟩
            | _ =>
              obtain ⟨σ6, H6, S6, k6⟩ := sp
              exact fin S6 fun s7 J7 => ⟨_, _, J7, k6⟩
    exact go ok0 w
  · cases f with
    | next =>
      obtain ⟨σ1, H1, I1, k1⟩ := sp
      exact wpAny_execs_nil ⟨σ1, H1, I1.ofTry okI, k1⟩
    | ret u =>
      obtain ⟨v, σ1, H1, I1, r, k1⟩ := sp
      exact ⟨v, σ1, H1, I1.ofTry okI, r, k1⟩
    | _ =>
      obtain ⟨σ1, H1, I1, k1⟩ := sp
      exact ⟨σ1, H1, I1.ofTry okI, k1⟩
theorem ps_try_clsK {K : PySem.W.Frag} (hK : X.K = K) (st0 : X.stack = X.env :: X.outer) (fr0 : X.env.frame = some X.env.locals) (nd0 : X.N.Nodup) (tk : Takes X Wo)
    (pb : ∀ (W : WX) (pn : List (Addr × Obj)) (xe : Value → Shared → Prop), Takes (X.tr pn xe) W → PassesOwn (model X.prog X.w) X.A X.env xe → PSs (X.tr pn xe) body (tb W))
    (ok0 : ClsOk X (hd0 :: hds) l) : PS X (.Try body (hd0 :: hds) [] [] pos) (tTryCl K l tb Wo) := by subst hK; exact ps_try_cls st0 fr0 nd0 tk pb ok0
end
/-! over the data -/
section
variable {K : PySem.W.Frag} {W : WX} {X : XP} {F H : Hp} {env : DEnv} {M : MS}
def Cl.denv (q : Cl) (d : D) (e : DEnv) : DEnv := match q.i with | none => e | some i => e.set i (some d)
def Cl.back (q : Cl) (e : DEnv) : DEnv := match q.i with | none => e | some i => e.set i none
/-- what the clauses ask of an exception -/
def xCl (K : PySem.W.Frag) (De : DEnds) (X : XP) : List Cl → XP
  | [] => X
  | q :: r => fun cls fs e1 m1 => ∃ b, PySem.W.exmOne K cls q.c = some b ∧
    (b = true → ∀ a dd, DS K (fun _ _ _ _ => False) (fun _ _ _ _ => False) (q.ts a cls (some dd)) { nx := fun e m => De.nx (q.back e) m, rt := De.rt, bk := fun e m => De.bk (q.back e) m, ct := fun e m => De.ct (q.back e) m } (q.denv (.exc a dd fs) e1) m1) ∧
    (b = false → xCl K De X r cls fs e1 m1)
theorem wCl_ok {De : DEnds} {Ds : Ends} (c0 : CnS K F De Ds) (xl : XL K F W X) : ∀ (l : List Cl), XL K F (wCl K W Ds l) (xCl K De X l)
  | [] => xl
  | q :: l => fun F' cls dx ws fs σ' e' H' M' s' he' hr' hx af ⟨b, e1, hy, hn⟩ => ⟨b, e1, fun eb a ha => by
    obtain ⟨F2, s2, hr2, hx2⟩ := hr'.xd hx
    have s02 := s'.trans s2
    have h := hy eb a dx
    obtain ⟨qc, qi, qts⟩ := q
    cases qi with
    | none =>
      exact h F2 σ' H' Ds (he'.mono s2) hr2 (fun _ _ _ _ _ _ _ _ _ _ _ _ _ _ z => z.elim) ⟨fun F3 σ3 e3 H3 M3 s3 he3 hr3 k => c0.nx F3 _ _ H3 M3 (s02.trans s3) he3 hr3 k, fun F3 v d H3 M3 s3 hr3 av k => c0.rt F3 v d H3 M3 (s02.trans s3) hr3 av k,
        fun F3 σ3 e3 H3 M3 s3 he3 hr3 k => c0.bk F3 _ _ H3 M3 (s02.trans s3) he3 hr3 k, fun F3 σ3 e3 H3 M3 s3 he3 hr3 k => c0.ct F3 _ _ H3 M3 (s02.trans s3) he3 hr3 k⟩
    | some i =>
      exact h F2 (σ'.set i (some (.ref a))) H' _ ((he'.mono s2).set (.exc hx2 (af.mono s2)) i) hr2 (fun _ _ _ _ _ _ _ _ _ _ _ _ _ _ z => z.elim) ⟨fun F3 σ3 e3 H3 M3 s3 he3 hr3 k => c0.nx F3 _ _ H3 M3 (s02.trans s3) (he3.unset i) hr3 k,
        fun F3 v d H3 M3 s3 hr3 av k => c0.rt F3 v d H3 M3 (s02.trans s3) hr3 av k, fun F3 σ3 e3 H3 M3 s3 he3 hr3 k => c0.bk F3 _ _ H3 M3 (s02.trans s3) (he3.unset i) hr3 k, fun F3 σ3 e3 H3 M3 s3 he3 hr3 k => c0.ct F3 _ _ H3 M3 (s02.trans s3) (he3.unset i) hr3 k⟩,
    fun eb => wCl_ok c0 xl l F' cls dx ws fs σ' e' H' M' s' he' hr' hx af (hn eb)⟩
theorem ds_try_cl {l : List Cl} {tb : WX → TS} {De : DEnds} (h : ∀ W', DS K W' (xCl K De X l) (tb W') De env M) : DS K W X (tTryCl K l tb W) De env M := fun F σ H Ds he hr xl c0 => h (wCl K W Ds l) F σ H Ds he hr (wCl_ok c0 xl l) c0
end

/-! ### sorted(d), the keys of d pairs of ints -/
def pairAt (H : Hp) (v : Value) : Int × Int := match v with
  | .ref a => (match H a with | some (.tup [.int i, .int j]) => (i, j) | _ => (0, 0))
  | _ => (0, 0)
def pKey (q : Int × Int) : List Key := [.inl q.1, .inl q.2]
def leP (p q : Int × Int) : Prop := p.1 < q.1 ∨ (p.1 = q.1 ∧ p.2 ≤ q.2)
def rSortDT : List V → Hp → VK → Prop := fun xs H Q => ∃ (d : Addr) (kvs : List (List Key × V)) (ks : List (Int × Int)), xs = [V.ref d] ∧ Rd H d (.dT kvs) ∧ kvs.map (·.1) = ks.map pKey ∧
  ∀ (bs : List Addr) (p : Addr), (bs.map fun b => pairAt H (.ref b)).Perm ks → (bs.map fun b => pairAt H (.ref b)).Pairwise leP → (∀ b ∈ bs, ∃ i j, H b = some (.tup [.int i, .int j])) → H p = none → Q (.ref p) (upd H p (.lst (bs.map V.ref)))
theorem keys_pairs {H : Hp} : ∀ {kvs : List (List Key × V)} {bs : List Addr} {ks : List (Int × Int)}, IsKeys H kvs bs → kvs.map (·.1) = ks.map pKey → (bs.map fun b => pairAt H (.ref b)) = ks ∧ ∀ b ∈ bs, ∃ i j, H b = some (.tup [.int i, .int j]) := by
  intro kvs bs ks h
  induction h generalizing ks with
  | nil =>
    intro e
    cases ks with
    | nil => exact ⟨rfl, fun b hb => by cases hb⟩
    | cons q ks => simp at e
  | @cons kv b _ _ r _ ih =>
    intro e
    cases ks with
    | nil => simp at e
    | cons q ks =>
      rw [List.map_cons, List.map_cons] at e
      injection e with e1 e2
      obtain ⟨h1, h2⟩ := ih e2
      have hb : H b = some (.tup [.int q.1, .int q.2]) := by
        have r' : H b = some (.tup (kv.1.map kV)) := r
        rw [r', e1]; rfl
      refine ⟨?_, fun c hc => ?_⟩
      · rw [List.map_cons, h1]
        have : pairAt H (.ref b) = q := by unfold pairAt; simp only [hb]
        rw [this]
      · rcases List.mem_cons.mp hc with rfl | hc
        · exact ⟨_, _, hb⟩
        · exact h2 c hc
theorem addrs_of : ∀ {out : List Value}, (∀ v ∈ out, ∃ a, v = Value.ref a) → ∃ bs : List Addr, out = bs.map Value.ref
  | [], _ => ⟨[], rfl⟩
  | v :: out, h => by
    obtain ⟨a, rfl⟩ := h v List.mem_cons_self
    obtain ⟨bs, rfl⟩ := addrs_of fun u hu => h u (List.mem_cons_of_mem _ hu)
    exact ⟨a :: bs, rfl⟩
theorem map_ref_inj : ∀ {as bs : List Addr}, as.map Value.ref = bs.map Value.ref → as = bs
  | [], [], _ => rfl
  | [], _ :: _, h => by simp at h
  | _ :: _, [], h => by simp at h
  | a :: as, b :: bs, h => by
    rw [List.map_cons, List.map_cons] at h
    injection h with h1 h2
    injection h1 with h1
    rw [h1, map_ref_inj h2]
section
variable {X : Cx}
theorem cr_sortedDT (hc : X.calm = true) : CallR X (.builtin "sorted") rSortDT := by
  intro pins s σ H xs us Q I r h
  obtain ⟨d, kvs, ks, rfl, hd, hk, q⟩ := h
  obtain ⟨u, rfl, rx⟩ := vals1 r
  obtain rfl : u = Value.ref d := rx
  obtain ⟨z, nm, es0, pr, o, es, ep, ho, hx, hdt, he, hn⟩ := (show ObjOk X.prog X.w H s.heap d (.dT kvs) from hd.ok I.hok)
  have l1 : es.size = es0.length := size_of_entries he
  have l2 : kvs.length = es0.length := Paired.length pr
  obtain ⟨hb1, hb2⟩ := keys_pairs (isKeys_of pr) hk
  refine Calls.call_function_entry PyProof.Rows.kind_sorted PyProof.Rows.plain_sorted PyProof.Rows.entry_sorted (PyProof.Rows.args_sorted1 _) ?_
  unfold Builtin.«sorted»
  refine wpAny_bind (m := checkCount "sorted" 1 1 _) (wpAny_pure (wpAny_bind (PySem.W.kdu_collect (A := X.A.in1) (kdl_raw nm hx hdt) (I.ok.hd hc) ho (by omega) fun hp tk acc kp it => ?_)))
  have ea : acc.toList = (es0.map fun x => x.2.1).map Value.ref := by
    have hl : acc.toList.length = es0.length := by rw [Array.length_toList, it.1]; exact l1
    refine List.ext_getElem? fun j => ?_
    rw [List.getElem?_map, List.getElem?_map]
    cases hj : es0[j]? with
    | none => rw [List.getElem?_eq_none (by have := List.getElem?_eq_none_iff.mp hj; omega)]; rfl
    | some x =>
      have lj : j < es0.length := (List.getElem?_eq_some_iff.mp hj).1
      have hv := List.getElem?_eq_getElem (l := acc.toList) (i := j) (by omega)
      obtain ⟨en, hen, ev⟩ := it.2 j _ (by rw [← Array.getElem?_toList]; exact hv)
      have qe := entry_at he j
      rw [hen, hj] at qe
      have e2 : en = entryOfKey (tupleKind (mixKind X.prog X.w)) x := Option.some.inj qe
      rw [hv, ev, e2]
      rfl
  generalize (es0.map fun x => x.2.1) = as at ea hb1 hb2
  have I1 : Inv X pins σ H { s with heap := hp, toks := tk } := I.kept kp
  have la : acc.toList.length ≤ sizeLine := by rw [Array.length_toList, it.1]; omega
  refine wpAny_bind (wpAny_newList ?_ la)
  have gl : (hp.push (PyProof.Rows.seqObj "list" acc.toList.toArray 0)).get? hp.objs.size = some (PyProof.Rows.seqObj "list" acc.toList.toArray 0) := Heap.get?_push_size _ rfl
  show wpAny _ _ _ _ _ { s with heap := hp.push (PyProof.Rows.seqObj "list" acc.toList.toArray 0), toks := tk }
  have pairs : ∀ v ∈ acc.toList, Srt.IsPair hp v (pairAt H v).1 (pairAt H v).2 := fun v hv => by
    rw [ea] at hv
    obtain ⟨b, hb, rfl⟩ := List.mem_map.mp hv
    obtain ⟨i, j, ht⟩ := hb2 b hb
    have ep : pairAt H (.ref b) = (i, j) := by unfold pairAt; simp only [ht]
    obtain ⟨_, its2, r2, o2, ho2, hc2, n2, hd2⟩ := I1.hok _ _ ht
    obtain ⟨u1, u2, rfl, ri, rj⟩ := vals2 r2
    obtain ⟨t1, rfl⟩ := ri
    obtain ⟨t2, rfl⟩ := rj
    rw [ep]
    exact ⟨b, o2, t1, t2, n2, rfl, ho2, hc2, hd2⟩
  refine wpAny_bind (wpAny_holding (wpAny_call_entry PyProof.Rows.slot_list_sort ⟨_, gl, rfl⟩ PyProof.Rows.entry_list_sort
    (SrtO.list_sort_ord (s := { s with heap := hp.push (PyProof.Rows.seqObj "list" acc.toList.toArray 0), toks := tk }) (SrtO.swo_lex (pairAt H)) gl la (fun h2 => SrtO.pairs_sortableO (by omega) (fun v hv => (pairs v hv).keeps fun b o e _ => Heap.get?_push_of_some _ e) fun o2 e c => ?_)
      fun out hs hb => ⟨_, rfl, ?_⟩) (PyProof.Rows.args_list_sort _)))
  · have e' : some o2 = some (PyProof.Rows.seqObj "list" acc.toList.toArray 0) := e.symm.trans gl
    cases e'
    exact absurd (Value.type.inj c) (by decide)
  · have ho3 : ∀ v ∈ out, ∃ a, v = Value.ref a := fun v hv => by
      have := hb.perm.mem_iff.mp hv
      rw [ea] at this
      obtain ⟨b, _, rfl⟩ := List.mem_map.mp this
      exact ⟨b, rfl⟩
    obtain ⟨bs, rfl⟩ := addrs_of ho3
    obtain ⟨e', he'⟩ := PyProof.Rows.sortedHeap_at (vs := acc.toList) (out := (bs.map Value.ref).toArray) gl
    have pm : (bs.map Value.ref).Perm (as.map Value.ref) := by rw [← ea]; exact hb.perm
    have pm2 : bs.Perm as := by
      have := pm.map backV
      rw [List.map_map, List.map_map] at this
      have e3 : ∀ l : List Addr, l.map (backV ∘ Value.ref) = l.map V.ref := fun l => rfl
      rw [e3, e3] at this
      have := this.map fun v : V => match v with | .ref a => a | _ => 0
      rw [List.map_map, List.map_map] at this
      have e4 : ∀ l : List Addr, l.map ((fun v : V => match v with | .ref a => a | _ => 0) ∘ V.ref) = l := fun l => List.map_id l
      rw [e4, e4] at this
      exact this
    have hlen : (bs.map V.ref).length ≤ sizeLine := by
      rw [List.length_map, pm2.length_eq]
      have := congrArg List.length ea
      rw [List.length_map] at this
      omega
    refine wpAny_pure ⟨_, rfl, .ref hp.objs.size, upd H hp.objs.size (.lst (bs.map V.ref)), I1.laid (t' := tk) (fun b u e => ?_) (Nat.le_refl _) (show ObjOk X.prog X.w _ _ _ (.lst (bs.map V.ref)) from ⟨hlen, bs.map Value.ref, e', L2.vals_refs bs, he'⟩), rfl,
      q bs _ (by rw [← hb1]; exact pm2.map _) ?_ (fun b hb' => hb2 b (pm2.mem_iff.mp hb')) (I1.hok.fresh (Nat.le_refl _))⟩
    · have lb : b < hp.objs.size := Heap.lt_size e
      rw [PyProof.Rows.sortedHeap_old (Nat.ne_of_lt lb) (by show b < (hp.push _).objs.size; rw [Heap.size_push]; exact Nat.lt_succ_of_lt lb)]
      exact Heap.get?_push_of_some _ e
    · have hs2 := (List.pairwise_map.mp hs)
      refine List.pairwise_map.mpr (hs2.imp fun {a c} h1 => ?_)
      have := SrtO.lexB_no.mp h1
      unfold leP
      omega
end
/-! over the data -/
def pairIJ (q : Int × Int) : D := .tup [.int q.1, .int q.2]
section
variable {K : PySem.W.Frag} {F H : Hp} {M : MS} {P : D → MS → Prop}
theorem HR.adopts : ∀ {bs : List Addr} {F : Hp}, HR K F H M → (∀ b ∈ bs, ∃ i j, H b = some (.tup [.int i, .int j])) → ∃ F', Sm F F' ∧ HR K F' H M ∧ Ats K F' (bs.map V.ref) ((bs.map fun b => pairAt H (.ref b)).map pairIJ)
  | [], F, hr, _ => ⟨F, Sm.refl F, hr, .nil⟩
  | b :: bs, F, hr, h => by
    obtain ⟨i, j, hb⟩ := h b List.mem_cons_self
    obtain ⟨F1, s1, hr1, a1⟩ := hr.adopt (ds := [.int i, .int j]) hb (.cons (.int i) (.cons (.int j) .nil))
    obtain ⟨F2, s2, hr2, a2⟩ := HR.adopts hr1 fun c hc => h c (List.mem_cons_of_mem _ hc)
    refine ⟨F2, s1.trans s2, hr2, ?_⟩
    have e : pairAt H (.ref b) = (i, j) := by unfold pairAt; simp only [hb]
    rw [List.map_cons, List.map_cons, List.map_cons, e]
    exact .cons (a1.mono s2) a2
theorem dc_sortDT {x : D} {es : List (List Key × D)} {ks : List (Int × Int)} (h : IsT M x es) (e : es.map (·.1) = ks.map pKey) (k : ∀ (zs : List (Int × Int)) a, zs.Perm ks → zs.Pairwise leP → P (.loc a) ((a, .lst (zs.map pairIJ)) :: M)) : DC K rSortDT [x] M P := fun F H vs Q hr b0 q => by
  obtain ⟨v, rfl, a⟩ := b0.one_inv
  obtain ⟨p, kvs, rfl, h1, h2⟩ := h.raw hr a
  have e2 : kvs.map (·.1) = ks.map pKey := by
    rw [← e]
    clear h1 e h
    induction h2 with
    | nil => rfl
    | cons r _ ih => rw [List.map_cons, List.map_cons, r.1, ih]
  refine ⟨p, kvs, ks, rfl, h1, e2, fun bs b hp hs ht hb => ?_⟩
  obtain ⟨F1, s1, hr1, a1⟩ := hr.adopts ht
  exact (q.mono s1).new hr1 hb (o := .lst ((bs.map fun b => pairAt H (.ref b)).map pairIJ)) (fun H' e => ⟨_, e, a1⟩) (k _ b hp hs)
end

/-! ### things of any kind: what repr shows of them, among texts -/
mutual
/-- a thing, its data, no less than the signs of its repr -/
inductive Th : Nat → D → PyData → Nat → Prop
  | non {n : Nat} : Th n .non .none 4
  | bl {n : Nat} (b : Bool) : Th n (.bl b) (.bool b) 5
  | int {n : Nat} {i : Int} {w : Nat} : i.natAbs.log2 < 1920 → (Str.ofString (toString i)).length ≤ w → Th n (.int i) (.int i) w
  | str {n : Nat} {x : Str} : (∀ c ∈ x.cps.toList, c < 16 ^ 8) → Th n (.str x) (.str x) (10 * x.length + 2)
  | lst {n : Nat} {ds : List D} {ps : List PyData} {w : Nat} : Ths n ds ps w → Th (n + 1) (.lst ds) (.list ps) (w + 3)
  | tup {n : Nat} {ds : List D} {ps : List PyData} {w : Nat} : Ths n ds ps w → Th (n + 1) (.tup ds) (.tuple ps) (w + 3)
  | dct {n : Nat} : Th (n + 1) (.dct []) (.dict []) 4
inductive Ths : Nat → List D → List PyData → Nat → Prop
  | nil {n : Nat} : Ths n [] [] 0
  | cons {n : Nat} {d : D} {ds : List D} {p : PyData} {ps : List PyData} {w ws : Nat} : Th n d p w → Ths n ds ps ws → Ths n (d :: ds) (p :: ps) (w + 2 + ws)
end
section
variable {K : PySem.W.Frag} {F H : Hp}
mutual
theorem Th.is : ∀ {n : Nat} {d : D} {p : PyData} {w : Nat}, Th n d p w → ∀ {v : V}, At K F v d → Is K F v p
  | _, _, _, _, .non, _, a => by cases a; exact .non
  | _, _, _, _, .bl b, _, a => by cases a; exact .bl b
  | _, _, _, _, .int _ _, _, a => by cases a; exact .int _
  | _, _, _, _, .str _, _, a => by cases a; exact .str _
  | _, _, _, _, .lst t, _, a => by cases a with | lst h1 h2 => exact .lst (.inl (.inl h1)) (Ths.is t h2)
  | _, _, _, _, .tup t, _, a => by cases a with | tup h1 h2 => exact .tup (.inl (.inl h1)) (Ths.is t h2)
  | _, _, _, _, .dct, _, a => by cases a with | dct h1 h2 => cases h2; exact .dct h1 .nil
theorem Ths.is : ∀ {n : Nat} {ds : List D} {ps : List PyData} {w : Nat}, Ths n ds ps w → ∀ {vs : List V}, Ats K F vs ds → IsAll K F vs ps
  | _, _, _, _, .nil, _, a => by cases a; exact .nil
  | _, _, _, _, .cons h t, _, a => by cases a with | cons a1 a2 => exact .cons (Th.is h a1) (Ths.is t a2)
end
mutual
theorem Th.ok : ∀ {n : Nat} {d : D} {p : PyData} {w : Nat}, Th n d p w → p.showable = true ∧ p.depth ≤ n ∧ p.shown.length ≤ w
  | _, _, _, _, .non => ⟨rfl, Nat.zero_le _, by decide⟩
  | _, _, _, _, .bl b => ⟨rfl, Nat.zero_le _, by cases b <;> decide⟩
  | _, _, _, _, .int h1 h2 => ⟨by simp only [PyData.showable]; exact decide_eq_true h1, Nat.zero_le _, by simp only [PyData.shown]; exact h2⟩
  | _, _, _, _, .str h => ⟨rfl, Nat.zero_le _, by simp only [PyData.shown]; exact StrLaws.reprText_len _ h⟩
  | _, _, _, _, .lst t => by
    obtain ⟨h1, h2, h3⟩ := Ths.ok t
    refine ⟨by simp only [PyData.showable]; exact h1, by simp only [PyData.depth]; omega, ?_⟩
    simp only [PyData.shown]
    refine Nat.le_trans (listText_len_le _) ?_
    omega
  | _, _, _, _, .tup t => by
    obtain ⟨h1, h2, h3⟩ := Ths.ok t
    refine ⟨by simp only [PyData.showable]; exact h1, by simp only [PyData.depth]; omega, ?_⟩
    simp only [PyData.shown]
    refine Nat.le_trans (tupleText_len_le _) ?_
    omega
  | _, _, _, _, .dct => ⟨rfl, Nat.succ_le_succ (Nat.zero_le _), by decide +kernel⟩
theorem Ths.ok : ∀ {n : Nat} {ds : List D} {ps : List PyData} {w : Nat}, Ths n ds ps w → PyData.showableAll ps = true ∧ PyData.depthAll ps ≤ n ∧ ((PyData.shownAll ps).map (·.length)).sum + 2 * (PyData.shownAll ps).length ≤ w
  | _, _, _, _, .nil => ⟨rfl, Nat.zero_le _, by simp [PyData.shownAll]⟩
  | _, _, _, _, .cons h t => by
    obtain ⟨h1, h2, h3⟩ := Th.ok h
    obtain ⟨t1, t2, t3⟩ := Ths.ok t
    refine ⟨by simp only [PyData.showableAll, h1, t1, Bool.and_self], by simp only [PyData.depthAll]; exact Nat.max_le.mpr ⟨h2, t2⟩, ?_⟩
    simp only [PyData.shownAll, List.map_cons, List.sum_cons, List.length_cons]
    omega
end
theorem Th.ty {n : Nat} {d : D} {p : PyData} {w : Nat} (h : Th n d p w) : ∃ q, ∀ M, TyD M d q := by
  cases h with
  | non => exact ⟨_, fun _ => .non⟩
  | bl b => exact ⟨_, fun _ => .bl b⟩
  | int => exact ⟨_, fun _ => .int _⟩
  | str => exact ⟨_, fun _ => .str _⟩
  | lst => exact ⟨_, fun _ => .lst .v⟩
  | tup => exact ⟨_, fun _ => .tup _⟩
  | dct => exact ⟨_, fun _ => .dct .v⟩
mutual
theorem Th.up {n m : Nat} (q : n ≤ m) : ∀ {d : D} {p : PyData} {w : Nat}, Th n d p w → Th m d p w
  | _, _, _, .non => .non
  | _, _, _, .bl b => .bl b
  | _, _, _, .int h1 h2 => .int h1 h2
  | _, _, _, .str h => .str h
  | _, _, _, .lst h => by obtain ⟨k, rfl⟩ : ∃ k, m = k + 1 := ⟨m - 1, by omega⟩; exact .lst (Ths.up (by omega) h)
  | _, _, _, .tup h => by obtain ⟨k, rfl⟩ : ∃ k, m = k + 1 := ⟨m - 1, by omega⟩; exact .tup (Ths.up (by omega) h)
  | _, _, _, .dct => by obtain ⟨k, rfl⟩ : ∃ k, m = k + 1 := ⟨m - 1, by omega⟩; exact .dct
theorem Ths.up {n m : Nat} (q : n ≤ m) : ∀ {d : List D} {p : List PyData} {w : Nat}, Ths n d p w → Ths m d p w
  | _, _, _, .nil => .nil
  | _, _, _, .cons h t => .cons (Th.up q h) (Ths.up q t)
end
end
def txtD : D → Option Str
  | .str z => some z | _ => none
section
variable {K : PySem.W.Frag} {W : WX} {X : XP} {F H : Hp} {env : DEnv} {M : MS} {P : D → MS → Prop}
theorem Th.odd {n : Nat} {d : D} {p : PyData} {w : Nat} (h : Th n d p w) {v : V} (a : At K F v d) (s : Same F H) : OddV K H v (txtD d) := by
  cases h with
  | non => cases a; exact .non
  | bl b => cases a; exact .bl b
  | int => cases a; exact .int _
  | str => cases a; exact .str _
  | lst => cases a with | lst h1 h2 => exact .lst (.inl (.inl (s _ _ h1)))
  | tup => cases a with | tup h1 h2 => exact .tup (.inl (.inl (s _ _ h1)))
  | dct => cases a with | dct h1 h2 => exact .dct (s.rd h1)
/-- a tuple of texts -/
inductive IsTs : D → List Str → Prop
  | t {ss : List Str} : IsTs (.tup (ss.map D.str)) ss
  | k {ss : List Str} : IsTs (.ktp ss) ss
theorem IsTs.raw {d : D} {ss : List Str} (t : IsTs d ss) {v : V} (a : At K F v d) (s : Same F H) : ∃ p, v = .ref p ∧ SqT K H p (ss.map V.str) := by
  cases t with
  | t => cases a with | tup h1 h2 => rw [h2.strs] at h1; exact ⟨_, rfl, .inl (.inl (s _ _ h1))⟩
  | k => cases a with | ktp h => exact ⟨_, rfl, s.tup h⟩
theorem dop_among {n : Nat} {d y : D} {p : PyData} {w : Nat} {ss : List Str} (h : Th n d p w) (t : IsTs y ss) (k : P (.bl (amongS (txtD d) ss)) M) : DOp K (rAmong K false) d y M P := fun F H v1 v2 Q hr a1 a2 q => by
  obtain ⟨b, rfl, hs⟩ := t.raw a2 hr.s
  exact ⟨b, ss, _, rfl, hs, h.odd a1 hr.s, q.now hr (.bl _) k⟩
theorem dop_notAmong {n : Nat} {d y : D} {p : PyData} {w : Nat} {ss : List Str} (h : Th n d p w) (t : IsTs y ss) (k : P (.bl (!amongS (txtD d) ss)) M) : DOp K (rAmong K true) d y M P := fun F H v1 v2 Q hr a1 a2 q => by
  obtain ⟨b, rfl, hs⟩ := t.raw a2 hr.s
  exact ⟨b, ss, _, rfl, hs, h.odd a1 hr.s, q.now hr (.bl _) k⟩
/-- repr of a tuple of things -/
theorem dc_reprTh {n : Nat} {ds : List D} {ps : List PyData} {w : Nat} (h : Ths n ds ps w) (hn : n ≤ 40) (hw : w + 3 ≤ sizeLine) (k : P (.str (PyData.tuple ps).shown) M) : DC K (rReprA K) [.tup ds] M P := fun F H vs Q hr b0 q => by
  obtain ⟨v, rfl, a⟩ := b0.one_inv
  obtain ⟨h1, h2, h3⟩ := (Th.tup h).ok
  cases a with
  | @tup t xs _ e1 e2 => exact ⟨_, rfl, .inr (.inr ⟨t, xs, ps, rfl, .inl (.inl (hr.s _ _ e1)), Ths.is h (e2.mono (Sm.of hr.s)), h1, Nat.le_trans h3 hw, by omega, q.now hr (.str _) k⟩)⟩
end
/-- a tuple of texts of the top -/
def TupK (K : PySem.W.Frag) (a : Addr) (ss : List Str) : Prop := ∀ H, SqT K H a (ss.map V.str)
def textsB : List Value → List Str → Bool
  | [], [] => true
  | .str x _ :: vs, s :: ss => decide (x = s) && textsB vs ss
  | _, _ => false
def tupObj (o : Obj) (ss : List Str) : Bool := match o with
  | ⟨.type "tuple", _, .seq its _, _⟩ => textsB its.toList ss && decide (its.size ≤ 1000)
  | _ => false
theorem textsB_ok : ∀ {vs : List Value} {ss : List Str}, textsB vs ss = true → Vals (ss.map V.str) vs
  | [], [], _ => .nil
  | [], _ :: _, h => by cases h
  | v :: vs, [], h => by cases v <;> cases h
  | v :: vs, s :: ss, h => by
    cases v with
    | str x t =>
      have h : (decide (x = s) && textsB vs ss) = true := h
      rw [Bool.and_eq_true] at h
      obtain rfl := of_decide_eq_true h.1
      exact .cons ⟨t, rfl⟩ (textsB_ok h.2)
    | _ => cases h
theorem tupK_of {K : PySem.W.Frag} {a : Addr} {o : Obj} {ss : List Str} (hl : K.lookup a = some o) (hb : tupObj o ss = true) : TupK K a ss := fun H => by
  unfold tupObj at hb
  split at hb
  · rename_i dd its n sl
    rw [Bool.and_eq_true] at hb
    exact .inr ⟨_, its, n, hl, rfl, rfl, Nat.le_trans (of_decide_eq_true hb.2) (by decide), textsB_ok hb.1⟩
  · cases hb
def tKtp (a : Addr) : TE := tC (.ref a)
theorem pe_globT {X : Cx} {x : Str} {a : Addr} {pos : Pos} (hg : Gl X x) (hm : X.mg x = some (.ref a)) (hd : (x == ("__debug__" : Str)) = false := by decide) : PE X (.Name x pos) (tKtp a) := pe_globR hg hm hd
theorem de_ktp {K : PySem.W.Frag} {W : WX} {X : XP} {env : DEnv} {M : MS} {P : D → MS → Prop} {a : Addr} {ss : List Str} (h : TupK K a ss) (k : P (.ktp ss) M) : DE K W X (tKtp a) env M P := fun F σ H Q he hr xl q => q.now hr (.ktp (h F)) k
theorem dm_upper {K : PySem.W.Frag} {M : MS} {P : D → MS → Prop} {x : Str} (h : x.length ≤ 5592405) (k : P (.str (Txt.upper x)) M) : DM K (fun x xs H Q => ∃ a, x = .str a ∧ xs = [] ∧ a.length ≤ 5592405 ∧ Q (.str (Txt.upper a)) H) (.str x) [] M P := fun F H v vs Q hr a b q => by
  cases b
  exact ⟨x, a.str_inv, rfl, h, q.now hr (.str _) k⟩
/-- i += e, of ints -/
theorem ds_aug {K : PySem.W.Frag} {W : WX} {X : XP} {env : DEnv} {M : MS} {i : Nat} {te : TE} {f : Int → Int → Int} {De : DEnds} {a : Int} (h0 : env[i]? = some (some (.int a))) (h : DE K W X te env M fun d M1 => ∃ b, d = .int b ∧ De.nx (env.set i (some (.int (f a b)))) M1) : DS K W X (tAug i te (ipI f)) De env M := fun F σ H Ds he hr xl c => by
  obtain ⟨v, h1, h2⟩ := he.get h0
  refine ⟨v, h1, h F σ H _ he hr xl fun F1 v1 d1 H1 M1 s1 hr1 a1 ⟨b, e, p⟩ => ?_⟩
  subst e
  exact ⟨a, b, h2.int_inv, a1.int_inv, c.nx F1 _ _ H1 M1 s1 ((he.mono s1).set (.int _) i) hr1 p⟩
/-! ranges -/
theorem fm_congrD {α β : Type} {f g : α → Option β} : ∀ {l : List α}, (∀ x ∈ l, f x = g x) → l.filterMap f = l.filterMap g
  | [], _ => rfl
  | x :: l, h => by
    rw [List.filterMap_cons, List.filterMap_cons, h x List.mem_cons_self, fm_congrD fun y hy => h y (List.mem_cons_of_mem _ hy)]
theorem rngD_get {lo : Int} {n i : Nat} {x : D} (h : (rngD lo n)[i]? = some x) : i < n ∧ x = .int (lo + (i : Nat)) := by
  unfold rngD at h
  rw [List.getElem?_map] at h
  cases e : (List.range n)[i]? with
  | none => rw [e] at h; cases h
  | some j =>
    rw [e] at h
    obtain ⟨h1, h2⟩ := List.getElem?_eq_some_iff.mp e
    rw [List.length_range] at h1
    rw [List.getElem_range] at h2
    subst h2
    exact ⟨h1, (Option.some.inj h).symm⟩
theorem rngD_len (lo : Int) (n : Nat) : (rngD lo n).length = n := by unfold rngD; rw [List.length_map, List.length_range]
theorem cutD_take (xs : List D) (i : Nat) : cutD xs none (some (i : Int)) = xs.take i := by
  unfold cutD
  rw [HT.sIx_none, HT.sIx_nat, List.drop_zero, Nat.sub_zero]
  by_cases h : i ≤ xs.length
  · rw [Nat.min_eq_left h]
  · rw [Nat.min_eq_right (by omega), List.take_of_length_le (Nat.le_refl _), List.take_of_length_le (by omega)]
theorem cutD_drop (xs : List D) (i : Nat) : cutD xs (some (i : Int)) none = xs.drop i := by
  unfold cutD
  rw [HT.sIx_none, HT.sIx_nat]
  by_cases h : i ≤ xs.length
  · rw [Nat.min_eq_left h, List.take_of_length_le (by rw [List.length_drop]; exact Nat.le_refl _)]
  · rw [Nat.min_eq_right (by omega), List.drop_of_length_le (Nat.le_refl _), List.drop_of_length_le (by omega), List.take_nil]

/-! ### list(text), x in a list of plain data, its place -/
def rListS : List V → Hp → VK → Prop := fun xs H Q => ∃ z : Str, xs = [.str z] ∧ z.length ≤ sizeLine ∧ ∀ q, H q = none → Q (.ref q) (upd H q (.lst (z.cps.toList.map fun c => V.str ⟨#[c]⟩)))
theorem call_list_strK {X : Cx} (hc : X.calm = true) : CallR X (.type "list") rListS := by
  intro pins s σ H xs us Q I r h
  obtain ⟨z, rfl, hz, q⟩ := h
  obtain ⟨u, rfl, rx⟩ := vals1 r
  obtain ⟨t, rfl⟩ := rx
  refine PySem.call_list_str (I.ok.hd hc) z t (fun hp tk acc c kp gl it => ?_) hz
  have ll : (z.cps.toList.map fun c => V.str ⟨#[c]⟩).length = acc.size := by rw [List.length_map, Array.length_toList, it.1]
  have rv : Vals (z.cps.toList.map fun c => V.str ⟨#[c]⟩) acc.toList := vals_of_at (by rw [ll, Array.length_toList]) fun j x w h1 h2 => by
    rw [List.getElem?_map] at h1
    obtain ⟨c, hc', rfl⟩ := Option.map_eq_some_iff.mp h1
    obtain ⟨c2, t2, e1, rfl⟩ := it.2 j w (by rw [← Array.getElem?_toList]; exact h2)
    rw [Array.getElem?_toList] at hc'
    rw [hc'] at e1
    cases e1
    exact ⟨_, rfl⟩
  exact ⟨.ref _, upd H s.heap.objs.size (.lst (z.cps.toList.map fun c => V.str ⟨#[c]⟩)), I.laid (t' := tk) kp (Nat.le_refl _) (show ObjOk X.prog X.w _ _ _ (.lst (z.cps.toList.map fun c => V.str ⟨#[c]⟩)) from ⟨by rw [List.length_map, Array.length_toList]; exact hz, acc.toList, c, rv, by rw [Array.toArray_toList]; exact gl⟩), rfl, q _ (I.hok.fresh (Nat.le_refl _))⟩
theorem Room.units65 {k : Nat} {A : Around} (r : Room k A) : A.units + 65 < cLine := by have := r.un; omega
theorem op_inDK {X : Cx} {K : PySem.W.Frag} (h : X.K = K) (hu : X.A.units + 65 < cLine) : OpR X (compareOp .In) (rInD K) := by subst h; exact op_inD hu
theorem op_notInDK {X : Cx} {K : PySem.W.Frag} (h : X.K = K) (hu : X.A.units + 65 < cLine) : OpR X (compareOp .NotIn) (rNotInD K) := by subst h; exact op_notInD hu
theorem mt_indexDK {X : Cx} {K : PySem.W.Frag} (h : X.K = K) (hu : X.A.units + 65 < cLine) : MtR X "list.index" (rIndexD K) := by subst h; exact mt_indexD hu
section
variable {K : PySem.W.Frag} {F H : Hp} {M : MS} {P : D → MS → Prop}
theorem At.dpD {n : Nat} {v : V} {d : D} (h : At K F v d) (ho : okD n d = true) (s : Sm F H) : Dp K H v (pyD d) := (h.isH s n ho).dp (noDict_of _ (okD_py d n ho).cl)
theorem IsL.dpD {n : Nat} {x : D} {ds : List D} {v : V} (h : IsL M x ds) (ho : ds.all (okD n) = true) (hr : HR K F H M) (a : At K F v x) : Dp K H v (.list (pyDs ds)) := (h.is ho hr a).dp (noDict_of _ (okDs_py ds n ho).lst.cl)
theorem shapedD {n : Nat} {d : D} (ho : okD n d = true) (hn : n ≤ 20) : SeqAt.shaped (pyD d) = true := by
  have h := okD_py d n ho
  unfold SeqAt.shaped
  rw [Bool.and_eq_true]
  exact ⟨h.cl, decide_eq_true (by have := h.dp; omega)⟩
theorem shapedL {n : Nat} {ds : List D} (ho : ds.all (okD n) = true) (hn : n ≤ 20) : SeqAt.shaped (.list (pyDs ds)) = true := by
  have h := (okDs_py ds n ho).lst
  unfold SeqAt.shaped
  rw [Bool.and_eq_true]
  exact ⟨h.cl, decide_eq_true (by have := h.dp; omega)⟩
theorem dop_inD {n : Nat} {x y : D} {ds : List D} (hy : IsL M y ds) (ho : okD n x = true) (ho2 : ds.all (okD n) = true) (hn : n ≤ 20) (k : P (.bl ((pyDs ds).any fun z => PyData.eqv z (pyD x))) M) : DOp K (rInD K) x y M P := fun F H v1 v2 Q hr a1 a2 q =>
  ⟨_, _, a1.dpD ho (Sm.of hr.s), hy.dpD ho2 hr a2, shapedD ho hn, shapedL ho2 hn, q.now hr (.bl _) k⟩
theorem dop_notInD {n : Nat} {x y : D} {ds : List D} (hy : IsL M y ds) (ho : okD n x = true) (ho2 : ds.all (okD n) = true) (hn : n ≤ 20) (k : P (.bl (!(pyDs ds).any fun z => PyData.eqv z (pyD x))) M) : DOp K (rNotInD K) x y M P := fun F H v1 v2 Q hr a1 a2 q =>
  ⟨_, _, a1.dpD ho (Sm.of hr.s), hy.dpD ho2 hr a2, shapedD ho hn, shapedL ho2 hn, q.now hr (.bl _) k⟩
theorem dm_indexD {n j : Nat} {x y z : D} {ds : List D} (hy : IsL M y ds) (ho : okD n x = true) (ho2 : ds.all (okD n) = true) (hn : n ≤ 20) (hj : ds[j]? = some z) (he : PyData.eqv (pyD z) (pyD x) = true) (hb : ∀ m z', m < j → ds[m]? = some z' → PyData.eqv (pyD z') (pyD x) = false)
    (k : P (.int (j : Nat)) M) : DM K (rIndexD K) y [x] M P := fun F H v vs Q hr a c0 q => by
  obtain ⟨u, rfl, au⟩ := c0.one_inv
  have hd := hy.dpD ho2 hr a
  obtain ⟨p, xs, rfl, _⟩ := hy.raw hr a
  refine ⟨p, u, pyD x, pyDs ds, j, pyD z, rfl, rfl, hd, au.dpD ho (Sm.of hr.s), shapedL ho2 hn, shapedD ho hn, by rw [pyDs_map, List.getElem?_map, hj]; rfl, he, fun m z' hm hz => ?_, q.now hr (.int _) k⟩
  rw [pyDs_map, List.getElem?_map] at hz
  obtain ⟨w, hw, rfl⟩ := Option.map_eq_some_iff.mp hz
  exact hb m w hm hw
theorem dc_listS {z : Str} (h : z.length ≤ sizeLine) (k : ∀ a, P (.loc a) ((a, .lst (signD z)) :: M)) : DC K rListS [.str z] M P := fun F H vs Q hr b0 q => by
  obtain ⟨v, rfl, a⟩ := b0.one_inv
  obtain rfl := a.str_inv
  refine ⟨z, rfl, h, fun b hb => q.new hr hb (o := .lst (signD z)) (fun H' e => ⟨_, e, ?_⟩) (k b)⟩
  unfold signD
  generalize z.cps.toList = l
  induction l with
  | nil => exact .nil
  | cons c l ih => exact .cons (.str _) ih
end

def top (i : Nat) : Stmt := PySem.Challenge.pw_farmarks_k87_whole_kinds_tell.main.body.getD i (.Pass ⟨0, 0, 0, 0⟩)
abbrev s_NoNumber___init__ : Stmt := (inClass (top 11) 0)
abbrev slots_NoNumber___init__ : List Str := ["self", "found"]
theorem sc_NoNumber___init__ : FnScope slots_NoNumber___init__ ["self", "found"] (defScope s_NoNumber___init__) := ⟨rfl, rfl, rfl, by decide +kernel, rfl, by decide +kernel, by decide +kernel⟩
abbrev s_NoSigns___init__ : Stmt := (inClass (top 12) 0)
abbrev slots_NoSigns___init__ : List Str := ["self", "found"]
theorem sc_NoSigns___init__ : FnScope slots_NoSigns___init__ ["self", "found"] (defScope s_NoSigns___init__) := ⟨rfl, rfl, rfl, by decide +kernel, rfl, by decide +kernel, by decide +kernel⟩
abbrev s_NoKind___init__ : Stmt := (inClass (top 13) 0)
abbrev slots_NoKind___init__ : List Str := ["self", "found"]
theorem sc_NoKind___init__ : FnScope slots_NoKind___init__ ["self", "found"] (defScope s_NoKind___init__) := ⟨rfl, rfl, rfl, by decide +kernel, rfl, by decide +kernel, by decide +kernel⟩
abbrev s_is_whole : Stmt := (top 17)
abbrev slots_is_whole : List Str := ["thing", "low", "high"]
theorem sc_is_whole : FnScope slots_is_whole ["thing", "low", "high"] (defScope s_is_whole) := ⟨rfl, rfl, rfl, by decide +kernel, rfl, by decide +kernel, by decide +kernel⟩
abbrev s_is_name : Stmt := (top 18)
abbrev slots_is_name : List Str := ["thing", "sign"]
theorem sc_is_name : FnScope slots_is_name ["thing"] (defScope s_is_name) := ⟨rfl, rfl, rfl, by decide +kernel, rfl, by decide +kernel, by decide +kernel⟩
abbrev s_is_signs : Stmt := (top 22)
abbrev slots_is_signs : List Str := ["thing", "sign"]
theorem sc_is_signs : FnScope slots_is_signs ["thing"] (defScope s_is_signs) := ⟨rfl, rfl, rfl, by decide +kernel, rfl, by decide +kernel, by decide +kernel⟩
abbrev s_need_signs : Stmt := (top 23)
abbrev slots_need_signs : List Str := ["thing"]
theorem sc_need_signs : FnScope slots_need_signs ["thing"] (defScope s_need_signs) := ⟨rfl, rfl, rfl, by decide +kernel, rfl, by decide +kernel, by decide +kernel⟩
abbrev s_need_number : Stmt := (top 24)
abbrev slots_need_number : List Str := ["thing", "low"]
theorem sc_need_number : FnScope slots_need_number ["thing", "low"] (defScope s_need_number) := ⟨rfl, rfl, rfl, by decide +kernel, rfl, by decide +kernel, by decide +kernel⟩
abbrev s_row_number : Stmt := (top 25)
abbrev slots_row_number : List Str := ["signs", "number", "sign"]
theorem sc_row_number : FnScope slots_row_number ["signs"] (defScope s_row_number) := ⟨rfl, rfl, rfl, by decide +kernel, rfl, by decide +kernel, by decide +kernel⟩
abbrev s_row_by : Stmt := (top 26)
abbrev slots_row_by : List Str := ["number", "signs", "digit"]
theorem sc_row_by : FnScope slots_row_by ["number"] (defScope s_row_by) := ⟨rfl, rfl, rfl, by decide +kernel, rfl, by decide +kernel, by decide +kernel⟩
abbrev s_spots_of : Stmt := (top 31)
abbrev slots_spots_of : List Str := ["places", "spots", "place"]
theorem sc_spots_of : FnScope slots_spots_of ["places"] (defScope s_spots_of) := ⟨rfl, rfl, rfl, by decide +kernel, rfl, by decide +kernel, by decide +kernel⟩
abbrev s_spot_of : Stmt := (top 32)
abbrev slots_spot_of : List Str := ["spots", "place"]
theorem sc_spot_of : FnScope slots_spot_of ["spots", "place"] (defScope s_spot_of) := ⟨rfl, rfl, rfl, by decide +kernel, rfl, by decide +kernel, by decide +kernel⟩
abbrev s_pair_of : Stmt := (top 33)
abbrev slots_pair_of : List Str := ["here", "there"]
theorem sc_pair_of : FnScope slots_pair_of ["here", "there"] (defScope s_pair_of) := ⟨rfl, rfl, rfl, by decide +kernel, rfl, by decide +kernel, by decide +kernel⟩
abbrev s_lengths_of : Stmt := (top 34)
abbrev slots_lengths_of : List Str := ["spots", "ties", "lengths", "tie", "pair"]
theorem sc_lengths_of : FnScope slots_lengths_of ["spots", "ties"] (defScope s_lengths_of) := ⟨rfl, rfl, rfl, by decide +kernel, rfl, by decide +kernel, by decide +kernel⟩
abbrev s_Web___init__ : Stmt := (inClass (top 35) 0)
abbrev slots_Web___init__ : List Str := ["self", "places", "ties"]
theorem sc_Web___init__ : FnScope slots_Web___init__ ["self", "places", "ties"] (defScope s_Web___init__) := ⟨rfl, rfl, rfl, by decide +kernel, rfl, by decide +kernel, by decide +kernel⟩
abbrev s_Web_places : Stmt := (inClass (top 35) 1)
abbrev slots_Web_places : List Str := ["self"]
theorem sc_Web_places : FnScope slots_Web_places ["self"] (defScope s_Web_places) := ⟨rfl, rfl, rfl, by decide +kernel, rfl, by decide +kernel, by decide +kernel⟩
abbrev s_Web_ties : Stmt := (inClass (top 35) 3)
abbrev slots_Web_ties : List Str := ["self", "one", "other"]
theorem sc_Web_ties : FnScope slots_Web_ties ["self"] (defScope s_Web_ties) := ⟨rfl, rfl, rfl, by decide +kernel, rfl, by decide +kernel, by decide +kernel⟩
abbrev s_Web_number : Stmt := (inClass (top 35) 4)
abbrev slots_Web_number : List Str := ["self", "place"]
theorem sc_Web_number : FnScope slots_Web_number ["self", "place"] (defScope s_Web_number) := ⟨rfl, rfl, rfl, by decide +kernel, rfl, by decide +kernel, by decide +kernel⟩
abbrev s_Web_beside : Stmt := (inClass (top 35) 6)
abbrev slots_Web_beside : List Str := ["self", "place", "here", "found", "there", "name"]
theorem sc_Web_beside : FnScope slots_Web_beside ["self", "place"] (defScope s_Web_beside) := ⟨rfl, rfl, rfl, by decide +kernel, rfl, by decide +kernel, by decide +kernel⟩
abbrev s_need_kind : Stmt := (top 41)
abbrev slots_need_kind : List Str := ["word", "many", "most", "least"]
theorem sc_need_kind : FnScope slots_need_kind ["word", "many", "most"] (defScope s_need_kind) := ⟨rfl, rfl, rfl, by decide +kernel, rfl, by decide +kernel, by decide +kernel⟩
abbrev s_rows_for_pairs : Stmt := (top 42)
abbrev slots_rows_for_pairs : List Str := ["many", "found"]
theorem sc_rows_for_pairs : FnScope slots_rows_for_pairs ["many"] (defScope s_rows_for_pairs) := ⟨rfl, rfl, rfl, by decide +kernel, rfl, by decide +kernel, by decide +kernel⟩
abbrev s_why_many : Stmt := (top 43)
abbrev slots_why_many : List Str := ["word", "many"]
theorem sc_why_many : FnScope slots_why_many ["word", "many"] (defScope s_why_many) := ⟨rfl, rfl, rfl, by decide +kernel, rfl, by decide +kernel, by decide +kernel⟩
abbrev s_kind_rows : Stmt := (top 44)
abbrev slots_kind_rows : List Str := ["word", "many", "found", "other", "number", "one"]
theorem sc_kind_rows : FnScope slots_kind_rows ["word", "many"] (defScope s_kind_rows) := ⟨rfl, rfl, rfl, by decide +kernel, rfl, by decide +kernel, by decide +kernel⟩
abbrev s_number_of_row : Stmt := (top 45)
abbrev slots_number_of_row : List Str := ["thing", "least"]
theorem sc_number_of_row : FnScope slots_number_of_row ["thing", "least"] (defScope s_number_of_row) := ⟨rfl, rfl, rfl, by decide +kernel, rfl, by decide +kernel, by decide +kernel⟩
abbrev s_pair_far : Stmt := (top 46)
abbrev slots_pair_far : List Str := ["many", "low", "high", "length"]
theorem sc_pair_far : FnScope slots_pair_far ["many", "low", "high"] (defScope s_pair_far) := ⟨rfl, rfl, rfl, by decide +kernel, rfl, by decide +kernel, by decide +kernel⟩
abbrev s_kind_far : Stmt := (top 47)
abbrev slots_kind_far : List Str := ["word", "many", "one", "other", "least", "here", "there", "apart"]
theorem sc_kind_far : FnScope slots_kind_far ["word", "many", "one", "other"] (defScope s_kind_far) := ⟨rfl, rfl, rfl, by decide +kernel, rfl, by decide +kernel, by decide +kernel⟩
abbrev s_kind_web : Stmt := (top 48)
abbrev slots_kind_web : List Str := ["word", "many", "names", "ties", "at"]
theorem sc_kind_web : FnScope slots_kind_web ["word", "many"] (defScope s_kind_web) := ⟨rfl, rfl, rfl, by decide +kernel, rfl, by decide +kernel, by decide +kernel⟩
abbrev s_need_place : Stmt := (top 50)
abbrev slots_need_place : List Str := ["web", "thing"]
theorem sc_need_place : FnScope slots_need_place ["web", "thing"] (defScope s_need_place) := ⟨rfl, rfl, rfl, by decide +kernel, rfl, by decide +kernel, by decide +kernel⟩
abbrev s_nearest_of : Stmt := (top 51)
abbrev slots_nearest_of : List Str := ["reached", "done", "found", "place"]
theorem sc_nearest_of : FnScope slots_nearest_of ["reached", "done"] (defScope s_nearest_of) := ⟨rfl, rfl, rfl, by decide +kernel, rfl, by decide +kernel, by decide +kernel⟩
abbrev s_reached_from : Stmt := (top 52)
abbrev slots_reached_from : List Str := ["web", "place", "reached", "done", "here", "beyond", "length", "number"]
theorem sc_reached_from : FnScope slots_reached_from ["web", "place"] (defScope s_reached_from) := ⟨rfl, rfl, rfl, by decide +kernel, rfl, by decide +kernel, by decide +kernel⟩
abbrev s_far : Stmt := (top 53)
abbrev slots_far : List Str := ["web", "one", "other"]
theorem sc_far : FnScope slots_far ["web", "one", "other"] (defScope s_far) := ⟨rfl, rfl, rfl, by decide +kernel, rfl, by decide +kernel, by decide +kernel⟩
abbrev s_w_cell : Stmt := (top 55)
abbrev slots_w_cell : List Str := ["_law_script", "_law_k"]
theorem sc_w_cell : FnScope slots_w_cell ["_law_script", "_law_k"] (defScope s_w_cell) := ⟨rfl, rfl, rfl, by decide +kernel, rfl, by decide +kernel, by decide +kernel⟩
abbrev s_w_box : Stmt := (top 56)
abbrev slots_w_box : List Str := ["_law_cell_here"]
theorem sc_w_box : FnScope slots_w_box ["_law_cell_here"] (defScope s_w_box) := ⟨rfl, rfl, rfl, by decide +kernel, rfl, by decide +kernel, by decide +kernel⟩
abbrev s_w_take : Stmt := (top 57)
abbrev slots_w_take : List Str := ["_law_box_here", "_law_many_here", "_law_seed", "_law_number", "_law_digit"]
theorem sc_w_take : FnScope slots_w_take ["_law_box_here", "_law_many_here"] (defScope s_w_take) := ⟨rfl, rfl, rfl, by decide +kernel, rfl, by decide +kernel, by decide +kernel⟩
abbrev s_w_signs : Stmt := (top 58)
abbrev slots_w_signs : List Str := ["_law_number", "_law_found"]
theorem sc_w_signs : FnScope slots_w_signs ["_law_number"] (defScope s_w_signs) := ⟨rfl, rfl, rfl, by decide +kernel, rfl, by decide +kernel, by decide +kernel⟩
abbrev s_w_pairs : Stmt := (top 60)
abbrev slots_w_pairs : List Str := ["_law_many_here", "_law_found", "_law_high", "_law_low"]
theorem sc_w_pairs : FnScope slots_w_pairs ["_law_many_here"] (defScope s_w_pairs) := ⟨rfl, rfl, rfl, by decide +kernel, rfl, by decide +kernel, by decide +kernel⟩
abbrev s_w_many : Stmt := (top 61)
abbrev slots_w_many : List Str := ["_law_box_here", "_law_word", "_law_low", "_law_way"]
theorem sc_w_many : FnScope slots_w_many ["_law_box_here", "_law_word"] (defScope s_w_many) := ⟨rfl, rfl, rfl, by decide +kernel, rfl, by decide +kernel, by decide +kernel⟩
abbrev s_w_due : Stmt := (top 62)
abbrev slots_w_due : List Str := ["_law_word", "_law_many_here", "_law_here", "_law_there", "_law_apart", "_law_pairs_here", "_law_pair"]
theorem sc_w_due : FnScope slots_w_due ["_law_word", "_law_many_here", "_law_here", "_law_there"] (defScope s_w_due) := ⟨rfl, rfl, rfl, by decide +kernel, rfl, by decide +kernel, by decide +kernel⟩
abbrev s_w_refused : Stmt := (top 63)
abbrev slots_w_refused : List Str := ["_law_word", "_law_many_here", "_law_one", "_law_other", "_law_told", "e"]
theorem sc_w_refused : FnScope slots_w_refused ["_law_word", "_law_many_here", "_law_one", "_law_other"] (defScope s_w_refused) := ⟨rfl, rfl, rfl, by decide +kernel, rfl, by decide +kernel, by decide +kernel⟩
abbrev s_w_asked_right : Stmt := (top 64)
abbrev slots_w_asked_right : List Str := ["_law_box_here", "_law_word", "_law_many_here", "_law_rows", "_law_turn", "_law_due_here", "_law_here", "_law_there", "_law_one", "_law_other"]
theorem sc_w_asked_right : FnScope slots_w_asked_right ["_law_box_here", "_law_word", "_law_many_here", "_law_rows"] (defScope s_w_asked_right) := ⟨rfl, rfl, rfl, by decide +kernel, rfl, by decide +kernel, by decide +kernel⟩
abbrev s_w_refusals_right : Stmt := (top 65)
abbrev slots_w_refusals_right : List Str := ["_law_box_here", "_law_word", "_law_many_here", "_law_rows", "_law_good", "_law_some", "_law_bad", "_law_last"]
theorem sc_w_refusals_right : FnScope slots_w_refusals_right ["_law_box_here", "_law_word", "_law_many_here", "_law_rows"] (defScope s_w_refusals_right) := ⟨rfl, rfl, rfl, by decide +kernel, rfl, by decide +kernel, by decide +kernel⟩
abbrev s_w_web_right : Stmt := (top 66)
abbrev slots_w_web_right : List Str := ["_law_word", "_law_many_here", "_law_web", "_law_names", "_law_rows", "_law_told", "e", "_law_j", "_law_one", "_law_k", "_law_other", "_law_due_here"]
theorem sc_w_web_right : FnScope slots_w_web_right ["_law_word", "_law_many_here"] (defScope s_w_web_right) := ⟨rfl, rfl, rfl, by decide +kernel, rfl, by decide +kernel, by decide +kernel⟩
abbrev s_law : Stmt := (top 67)
abbrev slots_law : List Str := ["_law_script", "_law_k", "_law_box_here", "_law_word", "_law_few", "_law_many_here", "_law_rows"]
theorem sc_law : FnScope slots_law ["_law_script"] (defScope s_law) := ⟨rfl, rfl, rfl, by decide +kernel, rfl, by decide +kernel, by decide +kernel⟩
structure Tx (K : PySem.W.Frag) (mg : Str → Option Value) where
  a_NoNumber___init__ : Addr
  fd_NoNumber___init__ : FuncData
  F_NoNumber___init__ : Fun K "__init__" "NoNumber.__init__" s_NoNumber___init__ a_NoNumber___init__ fd_NoNumber___init__
  b_NoNumber___init__ : Binds K fd_NoNumber___init__ ["self", "found"] []
  a_NoSigns___init__ : Addr
  fd_NoSigns___init__ : FuncData
  F_NoSigns___init__ : Fun K "__init__" "NoSigns.__init__" s_NoSigns___init__ a_NoSigns___init__ fd_NoSigns___init__
  b_NoSigns___init__ : Binds K fd_NoSigns___init__ ["self", "found"] []
  a_NoKind___init__ : Addr
  fd_NoKind___init__ : FuncData
  F_NoKind___init__ : Fun K "__init__" "NoKind.__init__" s_NoKind___init__ a_NoKind___init__ fd_NoKind___init__
  b_NoKind___init__ : Binds K fd_NoKind___init__ ["self", "found"] []
  a_is_whole : Addr
  fd_is_whole : FuncData
  F_is_whole : Fun K "is_whole" "is_whole" s_is_whole a_is_whole fd_is_whole
  m_is_whole : mg "is_whole" = some (.ref a_is_whole)
  b_is_whole : Binds K fd_is_whole ["thing", "low", "high"] []
  a_is_name : Addr
  fd_is_name : FuncData
  F_is_name : Fun K "is_name" "is_name" s_is_name a_is_name fd_is_name
  m_is_name : mg "is_name" = some (.ref a_is_name)
  b_is_name : Binds K fd_is_name ["thing"] []
  a_is_signs : Addr
  fd_is_signs : FuncData
  F_is_signs : Fun K "is_signs" "is_signs" s_is_signs a_is_signs fd_is_signs
  m_is_signs : mg "is_signs" = some (.ref a_is_signs)
  b_is_signs : Binds K fd_is_signs ["thing"] []
  a_need_signs : Addr
  fd_need_signs : FuncData
  F_need_signs : Fun K "need_signs" "need_signs" s_need_signs a_need_signs fd_need_signs
  m_need_signs : mg "need_signs" = some (.ref a_need_signs)
  b_need_signs : Binds K fd_need_signs ["thing"] []
  a_need_number : Addr
  fd_need_number : FuncData
  F_need_number : Fun K "need_number" "need_number" s_need_number a_need_number fd_need_number
  m_need_number : mg "need_number" = some (.ref a_need_number)
  b_need_number : Binds K fd_need_number ["thing", "low"] []
  a_row_number : Addr
  fd_row_number : FuncData
  F_row_number : Fun K "row_number" "row_number" s_row_number a_row_number fd_row_number
  m_row_number : mg "row_number" = some (.ref a_row_number)
  b_row_number : Binds K fd_row_number ["signs"] []
  a_row_by : Addr
  fd_row_by : FuncData
  F_row_by : Fun K "row_by" "row_by" s_row_by a_row_by fd_row_by
  m_row_by : mg "row_by" = some (.ref a_row_by)
  b_row_by : Binds K fd_row_by ["number"] []
  a_spots_of : Addr
  fd_spots_of : FuncData
  F_spots_of : Fun K "spots_of" "spots_of" s_spots_of a_spots_of fd_spots_of
  m_spots_of : mg "spots_of" = some (.ref a_spots_of)
  b_spots_of : Binds K fd_spots_of ["places"] []
  a_spot_of : Addr
  fd_spot_of : FuncData
  F_spot_of : Fun K "spot_of" "spot_of" s_spot_of a_spot_of fd_spot_of
  m_spot_of : mg "spot_of" = some (.ref a_spot_of)
  b_spot_of : Binds K fd_spot_of ["spots", "place"] []
  a_pair_of : Addr
  fd_pair_of : FuncData
  F_pair_of : Fun K "pair_of" "pair_of" s_pair_of a_pair_of fd_pair_of
  m_pair_of : mg "pair_of" = some (.ref a_pair_of)
  b_pair_of : Binds K fd_pair_of ["here", "there"] []
  a_lengths_of : Addr
  fd_lengths_of : FuncData
  F_lengths_of : Fun K "lengths_of" "lengths_of" s_lengths_of a_lengths_of fd_lengths_of
  m_lengths_of : mg "lengths_of" = some (.ref a_lengths_of)
  b_lengths_of : Binds K fd_lengths_of ["spots", "ties"] []
  a_Web___init__ : Addr
  fd_Web___init__ : FuncData
  F_Web___init__ : Fun K "__init__" "Web.__init__" s_Web___init__ a_Web___init__ fd_Web___init__
  b_Web___init__ : Binds K fd_Web___init__ ["self", "places", "ties"] []
  a_Web_places : Addr
  fd_Web_places : FuncData
  F_Web_places : Fun K "places" "Web.places" s_Web_places a_Web_places fd_Web_places
  b_Web_places : Binds K fd_Web_places ["self"] []
  a_Web_ties : Addr
  fd_Web_ties : FuncData
  F_Web_ties : Fun K "ties" "Web.ties" s_Web_ties a_Web_ties fd_Web_ties
  b_Web_ties : Binds K fd_Web_ties ["self"] []
  a_Web_number : Addr
  fd_Web_number : FuncData
  F_Web_number : Fun K "number" "Web.number" s_Web_number a_Web_number fd_Web_number
  b_Web_number : Binds K fd_Web_number ["self", "place"] []
  a_Web_beside : Addr
  fd_Web_beside : FuncData
  F_Web_beside : Fun K "beside" "Web.beside" s_Web_beside a_Web_beside fd_Web_beside
  b_Web_beside : Binds K fd_Web_beside ["self", "place"] []
  a_need_kind : Addr
  fd_need_kind : FuncData
  F_need_kind : Fun K "need_kind" "need_kind" s_need_kind a_need_kind fd_need_kind
  m_need_kind : mg "need_kind" = some (.ref a_need_kind)
  b_need_kind : Binds K fd_need_kind ["word", "many", "most"] []
  a_rows_for_pairs : Addr
  fd_rows_for_pairs : FuncData
  F_rows_for_pairs : Fun K "rows_for_pairs" "rows_for_pairs" s_rows_for_pairs a_rows_for_pairs fd_rows_for_pairs
  m_rows_for_pairs : mg "rows_for_pairs" = some (.ref a_rows_for_pairs)
  b_rows_for_pairs : Binds K fd_rows_for_pairs ["many"] []
  a_why_many : Addr
  fd_why_many : FuncData
  F_why_many : Fun K "why_many" "why_many" s_why_many a_why_many fd_why_many
  m_why_many : mg "why_many" = some (.ref a_why_many)
  b_why_many : Binds K fd_why_many ["word", "many"] []
  a_kind_rows : Addr
  fd_kind_rows : FuncData
  F_kind_rows : Fun K "kind_rows" "kind_rows" s_kind_rows a_kind_rows fd_kind_rows
  m_kind_rows : mg "kind_rows" = some (.ref a_kind_rows)
  b_kind_rows : Binds K fd_kind_rows ["word", "many"] []
  a_number_of_row : Addr
  fd_number_of_row : FuncData
  F_number_of_row : Fun K "number_of_row" "number_of_row" s_number_of_row a_number_of_row fd_number_of_row
  m_number_of_row : mg "number_of_row" = some (.ref a_number_of_row)
  b_number_of_row : Binds K fd_number_of_row ["thing", "least"] []
  a_pair_far : Addr
  fd_pair_far : FuncData
  F_pair_far : Fun K "pair_far" "pair_far" s_pair_far a_pair_far fd_pair_far
  m_pair_far : mg "pair_far" = some (.ref a_pair_far)
  b_pair_far : Binds K fd_pair_far ["many", "low", "high"] []
  a_kind_far : Addr
  fd_kind_far : FuncData
  F_kind_far : Fun K "kind_far" "kind_far" s_kind_far a_kind_far fd_kind_far
  m_kind_far : mg "kind_far" = some (.ref a_kind_far)
  b_kind_far : Binds K fd_kind_far ["word", "many", "one", "other"] []
  a_kind_web : Addr
  fd_kind_web : FuncData
  F_kind_web : Fun K "kind_web" "kind_web" s_kind_web a_kind_web fd_kind_web
  m_kind_web : mg "kind_web" = some (.ref a_kind_web)
  b_kind_web : Binds K fd_kind_web ["word", "many"] []
  a_need_place : Addr
  fd_need_place : FuncData
  F_need_place : Fun K "need_place" "need_place" s_need_place a_need_place fd_need_place
  m_need_place : mg "need_place" = some (.ref a_need_place)
  b_need_place : Binds K fd_need_place ["web", "thing"] []
  a_nearest_of : Addr
  fd_nearest_of : FuncData
  F_nearest_of : Fun K "nearest_of" "nearest_of" s_nearest_of a_nearest_of fd_nearest_of
  m_nearest_of : mg "nearest_of" = some (.ref a_nearest_of)
  b_nearest_of : Binds K fd_nearest_of ["reached", "done"] []
  a_reached_from : Addr
  fd_reached_from : FuncData
  F_reached_from : Fun K "reached_from" "reached_from" s_reached_from a_reached_from fd_reached_from
  m_reached_from : mg "reached_from" = some (.ref a_reached_from)
  b_reached_from : Binds K fd_reached_from ["web", "place"] []
  a_far : Addr
  fd_far : FuncData
  F_far : Fun K "far" "far" s_far a_far fd_far
  m_far : mg "far" = some (.ref a_far)
  b_far : Binds K fd_far ["web", "one", "other"] []
  a_w_cell : Addr
  fd_w_cell : FuncData
  F_w_cell : Fun K "_law_cell" "_law_cell" s_w_cell a_w_cell fd_w_cell
  m_w_cell : mg "_law_cell" = some (.ref a_w_cell)
  b_w_cell : Binds K fd_w_cell ["_law_script", "_law_k"] []
  a_w_box : Addr
  fd_w_box : FuncData
  F_w_box : Fun K "_law_box" "_law_box" s_w_box a_w_box fd_w_box
  m_w_box : mg "_law_box" = some (.ref a_w_box)
  b_w_box : Binds K fd_w_box ["_law_cell_here"] []
  a_w_take : Addr
  fd_w_take : FuncData
  F_w_take : Fun K "_law_take" "_law_take" s_w_take a_w_take fd_w_take
  m_w_take : mg "_law_take" = some (.ref a_w_take)
  b_w_take : Binds K fd_w_take ["_law_box_here", "_law_many_here"] []
  a_w_signs : Addr
  fd_w_signs : FuncData
  F_w_signs : Fun K "_law_signs" "_law_signs" s_w_signs a_w_signs fd_w_signs
  m_w_signs : mg "_law_signs" = some (.ref a_w_signs)
  b_w_signs : Binds K fd_w_signs ["_law_number"] []
  a_w_pairs : Addr
  fd_w_pairs : FuncData
  F_w_pairs : Fun K "_law_pairs" "_law_pairs" s_w_pairs a_w_pairs fd_w_pairs
  m_w_pairs : mg "_law_pairs" = some (.ref a_w_pairs)
  b_w_pairs : Binds K fd_w_pairs ["_law_many_here"] []
  a_w_many : Addr
  fd_w_many : FuncData
  F_w_many : Fun K "_law_many" "_law_many" s_w_many a_w_many fd_w_many
  m_w_many : mg "_law_many" = some (.ref a_w_many)
  b_w_many : Binds K fd_w_many ["_law_box_here", "_law_word"] []
  a_w_due : Addr
  fd_w_due : FuncData
  F_w_due : Fun K "_law_due" "_law_due" s_w_due a_w_due fd_w_due
  m_w_due : mg "_law_due" = some (.ref a_w_due)
  b_w_due : Binds K fd_w_due ["_law_word", "_law_many_here", "_law_here", "_law_there"] []
  a_w_refused : Addr
  fd_w_refused : FuncData
  F_w_refused : Fun K "_law_refused" "_law_refused" s_w_refused a_w_refused fd_w_refused
  m_w_refused : mg "_law_refused" = some (.ref a_w_refused)
  b_w_refused : Binds K fd_w_refused ["_law_word", "_law_many_here", "_law_one", "_law_other"] []
  a_w_asked_right : Addr
  fd_w_asked_right : FuncData
  F_w_asked_right : Fun K "_law_asked_right" "_law_asked_right" s_w_asked_right a_w_asked_right fd_w_asked_right
  m_w_asked_right : mg "_law_asked_right" = some (.ref a_w_asked_right)
  b_w_asked_right : Binds K fd_w_asked_right ["_law_box_here", "_law_word", "_law_many_here", "_law_rows"] []
  a_w_refusals_right : Addr
  fd_w_refusals_right : FuncData
  F_w_refusals_right : Fun K "_law_refusals_right" "_law_refusals_right" s_w_refusals_right a_w_refusals_right fd_w_refusals_right
  m_w_refusals_right : mg "_law_refusals_right" = some (.ref a_w_refusals_right)
  b_w_refusals_right : Binds K fd_w_refusals_right ["_law_box_here", "_law_word", "_law_many_here", "_law_rows"] []
  a_w_web_right : Addr
  fd_w_web_right : FuncData
  F_w_web_right : Fun K "_law_web_right" "_law_web_right" s_w_web_right a_w_web_right fd_w_web_right
  m_w_web_right : mg "_law_web_right" = some (.ref a_w_web_right)
  b_w_web_right : Binds K fd_w_web_right ["_law_word", "_law_many_here"] []
  a_law : Addr
  fd_law : FuncData
  F_law : Fun K "law" "law" s_law a_law fd_law
  m_law : mg "law" = some (.ref a_law)
  b_law : Binds K fd_law ["_law_script"] []
  z_abs : mg "abs" = none
  z_all : mg "all" = none
  z_bool : mg "bool" = none
  z_divmod : mg "divmod" = none
  z_enumerate : mg "enumerate" = none
  z_int : mg "int" = none
  z_isinstance : mg "isinstance" = none
  z_len : mg "len" = none
  z_list : mg "list" = none
  z_max : mg "max" = none
  z_min : mg "min" = none
  z_range : mg "range" = none
  z_repr : mg "repr" = none
  z_sorted : mg "sorted" = none
  z_str : mg "str" = none
  z_tuple : mg "tuple" = none
  t_KINDS : Addr
  c_KINDS : mg "KINDS" = some (.ref t_KINDS)
  k_KINDS : TupK K t_KINDS ["path", "star", "ring", "pair"]
  t_LETTERS_kinds : Tok
  c_LETTERS_kinds : mg "LETTERS_kinds" = some (.str "abcdefghijkl" t_LETTERS_kinds)
  t_LETTERS_words : Tok
  c_LETTERS_words : mg "LETTERS_words" = some (.str "abcdefghijklmnopqrstuvwxyz" t_LETTERS_words)
  t_MOST_LENGTH : Tok
  c_MOST_LENGTH : mg "MOST_LENGTH" = some (.int 1000000 t_MOST_LENGTH)
  t_MOST_PLACES_kinds : Tok
  c_MOST_PLACES_kinds : mg "MOST_PLACES_kinds" = some (.int 12 t_MOST_PLACES_kinds)
  t_MOST_PLACES_webs : Tok
  c_MOST_PLACES_webs : mg "MOST_PLACES_webs" = some (.int 12 t_MOST_PLACES_webs)
  t_MOST_SIGNS : Tok
  c_MOST_SIGNS : mg "MOST_SIGNS" = some (.int 1500 t_MOST_SIGNS)
  t_MOST_TIES : Tok
  c_MOST_TIES : mg "MOST_TIES" = some (.int 40 t_MOST_TIES)
  t_MOST_kinds : Tok
  c_MOST_kinds : mg "MOST_kinds" = some (.int 1000 t_MOST_kinds)
  t_MOST_signs : Tok
  c_MOST_signs : mg "MOST_signs" = some (.int 999999999999999999999999999999 t_MOST_signs)
  C_Web : Addr
  cl_Web : Cls K C_Web
  M_Web : Mk K C_Web a_Web___init__
  m_Web : mg "Web" = some (.ref C_Web)
  mm_Web_places : Meth K C_Web "places" a_Web_places
  mm_Web_number : Meth K C_Web "number" a_Web_number
  mm_Web_beside : Meth K C_Web "beside" a_Web_beside
  mm_Web_ties : Meth K C_Web "ties" a_Web_ties
  n_Web_spots : NoAttr K C_Web "spots"
  n_Web_names : NoAttr K C_Web "names"
  n_Web_lengths : NoAttr K C_Web "lengths"
  C_NoKind : Addr
  m_NoKind : mg "NoKind" = some (.ref C_NoKind)
  ox_NoKind : OexC K C_NoKind
  xi_NoKind : PySem.W.findIn K (.ref C_NoKind) "__init__" = some (some (.ref a_NoKind___init__))
  xt_NoKind : PySem.W.typeIn K (.ref a_NoKind___init__) = some (.type "function")
  xf_NoKind : XfC K C_NoKind
  no_NoKind_found : PySem.W.findIn K (.ref C_NoKind) "found" = some none
  C_NoNumber : Addr
  m_NoNumber : mg "NoNumber" = some (.ref C_NoNumber)
  ox_NoNumber : OexC K C_NoNumber
  xi_NoNumber : PySem.W.findIn K (.ref C_NoNumber) "__init__" = some (some (.ref a_NoNumber___init__))
  xt_NoNumber : PySem.W.typeIn K (.ref a_NoNumber___init__) = some (.type "function")
  xf_NoNumber : XfC K C_NoNumber
  no_NoNumber_found : PySem.W.findIn K (.ref C_NoNumber) "found" = some none
  C_NoSigns : Addr
  m_NoSigns : mg "NoSigns" = some (.ref C_NoSigns)
  ox_NoSigns : OexC K C_NoSigns
  xi_NoSigns : PySem.W.findIn K (.ref C_NoSigns) "__init__" = some (some (.ref a_NoSigns___init__))
  xt_NoSigns : PySem.W.typeIn K (.ref a_NoSigns___init__) = some (.type "function")
  xf_NoSigns : XfC K C_NoSigns
  no_NoSigns_found : PySem.W.findIn K (.ref C_NoSigns) "found" = some none
  sx_NoSigns_NoSigns : PySem.W.subIn K (.ref C_NoSigns) (.ref C_NoSigns) = some true
  sx_NoKind_NoSigns : PySem.W.subIn K (.ref C_NoKind) (.ref C_NoSigns) = some false
  sx_NoKind_NoKind : PySem.W.subIn K (.ref C_NoKind) (.ref C_NoKind) = some true
  sx_NoNumber_NoSigns : PySem.W.subIn K (.ref C_NoNumber) (.ref C_NoSigns) = some false
  sx_NoNumber_NoKind : PySem.W.subIn K (.ref C_NoNumber) (.ref C_NoKind) = some false
  sx_NoNumber_NoNumber : PySem.W.subIn K (.ref C_NoNumber) (.ref C_NoNumber) = some true
  C_MarkError : Addr
  m_MarkError : mg "MarkError" = some (.ref C_MarkError)
  mid_MarkError : MidC K C_MarkError
local macro_rules | `(tactic| keq_rows) => `(tactic| first
  | ((with_reducible show DE _ _ _ (tVar _) _ _ _); refine de_var rfl ?_)
  | with_reducible refine ds_seq ?_
  | with_reducible refine ds_asg ?_
  | with_reducible refine ds_par ?_
  | with_reducible refine ds_if ?_
  | with_reducible refine ds_ret ?_
  | with_reducible refine ds_retN ?_
  | with_reducible refine ds_drop ?_
  | with_reducible refine ds_next ?_
  | with_reducible refine ds_dput ?_
  | with_reducible refine ds_fld ?_
  | with_reducible refine ds_brk ?_
  | with_reducible refine ds_cont ?_
  | with_reducible refine dg_name ?_
  | with_reducible refine dg_tup rfl ?_
  | with_reducible refine dgs_cons ?_
  | with_reducible refine dgs_nil ?_
  | with_reducible refine dt_test ?_
  | with_reducible refine dt_B ?_
  | with_reducible refine dt_and ?_
  | with_reducible refine dt_or ?_
  | with_reducible refine dt_not ?_
  | with_reducible refine dt_yes ?_
  | with_reducible refine de_int ?_
  | with_reducible refine de_str ?_
  | with_reducible refine de_bl ?_
  | with_reducible refine de_non ?_
  | with_reducible refine de_ty ?_
  | with_reducible refine de_ref ?_
  | with_reducible refine de_allS ?_
  | with_reducible refine de_op ?_
  | with_reducible refine de_un ?_
  | with_reducible refine de_andV ?_
  | with_reducible refine de_orV ?_
  | with_reducible refine de_notV ?_
  | with_reducible refine de_if ?_
  | with_reducible refine de_chain ?_
  | with_reducible refine de_cb ?_
  | with_reducible refine de_tup ?_
  | with_reducible refine de_sl ?_
  | with_reducible refine de_revL ?_
  | with_reducible refine de_dget ?_
  | with_reducible refine de_din ?_
  | with_reducible refine de_dnotin ?_
  | with_reducible refine de_dget1 ?_
  | with_reducible refine de_dget2 ?_
  | with_reducible refine de_fld ?_
  | with_reducible refine de_bm ?_
  | with_reducible refine de_bm0 ?_
  | with_reducible refine de_callS ?_
  | with_reducible refine de_call0 ?_
  | with_reducible refine de_meth0 ?_
  | with_reducible refine de_make0 ?_
  | with_reducible refine de_dnewK fun _ => ?_
  | with_reducible refine de_dnewT fun _ => ?_
  | with_reducible refine da_nil ?_
  | with_reducible refine da_cons ?_
  | with_reducible refine do_none ?_
  | with_reducible refine do_part ?_
  | with_reducible refine d_exb ?_
  | with_reducible refine d_exi ?_
  | with_reducible refine dop_int ?_
  | with_reducible refine dop_add ?_
  | with_reducible refine dop_sub ?_
  | with_reducible refine dop_ibl ?_
  | with_reducible refine dop_eqI ?_
  | with_reducible refine dop_neI ?_
  | with_reducible refine dop_eqS ?_
  | with_reducible refine dop_neS ?_
  | with_reducible refine dun_int ?_
  | with_reducible refine dop_isNon ?_
  | with_reducible refine dop_notNon ?_
  | with_reducible refine dc_abs ?_
  | with_reducible refine dc_max2 ?_
  | with_reducible refine dc_min2 ?_
  | with_reducible refine dc_int1 ?_
  | with_reducible refine dc_intB ?_
  | ((with_reducible show (if _ = true then _ else _)); refine w_ifT rfl ?_)
  | ((with_reducible show (if _ = true then _ else _)); refine w_ifF rfl ?_)
  | dsimp only)
local macro_rules | `(tactic| keq_hits) => `(tactic| repeat keq_rows)
def wholeD (lo hi : Int) : D → Bool
  | .int i => decide (lo ≤ i) && decide (i ≤ hi)
  | _ => false
def sp_is_whole {K : PySem.W.Frag} {mg : Str → Option Value} (_ : Tx K mg) : DSp := fun ds M P _ => ds.length = 3 ∧ ∃ d p lo hi, ds = [d, .int lo, .int hi] ∧ TyD M d p ∧ P (.bl (wholeD lo hi d)) M
section
variable {P : Program} {w : World} {K : PySem.W.Frag} {mg : Str → Option Value} {base : Heap}
theorem ok_is_whole (T : Tx K mg) : FnOk P w K mg base CX0 1 T.a_is_whole T.fd_is_whole ["thing", "low", "high"] (up K (sp_is_whole T)) := by
  refine Fun.okD0 T.F_is_whole sc_is_whole (fun ds M P X' h => h.1) (fun cdv A outer s H E hr => ?_)
  have hu := hu_of hr
  refine ⟨_, (pss_cons (ps_if (PW.pt (pw_or (pt_not (pt_val (pe_callB (call_isi_K (K := K) rfl) (by rfl) T.z_isinstance (by decide +kernel) (pa_cons (pv 0) (pa_cons (pe_bltnT (n := "int") (by rfl) T.z_int (by decide +kernel)) pa_nil))))) (pw_or1 (pt_val (pe_callB (call_isi_K (K := K) rfl) (by rfl) T.z_isinstance (by decide +kernel) (pa_cons (pv 0) (pa_cons (pe_bltnT (n := "bool") (by rfl) T.z_bool (by decide +kernel)) pa_nil))))))) (pss_one (ps_ret pe_bl)) pss_nil)
      (pss_one (ps_ret (pe_chain op_le op_le (pv 1) (pv 0) (pv 2))))), fun ds M P X' h => ?_⟩
  obtain ⟨_, d, p, lo, hi, rfl, ty, k⟩ := h
  keq_hits
  refine dc_isi (by simp) ty ?_
  keq_hits
  cases ty with
  | int i =>
    keq_hits
    refine dc_isi (by simp) (.int i) ?_
    keq_hits
    refine w_if2 (fun e => ?_) (fun e => ?_)
    · keq_hits
      have e2 : wholeD lo hi (.int i) = decide (i ≤ hi) := by show (decide (lo ≤ i) && decide (i ≤ hi)) = _; rw [e]; rfl
      rw [e2] at k; exact k
    · have e2 : wholeD lo hi (.int i) = false := by show (decide (lo ≤ i) && decide (i ≤ hi)) = _; rw [e]; rfl
      rw [e2] at k; exact k
  | bl b =>
    keq_hits
    refine dc_isi (by simp) (.bl b) ?_
    keq_hits
    exact k
  | lst hl => cases hl <;> (keq_hits; exact k)
  | dct hl => cases hl <;> (keq_hits; exact k)
  | _ => keq_hits; exact k
end

def isLetter (c : Nat) : Bool := decide (c ∈ ("abcdefghijklmnopqrstuvwxyz" : Str).cps.toList)
def nameStr (s : Str) : Bool := decide (1 ≤ s.length) && decide (s.length ≤ 6) && s.cps.toList.all isLetter
theorem nameStr_lo {x : Str} (h : ¬ 1 ≤ x.length) : nameStr x = false := by unfold nameStr; rw [decide_eq_false h]; rfl
theorem nameStr_hi {x : Str} (h : ¬ x.length ≤ 6) : nameStr x = false := by unfold nameStr; rw [decide_eq_false h, Bool.and_false]; rfl
theorem nameStr_mid {x : Str} (h : 1 ≤ x.length) (h' : x.length ≤ 6) : nameStr x = x.cps.toList.all isLetter := by
  unfold nameStr; rw [decide_eq_true h, decide_eq_true h']; rfl
theorem nameStr_len {n : Str} (h : nameStr n = true) : n.length ≤ 6 := by
  unfold nameStr at h; simp only [Bool.and_eq_true, decide_eq_true_eq] at h; exact h.1.2
theorem nameStr_line {n : Str} (h : nameStr n = true) : n.length ≤ sizeLine := Nat.le_trans (nameStr_len h) (by decide)
def nameD : D → Bool
  | .str s => nameStr s
  | _ => false
def sp_is_name {K : PySem.W.Frag} {mg : Str → Option Value} (_ : Tx K mg) : DSp := fun ds M P _ => ds.length = 1 ∧ ∃ d p, ds = [d] ∧ TyD M d p ∧ (∀ s, d = .str s → s.length ≤ sizeLine) ∧ P (.bl (nameD d)) M
section
variable {P : Program} {w : World} {K : PySem.W.Frag} {mg : Str → Option Value} {base : Heap}
theorem ok_is_name (T : Tx K mg) : FnOk P w K mg base CX0 1 T.a_is_name T.fd_is_name ["thing"] (up K (sp_is_name T)) := by
  refine Fun.okD0 T.F_is_name sc_is_name (fun ds M P X' h => h.1) (fun cdv A outer s H E hr => ?_)
  have hu := hu_of hr
  refine ⟨_, (pss_cons (ps_if (PW.pt (pw_or (pt_not (pt_val (pe_callB (call_isi_K (K := K) rfl) (by rfl) T.z_isinstance (by decide +kernel) (pa_cons (pv 0) (pa_cons (pe_bltnT (n := "str") (by rfl) T.z_str (by decide +kernel)) pa_nil))))) (pw_or1 (pt_not (pt_chain op_le op_le pe_int (pe_callB call_len_str (by rfl) T.z_len (by decide +kernel) (pa_cons (pv 0) pa_nil)) pe_int))))) (pss_one (ps_ret pe_bl)) pss_nil)
      (pss_one (ps_ret (pe_allS (show 1 < 2 by decide) (pe_callB (cr_allK (K := K) rfl rfl) (by rfl) T.z_all (by decide +kernel) (pa_cons (pe_lc (own := [("sign", 1)]) rfl sc_is_name.nd (pi_str (pv 0)) (blkOk_by (N := slots_is_name) (sc := defScope s_is_name) (by decide +kernel)) (fun _ _ _ _ _ => by exact (pg_name (i := 1) sc_is_name.nd rfl (Or.inl rfl))) (fun _ _ _ _ _ => pts_nil) (fun _ _ _ _ _ => by exact (pe_cmpR op_in_sign (pv 1) (pe_globS rfl T.c_LETTERS_words) (by rfl)))) pa_nil)))))), fun ds M P X' h => ?_⟩
  obtain ⟨_, d, p, rfl, ty, hz, k⟩ := h
  keq_hits
  refine dc_isi (by simp) ty ?_
  keq_hits
  cases ty with
  | str x =>
    have k' : P (.bl (nameStr x)) M := k
    keq_hits
    refine dc_lenS (hz x rfl) ?_
    keq_hits
    refine w_ifd (fun e => ?_) (fun e => ?_)
    · keq_hits
      refine w_ifnd (fun e2 => ?_) (fun e2 => ?_)
      · keq_hits
        rw [nameStr_hi (by omega)] at k'
        exact k'
      · keq_hits
        refine ⟨x, rfl, small1000 (by omega), ?_⟩
        rw [nameStr_mid (by omega) (by omega)] at k'
        exact k'
    · keq_hits
      rw [nameStr_lo (by omega)] at k'
      exact k'
  | lst hl => cases hl <;> (keq_hits; exact k)
  | dct hl => cases hl <;> (keq_hits; exact k)
  | _ => keq_hits; exact k
end

def sp_pair_of {K : PySem.W.Frag} {mg : Str → Option Value} (_ : Tx K mg) : DSp := fun ds M P _ => ds.length = 2 ∧ ∃ i j : Nat, ds = [.int i, .int j] ∧ P (.tup [.int (min i j : Nat), .int (max i j : Nat)]) M
section
variable {P : Program} {w : World} {K : PySem.W.Frag} {mg : Str → Option Value} {base : Heap}
theorem ok_pair_of (T : Tx K mg) : FnOk P w K mg base CX0 1 T.a_pair_of T.fd_pair_of ["here", "there"] (up K (sp_pair_of T)) := by
  refine Fun.okD0 T.F_pair_of sc_pair_of (fun ds M P X' h => h.1) (fun cdv A outer s H E hr => ?_)
  have hu := hu_of hr
  refine ⟨_, (pss_one (ps_ret (pe_tup (pa_cons (pe_callB (call_min2 rfl) (by rfl) T.z_min (by decide +kernel) (pa_cons (pv 0) (pa_cons (pv 1) pa_nil))) (pa_cons (pe_callB (call_max2 rfl) (by rfl) T.z_max (by decide +kernel) (pa_cons (pv 0) (pa_cons (pv 1) pa_nil))) pa_nil))))), fun ds M P X' h => ?_⟩
  obtain ⟨_, i, j, rfl, k⟩ := h
  keq_hits
  refine ⟨by show 2 ≤ sizeLine; decide, ?_⟩
  have e1 : (if ((j : Nat) : Int) < (i : Nat) then ((j : Nat) : Int) else (i : Nat)) = ((min i j : Nat) : Int) := by split <;> omega
  have e2 : (if ((j : Nat) : Int) > (i : Nat) then ((j : Nat) : Int) else (i : Nat)) = ((max i j : Nat) : Int) := by split <;> omega
  rw [e1, e2]
  exact k
end

def spotsFrom : Nat → List Str → List (Key × D)
  | _, [] => []
  | k, n :: t => (.inr n, .int (k : Nat)) :: spotsFrom (k + 1) t
theorem spotsFrom_app : ∀ (l m : List Str) (k : Nat), spotsFrom k (l ++ m) = spotsFrom k l ++ spotsFrom (k + l.length) m
  | [], m, k => rfl
  | n :: l, m, k => by
    show _ :: spotsFrom (k + 1) (l ++ m) = _ :: (spotsFrom (k + 1) l ++ _)
    rw [spotsFrom_app l m (k + 1), List.length_cons, Nat.add_right_comm]; rfl
theorem spotsFrom_len : ∀ (l : List Str) (k : Nat), (spotsFrom k l).length = l.length
  | [], _ => rfl
  | _ :: l, k => congrArg Nat.succ (spotsFrom_len l (k + 1))
theorem valD_cons {κ : Type} [DecidableEq κ] (k k' : κ) (d : D) (es : List (κ × D)) : valD ((k, d) :: es) k' = if k = k' then some d else valD es k' := by
  unfold valD
  rw [List.find?_cons]
  by_cases h : k = k'
  · rw [decide_eq_true h, if_pos h]; rfl
  · rw [decide_eq_false h, if_neg h]
theorem spotsFrom_val (n : Str) : ∀ (l : List Str) (k : Nat), valD (spotsFrom k l) (.inr n) = if n ∈ l then some (.int ((k + idx l n : Nat) : Int)) else none
  | [], k => rfl
  | m :: l, k => by
    show valD ((Sum.inr m, _) :: spotsFrom (k + 1) l) (.inr n) = _
    rw [valD_cons]
    by_cases h : m = n
    · subst h
      rw [if_pos rfl, if_pos List.mem_cons_self]
      have : idx (m :: l) m = 0 := by unfold idx; rw [List.findIdx_cons]; simp
      rw [this]; rfl
    · rw [if_neg (fun z => h (Sum.inr.inj z)), spotsFrom_val n l (k + 1)]
      have : idx (m :: l) n = idx l n + 1 := by unfold idx; rw [List.findIdx_cons, decide_eq_false h]; rfl
      by_cases hm : n ∈ l
      · rw [if_pos hm, if_pos (List.mem_cons_of_mem _ hm), this]; congr 2; omega
      · rw [if_neg hm, if_neg (fun z => (List.mem_cons.mp z).elim (fun z => h z.symm) hm)]
theorem valD_any {κ : Type} [DecidableEq κ] (es : List (κ × D)) (k : κ) : (es.any fun kv => decide (kv.1 = k)) = (valD es k).isSome := by
  induction es with
  | nil => rfl
  | cons p es ih =>
    obtain ⟨k1, d⟩ := p
    rw [List.any_cons, valD_cons, ih]
    by_cases h : k1 = k
    · rw [decide_eq_true h, if_pos h]; rfl
    · rw [decide_eq_false h, if_neg h]; rfl
theorem putD_new {κ : Type} [DecidableEq κ] {es : List (κ × D)} {k : κ} (d : D) (h : valD es k = none) : putD es k d = es ++ [(k, d)] := by
  unfold putD
  rw [valD_any, h, if_neg (by simp)]
structure NmOk (ns : List Str) : Prop where
  lo : 1 ≤ ns.length
  hi : ns.length ≤ 12
  nm : ∀ n ∈ ns, nameStr n = true
  nd : ns.Nodup
theorem IsS.ty {M : MS} {d : D} {ns : List Str} (h : IsS M d ns) (hk : ∀ ss, d ≠ .ktp ss) : (∃ p, TyD M d p ∧ (isTy "list" p || isTy "tuple" p) = true) := by
  cases h with
  | l h => exact ⟨_, .lst h, rfl⟩
  | t => exact ⟨_, .tup _, rfl⟩
  | k => exact absurd rfl (hk _)
theorem dc_lenQ {K : PySem.W.Frag} {M : MS} {P : D → MS → Prop} {d : D} {ns : List Str} (h : IsS M d ns) (hk : ∀ ss, d ≠ .ktp ss) (k : P (.int (ns.length : Int)) M) : DC K (rLenSeq K) [d] M P := by
  cases h with
  | l h => exact dc_lenL h (by rw [List.length_map]; exact k)
  | t => exact dc_lenT (by rw [List.length_map]; exact k)
  | k => exact absurd rfl (hk _)
def sp_spots_of {K : PySem.W.Frag} {mg : Str → Option Value} (_ : Tx K mg) : DSp := fun ds M P _ => ds.length = 1 ∧ ∃ d ns, ds = [d] ∧ IsS M d ns ∧ (∀ ss, d ≠ .ktp ss) ∧ NmOk ns ∧ ∀ a, P (.loc a) ((a, .dct (spotsFrom 0 ns)) :: M)
theorem IsS.up {M : MS} {d : D} {ns : List Str} {p : Addr × MO} (h : IsS M d ns) : IsS (p :: M) d ns := by
  cases h with
  | l h =>
    cases h with
    | v => exact .l .v
    | l m => exact .l (.l (List.mem_cons_of_mem _ m))
  | t => exact .t
  | k => exact .k
theorem map_get {ns : List Str} {i : Nat} {x : D} (h : (ns.map D.str)[i]? = some x) : ∃ n, ns[i]? = some n ∧ x = .str n := by
  rw [List.getElem?_map] at h
  cases hn : ns[i]? with
  | none => rw [hn] at h; cases h
  | some n => rw [hn] at h; exact ⟨n, rfl, (Option.some.inj h).symm⟩
section
variable {P : Program} {w : World} {K : PySem.W.Frag} {mg : Str → Option Value} {base : Heap}
theorem ok_spots_of (T : Tx K mg) : FnOk P w K mg base CX0 2 T.a_spots_of T.fd_spots_of ["places"] (up K (sp_spots_of T)) := by
  refine Fun.okD0 T.F_spots_of sc_spots_of (fun ds M P X' h => h.1) (fun cdv A outer s H E hr => ?_)
  have hu := hu_of hr
  refine ⟨_, (pss_cons (ps_if (PW.pt (pw_or (pt_not (pt_val (pe_callB (call_isiTK (K := K) rfl) (by rfl) T.z_isinstance (by decide +kernel) (pa_cons (pv 0) (pa_cons (pe_tup (pa_cons (pe_bltnT (n := "list") (by rfl) T.z_list (by decide +kernel)) (pa_cons (pe_bltnT (n := "tuple") (by rfl) T.z_tuple (by decide +kernel)) pa_nil))) pa_nil))))) (pw_or1 (pt_not (pt_chain op_le op_le pe_int (pe_callB (call_len_seqK (K := K) rfl) (by rfl) T.z_len (by decide +kernel) (pa_cons (pv 0) pa_nil)) (pe_globI rfl T.c_MOST_PLACES_webs)))))) (pss_one ps_never) pss_nil)
      (pss_cons (ps_set (i := 1) sc_spots_of.nd rfl (Or.inl rfl) pe_dnewK)
      (pss_cons (ps_for PassesOwn.never rfl (pi_seqK (K := K) rfl (pv 0)) (pg_name (i := 2) sc_spots_of.nd rfl (Or.inl rfl)) (pss_cons (ps_if (pt_not (pt_val (pe_call (ok_is_name T) (hr.mono (by decide)) (by rfl) T.m_is_name T.F_is_name.kp T.b_is_name .nil pass0 (pa_cons (pv 2) pa_nil)))) (pss_one ps_never) pss_nil)
      (pss_cons (ps_if (pt_cmp (pc_din hu (pv 2) (pv 1))) (pss_one ps_never) pss_nil)
      (pss_one (ps_dput hu (pv 1) (pv 2) (pe_callB call_lenDR (by rfl) T.z_len (by decide +kernel) (pa_cons (pv 1) pa_nil)) rfl)))))
      (pss_one (ps_ret (pv 1)))))), fun ds M P X' h => ?_⟩
  obtain ⟨_, d, ns, rfl, hs, hk, ok, k⟩ := h
  obtain ⟨p, ty, et⟩ := hs.ty hk
  keq_hits
  refine ⟨by show 2 ≤ sizeLine; decide, ?_⟩
  keq_hits
  refine dc_isiLT ty ?_
  rw [et]
  keq_hits
  refine dc_lenQ hs hk ?_
  have h1 := ok.lo
  have h2 := ok.hi
  keq_hits
  refine w_ifd (fun e => ?_) (fun e => absurd e (by omega))
  keq_hits
  refine w_ifnd (fun e => absurd e (by omega)) (fun e => ?_)
  keq_hits
  rename_i a
  refine ds_for (di_seqS rfl hs.up ⟨fun i e m => ∃ e2, e = [some d, some (.loc a), e2] ∧ m = (a, .dct (spotsFrom 0 (ns.take i))) :: M, ⟨_, rfl, rfl⟩, ?_, ?_, ?_⟩)
  · rintro i e m _ ⟨e2, rfl, rfl⟩
    exact hs.up
  · rintro i x e m hx ⟨e2, rfl, rfl⟩
    obtain ⟨n, hn, rfl⟩ := map_get hx
    have hmem := List.mem_of_getElem? hn
    have hnm := ok.nm n hmem
    have hi : i < ns.length := (List.getElem?_eq_some_iff.mp hn).1
    have hni : n ∉ ns.take i := nodup_get ok.nd hn
    have hv : valD (spotsFrom 0 (ns.take i)) (.inr n) = none := by rw [spotsFrom_val, if_neg hni]
    keq_hits
    refine ⟨rfl, _, _, rfl, .str n, fun s e => by cases e; exact nameStr_line hnm, .keep ?_⟩
    rw [show nameD (.str n) = true from hnm]
    keq_hits
    refine ⟨_, .k (.l List.mem_cons_self) rfl, ?_⟩
    rw [hv]
    keq_hits
    refine dc_lenD (.l List.mem_cons_self) ?_
    keq_hits
    refine ⟨_, .k (M1 := []) rfl (by rw [spotsFrom_len, List.length_take]; exact small1000 (by omega)), ?_⟩
    refine ⟨_, rfl, ?_⟩
    rw [putD_new _ hv, spotsFrom_len, take_snoc hn, spotsFrom_app, List.length_take, Nat.zero_add]
    rfl
  · rintro e m ⟨e2, rfl, rfl⟩
    rw [List.length_map, List.take_length]
    keq_hits
    exact k a
end

def sp_spot_of {K : PySem.W.Frag} {mg : Str → Option Value} (_ : Tx K mg) : DSp := fun ds M P _ => ds.length = 2 ∧ ∃ s ns n, ds = [s, .str n] ∧ IsK M s (spotsFrom 0 ns) ∧ nameStr n = true ∧ n ∈ ns ∧ P (.int (idx ns n : Nat)) M
section
variable {P : Program} {w : World} {K : PySem.W.Frag} {mg : Str → Option Value} {base : Heap}
theorem ok_spot_of (T : Tx K mg) : FnOk P w K mg base CX0 2 T.a_spot_of T.fd_spot_of ["spots", "place"] (up K (sp_spot_of T)) := by
  refine Fun.okD0 T.F_spot_of sc_spot_of (fun ds M P X' h => h.1) (fun cdv A outer s H E hr => ?_)
  have hu := hu_of hr
  refine ⟨_, (pss_cons (ps_if (PW.pt (pw_or (pt_not (pt_val (pe_call (ok_is_name T) (hr.mono (by decide)) (by rfl) T.m_is_name T.F_is_name.kp T.b_is_name .nil pass0 (pa_cons (pv 1) pa_nil)))) (pw_or1 (pt_cmp (pc_dnotin hu (pv 1) (pv 0)))))) (pss_one ps_never) pss_nil)
      (pss_one (ps_ret (pe_dget hu (pv 0) (pv 1) (fun _ _ => rfl))))), fun ds M P X' h => ?_⟩
  obtain ⟨_, s, ns, n, rfl, hs, hn, hm, k⟩ := h
  have hv : valD (spotsFrom 0 ns) (.inr n) = some (.int (idx ns n : Nat)) := by rw [spotsFrom_val, if_pos hm, Nat.zero_add]
  keq_hits
  refine ⟨rfl, _, _, rfl, .str n, fun s e => by cases e; exact nameStr_line hn, .keep ?_⟩
  rw [show nameD (.str n) = true from hn]
  keq_hits
  refine ⟨_, .k hs rfl, ?_⟩
  rw [hv]
  keq_hits
  refine ⟨_, by rw [← hv]; exact .k hs rfl, k⟩
end

/-- a tie: its two places, its length -/
abbrev Tie := Str × Str × Int
def tieD (t : Tie) : D := .tup [.str t.1, .str t.2.1, .int t.2.2]
def pairN (i j : Nat) : List Key := [.inl (min i j : Nat), .inl (max i j : Nat)]
def pairT (ns : List Str) (t : Tie) : List Key := pairN (idx ns t.1) (idx ns t.2.1)
def lensOf (ns : List Str) (ts : List Tie) : List (List Key × D) := ts.map fun t => (pairT ns t, .int t.2.2)
structure TiesOk (ns : List Str) (ts : List Tie) : Prop where
  hi : ts.length ≤ 40
  mem : ∀ t ∈ ts, t.1 ∈ ns ∧ t.2.1 ∈ ns ∧ t.1 ≠ t.2.1 ∧ 1 ≤ t.2.2 ∧ t.2.2 ≤ 1000000
  nd : (ts.map (pairT ns)).Nodup
theorem valD_lens (ns : List Str) (k : List Key) : ∀ ts : List Tie, valD (lensOf ns ts) k = (ts.find? fun t => decide (pairT ns t = k)).map fun t => D.int t.2.2
  | [] => rfl
  | t :: ts => by
    show valD ((pairT ns t, _) :: lensOf ns ts) k = _
    rw [valD_cons, List.find?_cons, valD_lens ns k ts]
    by_cases h : pairT ns t = k
    · rw [if_pos h, decide_eq_true h]; rfl
    · rw [if_neg h, decide_eq_false h]
theorem idx_inj {ns : List Str} {a b : Str} (ha : a ∈ ns) (hb : b ∈ ns) (h : idx ns a = idx ns b) : a = b := by
  have h1 := idx_get ha
  have h2 := idx_get hb
  rw [h, h2] at h1
  exact (Option.some.inj h1).symm
theorem IsK.upD {M : MS} {d : D} {es : List (Key × D)} {p : Addr × MO} (h : IsK M d es) : IsK (p :: M) d es := by
  cases h with
  | v => exact .v
  | l m => exact .l (List.mem_cons_of_mem _ m)
  | k m => exact .k (List.mem_cons_of_mem _ m)
theorem IsL.upD {M : MS} {d : D} {es : List D} {p : Addr × MO} (h : IsL M d es) : IsL (p :: M) d es := by
  cases h with
  | v => exact .v
  | l m => exact .l (List.mem_cons_of_mem _ m)
theorem tie_get {ts : List Tie} {i : Nat} {x : D} (h : (ts.map tieD)[i]? = some x) : ∃ n, ts[i]? = some n ∧ x = tieD n := by
  rw [List.getElem?_map] at h
  cases hn : ts[i]? with
  | none => rw [hn] at h; cases h
  | some n => rw [hn] at h; exact ⟨n, rfl, (Option.some.inj h).symm⟩
def sp_lengths_of {K : PySem.W.Frag} {mg : Str → Option Value} (_ : Tx K mg) : DSp := fun ds M P _ => ds.length = 2 ∧ ∃ s t ns ts, ds = [s, t] ∧ IsK M s (spotsFrom 0 ns) ∧ NmOk ns ∧ IsL M t (ts.map tieD) ∧ TiesOk ns ts ∧ ∀ a, P (.loc a) ((a, .dcT (lensOf ns ts)) :: M)
section
variable {P : Program} {w : World} {K : PySem.W.Frag} {mg : Str → Option Value} {base : Heap}
theorem ok_lengths_of (T : Tx K mg) : FnOk P w K mg base CX0 3 T.a_lengths_of T.fd_lengths_of ["spots", "ties"] (up K (sp_lengths_of T)) := by
  refine Fun.okD0 T.F_lengths_of sc_lengths_of (fun ds M P X' h => h.1) (fun cdv A outer s H E hr => ?_)
  have hu := hu_of hr
  refine ⟨_, (pss_cons (ps_if (PW.pt (pw_or (pt_not (pt_val (pe_callB (call_isiTK (K := K) rfl) (by rfl) T.z_isinstance (by decide +kernel) (pa_cons (pv 1) (pa_cons (pe_tup (pa_cons (pe_bltnT (n := "list") (by rfl) T.z_list (by decide +kernel)) (pa_cons (pe_bltnT (n := "tuple") (by rfl) T.z_tuple (by decide +kernel)) pa_nil))) pa_nil))))) (pw_or1 (pt_cmpR op_gt (pe_callB (call_len_seqK (K := K) rfl) (by rfl) T.z_len (by decide +kernel) (pa_cons (pv 1) pa_nil)) (pe_globI rfl T.c_MOST_TIES) (nomark _))))) (pss_one ps_never) pss_nil)
      (pss_cons (ps_set (i := 2) sc_lengths_of.nd rfl (Or.inl rfl) pe_dnewT)
      (pss_cons (ps_for PassesOwn.never rfl (pi_listK (K := K) rfl (pv 1)) (pg_name (i := 3) sc_lengths_of.nd rfl (Or.inl rfl)) (pss_cons (ps_if (PW.pt (pw_or (pt_not (pt_val (pe_callB (call_isi_K (K := K) rfl) (by rfl) T.z_isinstance (by decide +kernel) (pa_cons (pv 3) (pa_cons (pe_bltnT (n := "tuple") (by rfl) T.z_tuple (by decide +kernel)) pa_nil))))) (pw_or1 (pt_cmpR op_ne (pe_callB (call_len_seqK (K := K) rfl) (by rfl) T.z_len (by decide +kernel) (pa_cons (pv 3) pa_nil)) pe_int (nomark _))))) (pss_one ps_never) pss_nil)
      (pss_cons (ps_set (i := 4) sc_lengths_of.nd rfl (Or.inl rfl) (pe_call (ok_pair_of T) (hr.mono (by decide)) (by rfl) T.m_pair_of T.F_pair_of.kp T.b_pair_of .nil pass0 (pa_cons (pe_call (ok_spot_of T) (hr.mono (by decide)) (by rfl) T.m_spot_of T.F_spot_of.kp T.b_spot_of .nil pass0 (pa_cons (pv 0) (pa_cons (pe_ix (ix_tupK (K := K) rfl) (pv 3) pe_int (fun _ _ => rfl)) pa_nil))) (pa_cons (pe_call (ok_spot_of T) (hr.mono (by decide)) (by rfl) T.m_spot_of T.F_spot_of.kp T.b_spot_of .nil pass0 (pa_cons (pv 0) (pa_cons (pe_ix (ix_tupK (K := K) rfl) (pv 3) pe_int (fun _ _ => rfl)) pa_nil))) pa_nil))))
      (pss_cons (ps_if (pt_cmpR op_eq (pe_ix (ix_tupK (K := K) rfl) (pv 4) pe_int (fun _ _ => rfl)) (pe_ix (ix_tupK (K := K) rfl) (pv 4) pe_int (fun _ _ => rfl)) (nomark _)) (pss_one ps_never) pss_nil)
      (pss_cons (ps_if (pt_not (pt_val (pe_call (ok_is_whole T) (hr.mono (by decide)) (by rfl) T.m_is_whole T.F_is_whole.kp T.b_is_whole .nil pass0 (pa_cons (pe_ix (ix_tupK (K := K) rfl) (pv 3) pe_int (fun _ _ => rfl)) (pa_cons pe_int (pa_cons (pe_globI rfl T.c_MOST_LENGTH) pa_nil)))))) (pss_one ps_never) pss_nil)
      (pss_cons (ps_if (pt_cmp (pc_din hu (pv 4) (pv 2))) (pss_one ps_never) pss_nil)
      (pss_one (ps_dput hu (pv 2) (pv 4) (pe_ix (ix_tupK (K := K) rfl) (pv 3) pe_int (fun _ _ => rfl)) rfl))))))))
      (pss_one (ps_ret (pv 2)))))), fun ds M P X' h => ?_⟩
  obtain ⟨_, s, t, ns, ts, rfl, hs, okn, ht, ok, k⟩ := h
  have h1 := ok.hi
  keq_hits
  refine ⟨by show 2 ≤ sizeLine; decide, ?_⟩
  keq_hits
  refine dc_isiLT (.lst ht) ?_
  keq_hits
  refine dc_lenL ht ?_
  rw [List.length_map]
  keq_hits
  refine w_ifd (fun e => absurd e (by omega)) (fun e => ?_)
  keq_hits
  rename_i a
  refine ds_for (di_list ?_)
  keq_hits
  refine ⟨_, ht.upD, fun i e m => ∃ e3 e4, e = [some s, some t, some (.loc a), e3, e4] ∧ m = (a, .dcT (lensOf ns (ts.take i))) :: M, ⟨_, _, rfl, rfl⟩, ?_, ?_, ?_⟩
  · rintro i e m _ ⟨e3, e4, rfl, rfl⟩
    exact ht.upD
  · rintro i x e m hx ⟨e3, e4, rfl, rfl⟩
    obtain ⟨tt, hn, rfl⟩ := tie_get hx
    have hi : i < ts.length := (List.getElem?_eq_some_iff.mp hn).1
    obtain ⟨m1, m2, m3, m4, m5⟩ := ok.mem tt (List.mem_of_getElem? hn)
    have hne : idx ns tt.1 ≠ idx ns tt.2.1 := fun z => m3 (idx_inj m1 m2 z)
    have hnd : pairT ns tt ∉ (ts.take i).map (pairT ns) := by
      rw [List.map_take]
      exact nodup_get ok.nd (by rw [List.getElem?_map, hn]; rfl)
    have hv : valD (lensOf ns (ts.take i)) (pairT ns tt) = none := by
      rw [valD_lens]
      cases hf : (ts.take i).find? fun t => decide (pairT ns t = pairT ns tt) with
      | none => rfl
      | some u =>
        have g1 := List.mem_of_find?_eq_some hf
        have g2 := List.find?_some hf
        exact absurd (List.mem_map.mpr ⟨u, g1, of_decide_eq_true g2⟩) hnd
    unfold tieD
    keq_hits
    refine dc_isi (by simp) (.tup _) ?_
    keq_hits
    refine dc_lenT ?_
    keq_hits
    refine dop_ixT (d := .str tt.1) rfl ?_
    keq_hits
    refine ⟨rfl, _, ns, _, rfl, hs.upD, okn.nm _ m1, m1, .keep ?_⟩
    keq_hits
    refine dop_ixT (d := .str tt.2.1) rfl ?_
    keq_hits
    refine ⟨rfl, _, ns, _, rfl, hs.upD, okn.nm _ m2, m2, .keep ?_⟩
    keq_hits
    refine ⟨rfl, _, _, rfl, .keep ?_⟩
    keq_hits
    refine dop_ixT (d := .int _) rfl ?_
    keq_hits
    refine dop_ixT (d := .int _) rfl ?_
    keq_hits
    refine w_ifd (fun e => absurd e (by omega)) (fun e => ?_)
    keq_hits
    refine dop_ixT (d := .int tt.2.2) rfl ?_
    keq_hits
    refine ⟨rfl, _, _, _, _, rfl, .int _, .keep ?_⟩
    have hw : wholeD 1 1000000 (.int tt.2.2) = true := by
      show (decide _ && decide _) = true
      rw [decide_eq_true m4, decide_eq_true m5]; rfl
    rw [hw]
    keq_hits
    refine ⟨_, .t (.l List.mem_cons_self) (k := pairT ns tt) rfl, ?_⟩
    rw [hv]
    keq_hits
    refine dop_ixT (d := .int tt.2.2) rfl ?_
    keq_hits
    refine ⟨_, .t (M1 := []) (k := pairT ns tt) rfl (by unfold lensOf; rw [List.length_map, List.length_take]; exact small1000 (by omega)), ?_⟩
    refine ⟨_, _, rfl, ?_⟩
    rw [putD_new _ hv, take_snoc hn]
    unfold lensOf
    rw [List.map_append]
    rfl
  · rintro e m ⟨e3, e4, rfl, rfl⟩
    rw [List.length_map, List.take_length]
    keq_hits
    exact k a
end

def webF (ns : List Str) (ts : List Tie) : List (Str × D) := [("spots", .dct (spotsFrom 0 ns)), ("names", .lst (ns.map D.str)), ("lengths", .dcT (lensOf ns ts))]
def webD (C : Addr) (ns : List Str) (ts : List Tie) : D := .obj C (webF ns ts)
def sp_Web___init__ {K : PySem.W.Frag} {mg : Str → Option Value} (T : Tx K mg) : DSp := fun ds M P _ => ds.length = 3 ∧ ∃ x p t ns ts M0, ds = [.loc x, p, t] ∧ M = (x, .ins T.C_Web []) :: M0 ∧ IsL M p (ns.map D.str) ∧ NmOk ns ∧ IsL M t (ts.map tieD) ∧ TiesOk ns ts ∧ P .non ((x, .ins T.C_Web (webF ns ts)) :: M0)
theorem IsL.to {M : MS} {x : Addr} {o o' : MO} {d : D} {ds : List D} (h : IsL ((x, o) :: M) d ds) (ho : ∀ ds, o ≠ .lst ds) : IsL ((x, o') :: M) d ds := by
  cases h with
  | v => exact .v
  | l m =>
    rcases List.mem_cons.mp m with e | m
    · cases e; exact absurd rfl (ho _)
    · exact .l (List.mem_cons_of_mem _ m)
section
variable {P : Program} {w : World} {K : PySem.W.Frag} {mg : Str → Option Value} {base : Heap}
theorem ok_Web___init__ (T : Tx K mg) : FnOk P w K mg base CX0 4 T.a_Web___init__ T.fd_Web___init__ ["self", "places", "ties"] (up K (sp_Web___init__ T)) := by
  refine Fun.okD0 T.F_Web___init__ sc_Web___init__ (fun ds M P X' h => h.1) (fun cdv A outer s H E hr => ?_)
  have hu := hu_of hr
  refine ⟨_, (pss_cons (ps_fldK (K := K) rfl (pv 0) (pe_call (ok_spots_of T) (hr.mono (by decide)) (by rfl) T.m_spots_of T.F_spots_of.kp T.b_spots_of .nil pass0 (pa_cons (pv 1) pa_nil)) rfl)
      (pss_cons (ps_fldK (K := K) rfl (pv 0) (pe_callTy (call_list_ofK (K := K) rfl) (by rfl) T.z_list (by decide +kernel) (pa_cons (pv 1) pa_nil)) rfl)
      (pss_one (ps_fldK (K := K) rfl (pv 0) (pe_call (ok_lengths_of T) (hr.mono (by decide)) (by rfl) T.m_lengths_of T.F_lengths_of.kp T.b_lengths_of .nil pass0 (pa_cons (pe_fldK (K := K) rfl (pv 0) rfl) (pa_cons (pv 2) pa_nil))) rfl)))), fun ds M P X' h => ?_⟩
  obtain ⟨_, x, p, t, ns, ts, M0, rfl, rfl, hp, okn, ht, ok, k⟩ := h
  have hkp : ∀ ss, p ≠ .ktp ss := fun ss e => by subst e; cases hp
  keq_hits
  refine ⟨rfl, _, ns, rfl, .l hp, hkp, okn, fun a => .dct (M1 := []) (.keep ?_)⟩
  keq_hits
  refine ⟨_, _, _, [], M0, rfl, rfl, T.cl_Web, T.n_Web_spots, by show 0 < 1000; decide, ?_⟩
  keq_hits
  have hp1 := hp.to (o' := .ins T.C_Web (putFD "spots" (.dct (spotsFrom 0 ns)) [])) (fun _ z => nomatch z)
  refine dc_listV hp1 ?_
  keq_hits
  refine ⟨_, _, _, [], M0, rfl, rfl, T.cl_Web, T.n_Web_names, by show 1 < 1000; decide, ?_⟩
  keq_hits
  refine ⟨_, _, _, .l (.head _), T.cl_Web, T.n_Web_spots, rfl, ?_⟩
  keq_hits
  refine ⟨rfl, _, _, ns, ts, rfl, .v, okn, ht.to (fun _ z => nomatch z), ok, fun a => .dcT (M1 := []) (.keep ?_)⟩
  keq_hits
  refine ⟨_, _, _, [], M0, rfl, rfl, T.cl_Web, T.n_Web_lengths, by show 2 < 1000; decide, ?_⟩
  keq_hits
  exact k
end

def sp_Web_places {K : PySem.W.Frag} {mg : Str → Option Value} (T : Tx K mg) : DSp := fun ds M P _ => ds.length = 1 ∧ ∃ ns ts, ds = [webD T.C_Web ns ts] ∧ ∀ a, P (.loc a) ((a, .lst (ns.map D.str)) :: M)
section
variable {P : Program} {w : World} {K : PySem.W.Frag} {mg : Str → Option Value} {base : Heap}
theorem ok_Web_places (T : Tx K mg) : FnOk P w K mg base CX0 1 T.a_Web_places T.fd_Web_places ["self"] (up K (sp_Web_places T)) := by
  refine Fun.okD0 T.F_Web_places sc_Web_places (fun ds M P X' h => h.1) (fun cdv A outer s H E hr => ?_)
  have hu := hu_of hr
  refine ⟨_, (pss_one (ps_ret (pe_callTy (call_list_ofK (K := K) rfl) (by rfl) T.z_list (by decide +kernel) (pa_cons (pe_fldK (K := K) rfl (pv 0) rfl) pa_nil)))), fun ds M P X' h => ?_⟩
  obtain ⟨_, ns, ts, rfl, k⟩ := h
  keq_hits
  refine ⟨_, _, _, .v, T.cl_Web, T.n_Web_names, rfl, ?_⟩
  keq_hits
  exact dc_listL .v k
end

def sp_Web_number {K : PySem.W.Frag} {mg : Str → Option Value} (T : Tx K mg) : DSp := fun ds M P _ => ds.length = 2 ∧ ∃ ns ts n, ds = [webD T.C_Web ns ts, .str n] ∧ NmOk ns ∧ n ∈ ns ∧ P (.int (idx ns n : Nat)) M
section
variable {P : Program} {w : World} {K : PySem.W.Frag} {mg : Str → Option Value} {base : Heap}
theorem ok_Web_number (T : Tx K mg) : FnOk P w K mg base CX0 3 T.a_Web_number T.fd_Web_number ["self", "place"] (up K (sp_Web_number T)) := by
  refine Fun.okD0 T.F_Web_number sc_Web_number (fun ds M P X' h => h.1) (fun cdv A outer s H E hr => ?_)
  have hu := hu_of hr
  refine ⟨_, (pss_one (ps_ret (pe_call (ok_spot_of T) (hr.mono (by decide)) (by rfl) T.m_spot_of T.F_spot_of.kp T.b_spot_of .nil pass0 (pa_cons (pe_fldK (K := K) rfl (pv 0) rfl) (pa_cons (pv 1) pa_nil))))), fun ds M P X' h => ?_⟩
  obtain ⟨_, ns, ts, n, rfl, ok, hm, k⟩ := h
  keq_hits
  refine ⟨_, _, _, .v, T.cl_Web, T.n_Web_spots, rfl, ?_⟩
  keq_hits
  exact ⟨rfl, _, ns, n, rfl, .v, ok.nm _ hm, hm, .keep k⟩
end

/-- the length of the tie of two places -/
def tlen (ns : List Str) (ts : List Tie) (a b : Str) : Option Int := (ts.find? fun t => decide (pairT ns t = pairN (idx ns a) (idx ns b))).map (·.2.2)
def entD (p : Str × Int) : D := .tup [.str p.1, .int p.2]
def besidesOf (ns : List Str) (ts : List Tie) (a : Str) (bs : List Str) : List (Str × Int) := bs.filterMap fun b => (tlen ns ts a b).map fun l => (b, l)
def besides (ns : List Str) (ts : List Tie) (a : Str) : List (Str × Int) := besidesOf ns ts a ns
theorem valD_tlen (ns : List Str) (ts : List Tie) (a b : Str) : valD (lensOf ns ts) (pairN (idx ns a) (idx ns b)) = (tlen ns ts a b).map D.int := by
  rw [valD_lens]; unfold tlen
  cases ts.find? fun t => decide (pairT ns t = pairN (idx ns a) (idx ns b)) <;> rfl
theorem idx_at {ns : List Str} (h : ns.Nodup) {i : Nat} {n : Str} (e : ns[i]? = some n) : idx ns n = i := by
  have hm := List.mem_of_getElem? e
  have h1 := idx_get hm
  obtain ⟨hi, e1⟩ := List.getElem?_eq_some_iff.mp e
  obtain ⟨hj, e2⟩ := List.getElem?_eq_some_iff.mp h1
  exact (List.getElem_inj h).mp (e2.trans e1.symm)
def nmN (ns : List Str) (i : Nat) : Str := ns.getD i Str.empty
theorem nmN_get {ns : List Str} {i : Nat} (h : i < ns.length) : ns[i]? = some (nmN ns i) := by
  unfold nmN; rw [List.getD_eq_getElem?_getD, List.getElem?_eq_getElem h]; rfl
theorem nmN_mem {ns : List Str} {i : Nat} (h : i < ns.length) : nmN ns i ∈ ns := List.mem_of_getElem? (nmN_get h)
theorem nmN_idx {ns : List Str} (nd : ns.Nodup) {i : Nat} (h : i < ns.length) : idx ns (nmN ns i) = i := by
  have h1 := idx_get (nmN_mem h)
  have hl : idx ns (nmN ns i) < ns.length := (List.getElem?_eq_some_iff.mp h1).1
  exact nodup_ix nd h1 (nmN_get h)
theorem nmN_of {ns : List Str} {a : Str} (h : a ∈ ns) : nmN ns (idx ns a) = a := by
  unfold nmN; rw [List.getD_eq_getElem?_getD, idx_get h]; rfl
theorem idx_lt' {ns : List Str} {a : Str} (h : a ∈ ns) : idx ns a < ns.length := (List.getElem?_eq_some_iff.mp (idx_get h)).1
def sp_Web_beside {K : PySem.W.Frag} {mg : Str → Option Value} (T : Tx K mg) : DSp := fun ds M P _ => ds.length = 2 ∧ ∃ ns ts n, ds = [webD T.C_Web ns ts, .str n] ∧ NmOk ns ∧ n ∈ ns ∧ ∀ a, P (.loc a) ((a, .lst ((besides ns ts n).map entD)) :: M)
section
variable {P : Program} {w : World} {K : PySem.W.Frag} {mg : Str → Option Value} {base : Heap}
theorem ok_Web_beside (T : Tx K mg) : FnOk P w K mg base CX0 4 T.a_Web_beside T.fd_Web_beside ["self", "place"] (up K (sp_Web_beside T)) := by
  refine Fun.okD0 T.F_Web_beside sc_Web_beside (fun ds M P X' h => h.1) (fun cdv A outer s H E hr => ?_)
  have hu := hu_of hr
  refine ⟨_, (pss_cons (ps_set (i := 2) sc_Web_beside.nd rfl (Or.inl rfl) (pe_meth (pv 0) T.cl_Web T.mm_Web_number (ok_Web_number T) (hr.mono (by decide)) T.b_Web_number .nil pass0 (pa_cons (pv 1) pa_nil)))
      (pss_cons (ps_set (i := 3) sc_Web_beside.nd rfl (Or.inl rfl) (pe_lst pa_nil))
      (pss_cons (ps_for PassesOwn.never rfl (pi_enumK (K := K) rfl (by rfl) T.z_enumerate (pa_cons (pe_fldK (K := K) rfl (pv 0) rfl) pa_nil)) (pg_tupK (K := K) rfl rfl (pgs_cons (pg_name (i := 4) sc_Web_beside.nd rfl (Or.inl rfl)) (pgs_cons (pg_name (i := 5) sc_Web_beside.nd rfl (Or.inl rfl)) pgs_nil))) (pss_one (ps_if (pt_cmp (pc_din hu (pe_call (ok_pair_of T) (hr.mono (by decide)) (by rfl) T.m_pair_of T.F_pair_of.kp T.b_pair_of .nil pass0 (pa_cons (pv 2) (pa_cons (pv 4) pa_nil))) (pe_fldK (K := K) rfl (pv 0) rfl))) (pss_one (ps_expr (pe_bmK (K := K) rfl PySem.F.plainAttrs_list PySem.F.slot_list_append PySem.F.type_list_append mt_append (pv 3) (pa_cons (pe_tup (pa_cons (pv 5) (pa_cons (pe_dget hu (pe_fldK (K := K) rfl (pv 0) rfl) (pe_call (ok_pair_of T) (hr.mono (by decide)) (by rfl) T.m_pair_of T.F_pair_of.kp T.b_pair_of .nil pass0 (pa_cons (pv 2) (pa_cons (pv 4) pa_nil))) (fun _ _ => rfl)) pa_nil))) pa_nil)))) pss_nil)))
      (pss_one (ps_ret (pv 3)))))), fun ds M P X' h => ?_⟩
  obtain ⟨_, ns, ts, n, rfl, ok, hm, k⟩ := h
  have h12 := ok.hi
  keq_hits
  refine ⟨_, .v, rfl, ?_⟩
  keq_hits
  refine ⟨rfl, ns, ts, n, rfl, ok, hm, .keep ?_⟩
  keq_hits
  refine de_lst ?_
  keq_hits
  refine ⟨by show 0 ≤ sizeLine; decide, fun a => ?_⟩
  keq_hits
  refine ds_for (di_enum ?_)
  keq_hits
  refine ⟨_, _, _, .v, T.cl_Web, T.n_Web_names, rfl, ?_⟩
  keq_hits
  refine ⟨_, ns.map D.str, rfl, .v, fun i e m => ∃ e4 e5, e = [some (webD T.C_Web ns ts), some (.str n), some (.int (idx ns n : Nat)), some (.loc a), e4, e5] ∧ m = (a, .lst ((besidesOf ns ts n (ns.take i)).map entD)) :: M, ⟨_, _, rfl, rfl⟩, fun _ _ _ _ _ => .v, ?_, ?_⟩
  · rintro i x e m hx ⟨e4, e5, rfl, rfl⟩
    rw [enumD_get] at hx
    obtain ⟨y, hy, rfl⟩ := Option.map_eq_some_iff.mp hx
    obtain ⟨b, hb, rfl⟩ := map_get hy
    have hi : i < ns.length := (List.getElem?_eq_some_iff.mp hb).1
    have hix := idx_at ok.nd hb
    have hlen : ((besidesOf ns ts n (ns.take i)).map entD).length < sizeLine := by
      rw [List.length_map]
      refine small1000 (Nat.le_trans (List.length_filterMap_le _ _) ?_)
      rw [List.length_take]; omega
    have hv := valD_tlen ns ts n b
    rw [hix] at hv
    have hnx : besidesOf ns ts n (ns.take (i + 1)) = besidesOf ns ts n (ns.take i) ++ ((tlen ns ts n b).map fun l => (b, l)).toList := by
      unfold besidesOf
      rw [take_snoc hb, List.filterMap_append]
      refine congrArg (_ ++ ·) ?_
      show List.filterMap _ [b] = _
      rw [List.filterMap_cons]
      cases tlen ns ts n b <;> rfl
    keq_hits
    refine ⟨rfl, _, _, rfl, .keep ?_⟩
    keq_hits
    refine ⟨_, _, _, .v, T.cl_Web, T.n_Web_lengths, rfl, ?_⟩
    keq_hits
    refine ⟨_, .t .v (k := pairN (idx ns n) i) rfl, ?_⟩
    rw [hv]
    cases hl : tlen ns ts n b with
    | none =>
      rw [hl] at hnx
      keq_hits
      refine ⟨_, _, rfl, ?_⟩
      rw [hnx, Option.map_none, Option.toList_none, List.append_nil]
    | some l =>
      rw [hl] at hnx hv
      keq_hits
      refine ⟨.inl ⟨rfl, _, .l (.head _)⟩, ?_⟩
      keq_hits
      refine ⟨_, _, _, .v, T.cl_Web, T.n_Web_lengths, rfl, ?_⟩
      keq_hits
      refine ⟨rfl, _, _, rfl, .keep ?_⟩
      keq_hits
      refine ⟨.int l, by have g := GetD.t (M := (a, .lst ((besidesOf ns ts n (ns.take i)).map entD)) :: M) (d := .dcT (lensOf ns ts)) (y := .tup [.int (min (idx ns n) i : Nat), .int (max (idx ns n) i : Nat)]) .v (k := pairN (idx ns n) i) rfl; rw [hv] at g; exact g, ?_⟩
      keq_hits
      refine ⟨by show 2 ≤ sizeLine; decide, ?_⟩
      keq_hits
      refine dm_append (M1 := []) hlen ?_
      keq_hits
      refine ⟨_, _, rfl, ?_⟩
      rw [hnx, List.map_append]; rfl
  · rintro e m ⟨e4, e5, rfl, rfl⟩
    rw [enumD_len, List.length_map, List.take_length]
    keq_hits
    exact k a
end

def pairsZ (ns : List Str) (ts : List Tie) : List (Int × Int) := ts.map fun t => (((min (idx ns t.1) (idx ns t.2.1) : Nat) : Int), ((max (idx ns t.1) (idx ns t.2.1) : Nat) : Int))
theorem lens_keys (ns : List Str) (ts : List Tie) : (lensOf ns ts).map (·.1) = (pairsZ ns ts).map pKey := by
  unfold lensOf pairsZ
  rw [List.map_map, List.map_map]
  rfl
/-- a tie as it is told -/
def tiK (ns : List Str) (ts : List Tie) (q : Int × Int) : D := .tup [.str (nmN ns q.1.toNat), .str (nmN ns q.2.toNat), (valD (lensOf ns ts) (pKey q)).getD .non]
def sp_Web_ties {K : PySem.W.Frag} {mg : Str → Option Value} (T : Tx K mg) : DSp := fun ds M P _ => ds.length = 1 ∧ ∃ ns ts, ds = [webD T.C_Web ns ts] ∧ TiesOk ns ts ∧ ∀ (zs : List (Int × Int)) (a : Addr), zs.Perm (pairsZ ns ts) → zs.Pairwise leP → P (.loc a) ((a, .lst (zs.map (tiK ns ts))) :: M)
theorem lens_some {ns : List Str} {ts : List Tie} {q : Int × Int} (h : q ∈ pairsZ ns ts) : ∃ t ∈ ts, q = (((min (idx ns t.1) (idx ns t.2.1) : Nat) : Int), ((max (idx ns t.1) (idx ns t.2.1) : Nat) : Int)) ∧ ∃ l, valD (lensOf ns ts) (pKey q) = some (.int l) := by
  obtain ⟨t, ht, rfl⟩ := List.mem_map.mp h
  refine ⟨t, ht, rfl, ?_⟩
  rw [valD_lens]
  cases hf : ts.find? (fun u => decide (pairT ns u = pKey (((min (idx ns t.1) (idx ns t.2.1) : Nat) : Int), ((max (idx ns t.1) (idx ns t.2.1) : Nat) : Int)))) with
  | some u => exact ⟨_, rfl⟩
  | none => exact absurd (decide_eq_true (show pairT ns t = pKey _ from rfl)) (by have := List.find?_eq_none.mp hf t ht; exact this)
section
variable {P : Program} {w : World} {K : PySem.W.Frag} {mg : Str → Option Value} {base : Heap}
theorem ok_Web_ties (T : Tx K mg) : FnOk P w K mg base CX0 1 T.a_Web_ties T.fd_Web_ties ["self"] (up K (sp_Web_ties T)) := by
  refine Fun.okD0 T.F_Web_ties sc_Web_ties (fun ds M P X' h => h.1) (fun cdv A outer s H E hr => ?_)
  have hu := hu_of hr
  refine ⟨_, (pss_one (ps_ret (pe_lc (own := [("one", 1), ("other", 2)]) rfl sc_Web_ties.nd (pi_listK (K := K) rfl (pe_callB (cr_sortedDT rfl) (by rfl) T.z_sorted (by decide +kernel) (pa_cons (pe_fldK (K := K) rfl (pv 0) rfl) pa_nil))) (blkOk_by (N := slots_Web_ties) (sc := defScope s_Web_ties) (by decide +kernel)) (fun _ _ _ _ _ => by exact (pg_tupK (K := K) rfl rfl (pgs_cons (pg_name (i := 1) sc_Web_ties.nd rfl (Or.inl rfl)) (pgs_cons (pg_name (i := 2) sc_Web_ties.nd rfl (Or.inl rfl)) pgs_nil)))) (fun _ _ _ _ _ => pts_nil) (fun _ _ _ _ _ => by exact (pe_tup (pa_cons (pe_ix (ix_listK (K := K) rfl) (pe_fldK (K := K) rfl (pv 0) rfl) (pv 1) (fun _ _ => rfl)) (pa_cons (pe_ix (ix_listK (K := K) rfl) (pe_fldK (K := K) rfl (pv 0) rfl) (pv 2) (fun _ _ => rfl)) (pa_cons (pe_dget hu (pe_fldK (K := K) rfl (pv 0) rfl) (pe_tup (pa_cons (pv 1) (pa_cons (pv 2) pa_nil))) (fun _ _ => rfl)) pa_nil)))))))), fun ds M P X' h => ?_⟩
  obtain ⟨_, ns, ts, rfl, ok, k⟩ := h
  refine ds_fz ?_
  keq_hits
  refine de_fz (de_lc (own_tup (owns_cons (own_name (by simp)) (owns_cons (own_name (by simp)) owns_nil))) (di_list ?_))
  keq_hits
  refine ⟨_, _, _, .v, T.cl_Web, T.n_Web_lengths, rfl, ?_⟩
  keq_hits
  refine dc_sortDT .v (lens_keys ns ts) fun zs z hp hs => ?_
  have hl : zs.length ≤ 40 := by rw [hp.length_eq]; unfold pairsZ; rw [List.length_map]; exact ok.hi
  refine ⟨_, .l List.mem_cons_self, fun i acc m => m = (z, .lst (zs.map pairIJ)) :: M ∧ i ≤ zs.length ∧ acc = (zs.take i).map (tiK ns ts), ⟨rfl, Nat.zero_le _, rfl⟩, fun _ _ _ _ ⟨e, _⟩ => by subst e; exact .l (List.mem_cons_of_mem _ List.mem_cons_self), ?_, ?_⟩
  · rintro i x acc m b hx ⟨rfl, hi, rfl⟩
    rw [List.getElem?_map] at hx
    obtain ⟨q, hq, rfl⟩ := Option.map_eq_some_iff.mp hx
    have hi' : i < zs.length := (List.getElem?_eq_some_iff.mp hq).1
    obtain ⟨t, ht, e1, l, hv⟩ := lens_some (hp.subset (List.mem_of_getElem? hq))
    obtain ⟨m1, m2, _⟩ := ok.mem t ht
    have i1 := idx_lt' m1
    have i2 := idx_lt' m2
    have q1 : q.1 = ((q.1.toNat : Nat) : Int) := by rw [e1]; omega
    have q2 : q.2 = ((q.2.toNat : Nat) : Int) := by rw [e1]; omega
    have l1 : q.1.toNat < ns.length := by rw [e1]; simp only [Int.toNat_natCast]; omega
    have l2 : q.2.toNat < ns.length := by rw [e1]; simp only [Int.toNat_natCast]; omega
    refine dg_tup rfl ?_
    keq_hits
    refine ⟨_, _, _, .v, T.cl_Web, T.n_Web_names, rfl, ?_⟩
    keq_hits
    refine dop_ixL (d := .str (nmN ns q.1.toNat)) .v (by rw [q1, Int.toNat_natCast]; exact atI_nat' (by rw [List.getElem?_map, nmN_get l1]; rfl)) ?_
    refine da_cons (de_op (de_fld (de_var rfl ⟨_, _, _, .v, T.cl_Web, T.n_Web_names, rfl, ?_⟩)))
    keq_hits
    refine dop_ixL (d := .str (nmN ns q.2.toNat)) .v (by rw [q2, Int.toNat_natCast]; exact atI_nat' (by rw [List.getElem?_map, nmN_get l2]; rfl)) ?_
    keq_hits
    refine ⟨_, _, _, .v, T.cl_Web, T.n_Web_lengths, rfl, ?_⟩
    keq_hits
    refine ⟨by show 2 ≤ sizeLine; decide, ?_⟩
    refine ⟨.int l, by have g := GetD.t (M := (b, MO.lst ((zs.take i).map (tiK ns ts))) :: (z, .lst (zs.map pairIJ)) :: M) (d := .dcT (lensOf ns ts)) (y := .tup [.int q.1, .int q.2]) .v (k := pKey q) rfl; rw [hv] at g; exact g, ?_⟩
    keq_hits
    refine ⟨by show 3 ≤ sizeLine; decide, ?_⟩
    refine .keep ⟨_, rfl, ?_, rfl, hi', ?_⟩
    · rw [List.length_map, List.length_take]; exact small1000 (by omega)
    · rw [take_snoc hq, List.map_append]
      show _ ++ [D.tup [.str (nmN ns q.1.toNat), .str (nmN ns q.2.toNat), .int l]] = _ ++ [tiK ns ts q]
      unfold tiK
      rw [hv]
      rfl
  · rintro acc m b ⟨rfl, hi, rfl⟩
    rw [List.length_map, List.take_length]
    exact .keep (.drop (.cons_cons _ (.cons _ (List.Sublist.refl _))) (.keep (k zs b hp hs)))
end

/-! ### ways and how far: plain -/
section
variable (ns : List Str) (ts : List Tie)
inductive Way : Str → Str → Int → Prop
  | nil (a : Str) : Way a a 0
  | snoc {a b c : Str} {L l : Int} : Way a b L → tlen ns ts b c = some l → c ∈ ns → Way a c (L + l)
/-- o is how far b is from a -/
def IsFar (a b : Str) : Option Int → Prop
  | some d => Way ns ts a b d ∧ ∀ L, Way ns ts a b L → d ≤ L
  | none => ∀ L, ¬ Way ns ts a b L
open Classical in
noncomputable def dist (a b : Str) : Option Int := if h : ∃ d, IsFar ns ts a b (some d) then some (Classical.choose h) else none
end
section
variable {ns : List Str} {ts : List Tie}
theorem IsFar.uniq {a b : Str} {o p : Option Int} (h : IsFar ns ts a b o) (g : IsFar ns ts a b p) : o = p := by
  cases o with
  | none => cases p with
    | none => rfl
    | some e => exact absurd g.1 (h e)
  | some d => cases p with
    | none => exact absurd h.1 (g d)
    | some e => exact congrArg some (Int.le_antisymm (h.2 _ g.1) (g.2 _ h.1))
theorem dist_of {a b : Str} {o : Option Int} (h : IsFar ns ts a b o) : dist ns ts a b = o := by
  unfold dist
  split
  · rename_i e
    exact IsFar.uniq (Classical.choose_spec e) h
  · rename_i e
    cases o with
    | none => rfl
    | some d => exact absurd ⟨d, h⟩ e
theorem pairN_comm (i j : Nat) : pairN i j = pairN j i := by unfold pairN; rw [Nat.min_comm, Nat.max_comm]
theorem pairN_inj {i j k l : Nat} (h : pairN i j = pairN k l) : (i = k ∧ j = l) ∨ (i = l ∧ j = k) := by
  unfold pairN at h
  injection h with h1 h2
  injection h2 with h2 _
  have e1 := Int.ofNat.inj (Sum.inl.inj h1)
  have e2 := Int.ofNat.inj (Sum.inl.inj h2)
  omega
theorem tlen_comm (a b : Str) : tlen ns ts a b = tlen ns ts b a := by unfold tlen; rw [pairN_comm]
theorem tlen_mem {a b : Str} {l : Int} (h : tlen ns ts a b = some l) : ∃ t ∈ ts, pairT ns t = pairN (idx ns a) (idx ns b) ∧ t.2.2 = l := by
  obtain ⟨t, h1, h2⟩ := Option.map_eq_some_iff.mp h
  exact ⟨t, List.mem_of_find?_eq_some h1, of_decide_eq_true (List.find?_some h1 :), h2⟩
theorem tlen_pos {a b : Str} {l : Int} (ok : TiesOk ns ts) (h : tlen ns ts a b = some l) : 1 ≤ l ∧ l ≤ 1000000 := by
  obtain ⟨t, h1, _, rfl⟩ := tlen_mem h
  exact (ok.mem t h1).2.2.2
theorem tlen_self {a : Str} (ok : TiesOk ns ts) : tlen ns ts a a = none := by
  cases h : tlen ns ts a a with
  | none => rfl
  | some l =>
    obtain ⟨t, h1, h2, _⟩ := tlen_mem h
    obtain ⟨m1, m2, m3, _⟩ := ok.mem t h1
    rcases pairN_inj h2 with ⟨e1, e2⟩ | ⟨e1, e2⟩ <;> exact absurd (idx_inj m1 m2 (e1.trans e2.symm)) m3
theorem Way.nn {a b : Str} {L : Int} (ok : TiesOk ns ts) (h : Way ns ts a b L) : 0 ≤ L := by
  induction h with
  | nil => exact Int.le_refl 0
  | snoc _ h2 _ ih => have := (tlen_pos ok h2).1; omega
theorem Way.mem {a b : Str} {L : Int} (h : Way ns ts a b L) (ha : a ∈ ns) : b ∈ ns := by
  cases h with
  | nil => exact ha
  | snoc _ _ h => exact h
theorem Way.app {a b c : Str} {L1 L2 : Int} (h : Way ns ts a b L1) (g : Way ns ts b c L2) : Way ns ts a c (L1 + L2) := by
  induction g with
  | nil => rw [Int.add_zero]; exact h
  | snoc _ h2 h3 ih => rw [← Int.add_assoc]; exact .snoc ih h2 h3
theorem Way.one {a b : Str} {l : Int} (h : tlen ns ts a b = some l) (hb : b ∈ ns) : Way ns ts a b l := by
  have := Way.snoc (.nil a) h hb
  rwa [Int.zero_add] at this
theorem Way.rev {a b : Str} {L : Int} (ha : a ∈ ns) (h : Way ns ts a b L) : Way ns ts b a L := by
  induction h with
  | nil => exact .nil _
  | @snoc b c L l h1 h2 h3 ih => rw [Int.add_comm]; exact (Way.one (by rw [tlen_comm]; exact h2) (h1.mem ha)).app ih
theorem IsFar.rev {a b : Str} {o : Option Int} (ha : a ∈ ns) (hb : b ∈ ns) (h : IsFar ns ts a b o) : IsFar ns ts b a o := by
  cases o with
  | none => exact fun L w => h L (w.rev hb)
  | some d => exact ⟨h.1.rev ha, fun L w => h.2 L (w.rev hb)⟩
/-! numbers by places -/
def encN (r : List (Str × Int)) : List (Key × D) := r.map fun p => (.inr p.1, .int p.2)
def upR (r : List (Str × Int)) (n : Str) (x : Int) : List (Str × Int) := if (look r n).isSome = true then r.map (fun p => if p.1 = n then (p.1, x) else p) else r ++ [(n, x)]
theorem look_nil {α : Type} (n : Str) : look ([] : List (Str × α)) n = none := rfl
theorem look_cons {α : Type} (p : Str × α) (r : List (Str × α)) (n : Str) : look (p :: r) n = if p.1 = n then some p.2 else look r n := by
  unfold look
  rw [List.find?_cons]
  by_cases h : p.1 = n
  · rw [decide_eq_true h, if_pos h]; rfl
  · rw [decide_eq_false h, if_neg h]
theorem look_app {α : Type} (r t : List (Str × α)) (n : Str) : look (r ++ t) n = (look r n).or (look t n) := by
  induction r with
  | nil => rfl
  | cons p r ih =>
    rw [List.cons_append, look_cons, look_cons, ih]
    by_cases h : p.1 = n
    · rw [if_pos h, if_pos h]; rfl
    · rw [if_neg h, if_neg h]
theorem valD_encN (r : List (Str × Int)) (n : Str) : valD (encN r) (.inr n) = (look r n).map D.int := by
  induction r with
  | nil => rfl
  | cons p r ih =>
    show valD ((Sum.inr p.1, _) :: encN r) _ = _
    rw [valD_cons, look_cons, ih]
    by_cases h : p.1 = n
    · rw [if_pos (congrArg _ h), if_pos h]; rfl
    · rw [if_neg (fun z => h (Sum.inr.inj z)), if_neg h]
theorem putD_encN (r : List (Str × Int)) (n : Str) (x : Int) : putD (encN r) (.inr n) (.int x) = encN (upR r n x) := by
  unfold putD upR
  rw [valD_any, valD_encN, Option.isSome_map]
  cases h : (look r n).isSome with
  | true =>
    rw [if_pos rfl, if_pos rfl]
    unfold encN
    rw [List.map_map, List.map_map]
    refine List.map_congr_left fun p _ => ?_
    show (if (Sum.inr p.1 : Key) = .inr n then _ else _) = _
    show _ = ((.inr (if p.1 = n then (p.1, x) else p).1, .int (if p.1 = n then (p.1, x) else p).2) : Key × D)
    by_cases e : p.1 = n
    · rw [if_pos (congrArg _ e), if_pos e]
    · rw [if_neg (fun z => e (Sum.inr.inj z)), if_neg e]
  | false =>
    rw [if_neg (by decide), if_neg (by decide)]
    unfold encN
    rw [List.map_append]; rfl
theorem look_map {r : List (Str × Int)} {n m : Str} {x : Int} : look (r.map fun p => if p.1 = n then (p.1, x) else p) m = if m = n then (look r n).map (fun _ => x) else look r m := by
  induction r with
  | nil => rw [List.map_nil, look_nil]; split <;> rfl
  | cons p r ih =>
    rw [List.map_cons, look_cons, look_cons, look_cons, ih]
    by_cases h : p.1 = n
    · rw [if_pos h]
      by_cases e : m = n
      · subst e; rw [if_pos h, if_pos rfl, if_pos h]; rfl
      · rw [if_neg (fun z => e (z.symm.trans h)), if_neg e, if_neg e, if_neg (fun z => e (z.symm.trans h))]
    · rw [if_neg h]
      by_cases e : m = n
      · subst e; rw [if_neg h, if_pos rfl, if_pos rfl, if_neg h]
      · rw [if_neg e, if_neg e]
theorem look_upR (r : List (Str × Int)) (n m : Str) (x : Int) : look (upR r n x) m = if m = n then some x else look r m := by
  unfold upR
  cases h : look r n with
  | none =>
    rw [Option.isSome_none, if_neg (by decide), look_app, look_cons, look_nil]
    by_cases e : m = n
    · subst e; rw [h, if_pos rfl]; simp
    · rw [if_neg (fun z => e z.symm), if_neg e]
      cases look r m <;> rfl
  | some y =>
    rw [Option.isSome_some, if_pos rfl, look_map]
    by_cases e : m = n
    · subst e; rw [if_pos rfl, if_pos rfl, h]; rfl
    · rw [if_neg e, if_neg e]
theorem look_key {α : Type} {r : List (Str × α)} {n : Str} : n ∈ r.map (·.1) ↔ (look r n).isSome = true := by
  induction r with
  | nil => simp [look_nil]
  | cons p r ih =>
    rw [List.map_cons, List.mem_cons, look_cons, ih]
    by_cases h : p.1 = n
    · rw [if_pos h]; simp [h]
    · rw [if_neg h]; exact ⟨fun z => z.resolve_left fun z => h z.symm, .inr⟩
theorem keys_upR (r : List (Str × Int)) (n : Str) (x : Int) : (upR r n x).map (·.1) = if (look r n).isSome = true then r.map (·.1) else r.map (·.1) ++ [n] := by
  unfold upR
  split
  · rw [List.map_map]
    refine List.map_congr_left fun p _ => ?_
    show (if p.1 = n then (p.1, x) else p).1 = p.1
    split <;> rfl
  · rw [List.map_append]; rfl
/-! the nearest place that is not done -/
def Nearest (r : List (Str × Int)) (dn : List Str) : Option Str → Prop
  | none => ∀ p ∈ r.map (·.1), p ∈ dn
  | some h => h ∉ dn ∧ ∃ x, look r h = some x ∧ ∀ p y, look r p = some y → p ∉ dn → x ≤ y
/-- what Dijkstra's search keeps: r the numbers, dn what is done -/
structure Dj (ns : List Str) (ts : List Tie) (s : Str) (r : List (Str × Int)) (dn : List Str) : Prop where
  s0 : look r s = some 0
  sub : ∀ p ∈ r.map (·.1), p ∈ ns
  nd : (r.map (·.1)).Nodup
  way : ∀ p x, look r p = some x → Way ns ts s p x
  dsub : ∀ p ∈ dn, (look r p).isSome = true
  dnd : dn.Nodup
  rel : ∀ u ∈ dn, ∀ x, look r u = some x → ∀ v l, v ∈ ns → tlen ns ts u v = some l → ∃ y, look r v = some y ∧ y ≤ x + l
  ord : ∀ u ∈ dn, ∀ x, look r u = some x → ∀ v y, v ∉ dn → look r v = some y → x ≤ y
theorem Dj.far {s : Str} {r : List (Str × Int)} {dn : List Str} (d : Dj ns ts s r dn) (h : Nearest r dn none) (v : Str) : IsFar ns ts s v (look r v) := by
  have key : ∀ v L, Way ns ts s v L → ∃ x, look r v = some x ∧ x ≤ L := by
    intro v L w
    induction w with
    | nil => exact ⟨0, d.s0, Int.le_refl 0⟩
    | @snoc b c L l _ h2 h3 ih =>
      obtain ⟨x, hx, hl⟩ := ih
      have hb : b ∈ dn := h b (look_key.mpr (by rw [hx]; rfl))
      obtain ⟨y, hy, hle⟩ := d.rel b hb x hx c l h3 h2
      exact ⟨y, hy, by omega⟩
  cases hv : look r v with
  | none =>
    intro L w
    obtain ⟨x, hx, _⟩ := key v L w
    rw [hv] at hx; cases hx
  | some x =>
    refine ⟨d.way v x hv, fun L w => ?_⟩
    obtain ⟨y, hy, hl⟩ := key v L w
    rw [hv] at hy; cases hy; exact hl
/-- within the loop over what is beside h: bs has been looked at -/
structure DjM (ns : List Str) (ts : List Tie) (s : Str) (r : List (Str × Int)) (dn : List Str) (h : Str) (x : Int) (bs : List Str) : Prop where
  s0 : look r s = some 0
  sub : ∀ p ∈ r.map (·.1), p ∈ ns
  nd : (r.map (·.1)).Nodup
  way : ∀ p x, look r p = some x → Way ns ts s p x
  dsub : ∀ p ∈ dn, (look r p).isSome = true
  dnd : (dn ++ [h]).Nodup
  rel : ∀ u ∈ dn, ∀ x, look r u = some x → ∀ v l, v ∈ ns → tlen ns ts u v = some l → ∃ y, look r v = some y ∧ y ≤ x + l
  ord : ∀ u ∈ dn, ∀ z, look r u = some z → z ≤ x
  hx : look r h = some x
  low : ∀ v y, v ∉ dn → look r v = some y → x ≤ y
  relh : ∀ v ∈ bs, ∀ l, tlen ns ts h v = some l → ∃ y, look r v = some y ∧ y ≤ x + l
theorem Dj.mid {s h : Str} {r : List (Str × Int)} {dn : List Str} (d : Dj ns ts s r dn) (n : Nearest r dn (some h)) : ∃ x, DjM ns ts s r dn h x [] := by
  obtain ⟨h1, x, hx, hl⟩ := n
  refine ⟨x, d.s0, d.sub, d.nd, d.way, d.dsub, nd_snoc d.dnd h1, d.rel, fun u hu z hz => d.ord u hu z hz h x h1 hx, hx, fun v y hv hy => hl v y hy hv, fun v hv => by cases hv⟩
theorem DjM.out {s h : Str} {x : Int} {r : List (Str × Int)} {dn : List Str} (d : DjM ns ts s r dn h x ns) : Dj ns ts s r (dn ++ [h]) := by
  refine ⟨d.s0, d.sub, d.nd, d.way, fun p hp => ?_, d.dnd, fun u hu z hz v l hv hl => ?_, fun u hu z hz v y hv hy => ?_⟩
  · rcases List.mem_append.mp hp with hp | hp
    · exact d.dsub p hp
    · rw [List.mem_singleton.mp hp, d.hx]; rfl
  · rcases List.mem_append.mp hu with hu | hu
    · exact d.rel u hu z hz v l hv hl
    · have e := List.mem_singleton.mp hu
      subst e
      rw [d.hx] at hz
      cases hz
      exact d.relh v hv l hl
  · have hv1 : v ∉ dn := fun z => hv (List.mem_append_left _ z)
    have := d.low v y hv1 hy
    rcases List.mem_append.mp hu with hu | hu
    · have := d.ord u hu z hz; omega
    · have e := List.mem_singleton.mp hu
      subst e
      rw [d.hx] at hz
      cases hz; exact this
/-- one tie looked at -/
theorem DjM.step {s h b : Str} {x l : Int} {r : List (Str × Int)} {dn bs : List Str} (ok : TiesOk ns ts) (d : DjM ns ts s r dn h x bs) (hb : b ∈ ns) (hl : tlen ns ts h b = some l) :
    DjM ns ts s (if (look r b).isSome = false ∨ (∃ y, look r b = some y ∧ x + l < y) then upR r b (x + l) else r) dn h x (bs ++ [b]) := by
  have hp := (tlen_pos ok hl).1
  have hne : h ≠ b := fun z => by subst z; rw [tlen_self ok] at hl; cases hl
  by_cases c : (look r b).isSome = false ∨ (∃ y, look r b = some y ∧ x + l < y)
  · rw [if_pos c]
    have lo := look_upR r b
    have hbd : b ∉ dn := fun z => by
      rcases c with c | ⟨y, c1, c2⟩
      · rw [d.dsub b z] at c; cases c
      · have := d.ord b z y c1; omega
    have hbh : look r b ≠ some x := fun z => by
      rcases c with c | ⟨y, c1, c2⟩
      · rw [z] at c; cases c
      · rw [z] at c1; cases c1; omega
    have hs : s ≠ b := fun z => by
      rcases c with c | ⟨y, c1, c2⟩
      · rw [← z, d.s0] at c; cases c
      · rw [← z, d.s0] at c1; cases c1
        have := (d.way h x d.hx).nn ok
        omega
    have mono : ∀ v y, look r v = some y → ∃ z, look (upR r b (x + l)) v = some z ∧ z ≤ y := fun v y hy => by
      rw [lo]
      by_cases e : v = b
      · subst e
        rw [if_pos rfl]
        refine ⟨_, rfl, ?_⟩
        rcases c with c | ⟨y', c1, c2⟩
        · rw [hy] at c; cases c
        · rw [hy] at c1; cases c1; omega
      · rw [if_neg e]; exact ⟨y, hy, Int.le_refl _⟩
    refine ⟨by rw [lo, if_neg hs]; exact d.s0, fun p hp' => ?_, ?_, fun p z hz => ?_, fun p hp' => ?_, d.dnd, fun u hu z hz v m hv hm => ?_, fun u hu z hz => ?_, by rw [lo, if_neg hne]; exact d.hx, fun v y hv hy => ?_, fun v hv m hm => ?_⟩
    · rw [keys_upR] at hp'
      split at hp'
      · exact d.sub p hp'
      · rcases List.mem_append.mp hp' with hp' | hp'
        · exact d.sub p hp'
        · rw [List.mem_singleton.mp hp']; exact hb
    · rw [keys_upR]
      split
      · exact d.nd
      · rename_i q
        exact nd_snoc d.nd fun z => q (look_key.mp z)
    · rw [lo] at hz
      by_cases e : p = b
      · subst e; rw [if_pos rfl] at hz; cases hz
        exact .snoc (d.way h x d.hx) hl hb
      · rw [if_neg e] at hz; exact d.way p z hz
    · rw [lo]
      split
      · rfl
      · exact d.dsub p hp'
    · have e : u ≠ b := fun z => hbd (by rw [← z]; exact hu)
      rw [lo, if_neg e] at hz
      obtain ⟨y, hy, hle⟩ := d.rel u hu z hz v m hv hm
      obtain ⟨w, hw, hw2⟩ := mono v y hy
      exact ⟨w, hw, by omega⟩
    · have e : u ≠ b := fun z => hbd (by rw [← z]; exact hu)
      rw [lo, if_neg e] at hz
      exact d.ord u hu z hz
    · rw [lo] at hy
      split at hy
      · cases hy; omega
      · exact d.low v y hv hy
    · rcases List.mem_append.mp hv with hv | hv
      · obtain ⟨y, hy, hle⟩ := d.relh v hv m hm
        obtain ⟨w, hw, hw2⟩ := mono v y hy
        exact ⟨w, hw, by omega⟩
      · have e := List.mem_singleton.mp hv
        subst e
        rw [hl] at hm; cases hm
        exact ⟨x + l, by rw [lo, if_pos rfl], Int.le_refl _⟩
  · rw [if_neg c]
    refine ⟨d.s0, d.sub, d.nd, d.way, d.dsub, d.dnd, d.rel, d.ord, d.hx, d.low, fun v hv m hm => ?_⟩
    rcases List.mem_append.mp hv with hv | hv
    · exact d.relh v hv m hm
    · have e := List.mem_singleton.mp hv
      subst e
      rw [hl] at hm; cases hm
      cases hb2 : look r v with
      | none => exact absurd (.inl (by rw [hb2]; rfl)) c
      | some y =>
        refine ⟨y, rfl, ?_⟩
        by_cases e : x + l < y
        · exact absurd (.inr ⟨y, hb2, e⟩) c
        · omega
theorem DjM.skip {s h b : Str} {x : Int} {r : List (Str × Int)} {dn bs : List Str} (d : DjM ns ts s r dn h x bs) (hl : tlen ns ts h b = none) : DjM ns ts s r dn h x (bs ++ [b]) := by
  refine ⟨d.s0, d.sub, d.nd, d.way, d.dsub, d.dnd, d.rel, d.ord, d.hx, d.low, fun v hv m hm => ?_⟩
  rcases List.mem_append.mp hv with hv | hv
  · exact d.relh v hv m hm
  · rw [List.mem_singleton.mp hv, hl] at hm; cases hm
theorem Dj.start {s : Str} (hs : s ∈ ns) : Dj ns ts s [(s, 0)] [] := by
  have e : ∀ p x, look [(s, (0 : Int))] p = some x → p = s ∧ x = 0 := fun p x h => by
    rw [look_cons, look_nil] at h
    split at h
    · rename_i q; cases h; exact ⟨q.symm, rfl⟩
    · cases h
  refine ⟨by rw [look_cons, if_pos rfl], fun p hp => by rw [List.mem_singleton.mp hp]; exact hs, by simp, fun p x h => ?_, (fun p hp => by cases hp), List.nodup_nil, (fun u hu => by cases hu), (fun u hu => by cases hu)⟩
  obtain ⟨rfl, rfl⟩ := e p x h
  exact .nil _
end

def sp_need_place {K : PySem.W.Frag} {mg : Str → Option Value} (T : Tx K mg) : DSp := fun ds M P _ => ds.length = 2 ∧ ∃ ns ts n, ds = [webD T.C_Web ns ts, .str n] ∧ n ∈ ns ∧ P .non M
section
variable {P : Program} {w : World} {K : PySem.W.Frag} {mg : Str → Option Value} {base : Heap}
theorem ok_need_place (T : Tx K mg) : FnOk P w K mg base CX0 2 T.a_need_place T.fd_need_place ["web", "thing"] (up K (sp_need_place T)) := by
  refine Fun.okD0 T.F_need_place sc_need_place (fun ds M P X' h => h.1) (fun cdv A outer s H E hr => ?_)
  have hu := hu_of hr
  refine ⟨_, (pss_one (ps_if (PW.pt (pw_or (pt_not (pt_val (pe_callB (call_isi_K (K := K) rfl) (by rfl) T.z_isinstance (by decide +kernel) (pa_cons (pv 1) (pa_cons (pe_bltnT (n := "str") (by rfl) T.z_str (by decide +kernel)) pa_nil))))) (pw_or1 (pt_cmpR (op_notIn_seqK (K := K) rfl) (pv 1) (pe_meth0 (pv 0) T.cl_Web T.mm_Web_places (ok_Web_places T) (hr.mono (by decide)) T.b_Web_places .nil pass0) (by rfl))))) (pss_one ps_never) pss_nil)), fun ds M P X' h => ?_⟩
  obtain ⟨_, ns, ts, n, rfl, hm, k⟩ := h
  keq_hits
  refine dc_isi (by simp) (.str n) ?_
  keq_hits
  refine ⟨_, .v, rfl, ?_⟩
  keq_hits
  refine ⟨rfl, ns, ts, rfl, fun a => .lst (M1 := []) (.keep ?_)⟩
  refine dop_notin (.l .v) ?_
  rw [decide_eq_true hm]
  keq_hits
  exact k
end

def optS : Option Str → D
  | none => .non
  | some n => .str n
def doneD (dn : List Str) : List (Key × D) := dn.map fun n => (.inr n, .bl true)
theorem valD_done (dn : List Str) (n : Str) : valD (doneD dn) (.inr n) = if n ∈ dn then some (.bl true) else none := by
  induction dn with
  | nil => rfl
  | cons m dn ih =>
    show valD ((Sum.inr m, D.bl true) :: doneD dn) _ = _
    rw [valD_cons, ih]
    by_cases h : m = n
    · subst h; rw [if_pos rfl, if_pos List.mem_cons_self]
    · rw [if_neg (fun z => h (Sum.inr.inj z))]
      by_cases hm : n ∈ dn
      · rw [if_pos hm, if_pos (List.mem_cons_of_mem _ hm)]
      · rw [if_neg hm, if_neg (fun z => (List.mem_cons.mp z).elim (fun z => h z.symm) hm)]
def sp_nearest_of {K : PySem.W.Frag} {mg : Str → Option Value} (_ : Tx K mg) : DSp := fun ds M P _ => ds.length = 2 ∧ ∃ a b M1 M2 r dn, ds = [.loc a, .loc b] ∧ M = M1 ++ (a, .dct (encN r)) :: M2 ∧ (b, MO.dct (doneD dn)) ∈ M1 ++ M2 ∧ (r.map (·.1)).Nodup ∧ ∀ o, Nearest r dn o → P (optS o) M
theorem in_mid {α : Type} {x y : α} {l m : List α} (h : x ∈ l ++ m) : x ∈ l ++ y :: m := by
  rcases List.mem_append.mp h with h | h
  · exact List.mem_append_left _ h
  · exact List.mem_append_right _ (List.mem_cons_of_mem _ h)
/-- the nearest one of the first n -/
def NearN (r : List (Str × Int)) (dn : List Str) (n : Nat) : Option Str → Prop
  | none => ∀ p ∈ (r.take n).map (·.1), p ∈ dn
  | some h => h ∉ dn ∧ ∃ x, look r h = some x ∧ ∀ p ∈ (r.take n).map (·.1), p ∉ dn → ∀ y, look r p = some y → x ≤ y
theorem look_nodup {r : List (Str × Int)} (h : (r.map (·.1)).Nodup) {i : Nat} {p : Str × Int} (e : r[i]? = some p) : look r p.1 = some p.2 := by
  induction r generalizing i with
  | nil => simp at e
  | cons q r ih =>
    rw [List.map_cons, List.nodup_cons] at h
    rw [look_cons]
    cases i with
    | zero => simp at e; subst e; rw [if_pos rfl]
    | succ i =>
      have e' : r[i]? = some p := by simpa using e
      rw [if_neg (fun z => h.1 (by rw [z]; exact List.mem_map_of_mem (List.mem_of_getElem? e'))), ih h.2 e']
theorem mem_take_snoc {r : List (Str × Int)} {n : Nat} {q : Str × Int} (e : r[n]? = some q) {p : Str} : p ∈ (r.take (n + 1)).map (·.1) ↔ p ∈ (r.take n).map (·.1) ∨ p = q.1 := by
  rw [take_snoc e, List.map_append, List.mem_append]
  simp
section
variable {P : Program} {w : World} {K : PySem.W.Frag} {mg : Str → Option Value} {base : Heap}
theorem ok_nearest_of (T : Tx K mg) : FnOk P w K mg base CX0 1 T.a_nearest_of T.fd_nearest_of ["reached", "done"] (up K (sp_nearest_of T)) := by
  refine Fun.okD0 T.F_nearest_of sc_nearest_of (fun ds M P X' h => h.1) (fun cdv A outer s H E hr => ?_)
  have hu := hu_of hr
  refine ⟨_, (pss_cons (ps_set (i := 2) sc_nearest_of.nd rfl (Or.inl rfl) pe_non)
      (pss_cons (ps_lock (ps_for PassesOwn.never rfl (pi_keys (pv 0)) (pg_name (i := 3) sc_nearest_of.nd rfl (Or.inl rfl)) (pss_one (ps_if (PW.pt (pw_and (pt_cmp (pc_dnotin hu (pv 3) (pv 1))) (pw_and1 (PW.pt (pw_or (pt_cmpR op_isN (pv 2) pe_non (nomark _)) (pw_or1 (pt_cmpR op_lt (pe_dget hu (pv 0) (pv 3) (fun _ _ => rfl)) (pe_dget hu (pv 0) (pv 2) (fun _ _ => rfl)) (nomark _)))))))) (pss_one (ps_set (i := 2) sc_nearest_of.nd rfl (Or.inl rfl) (pv 3))) pss_nil))))
      (pss_one (ps_ret (pv 2))))), fun ds M P X' h => ?_⟩
  obtain ⟨_, a, b, M1, M2, r, dn, rfl, rfl, hb, nd, k⟩ := h
  keq_hits
  refine ds_lockKeys rfl (fun n e => ∃ o e3, e = [some (.loc a), some (.loc b), some (optS o), e3] ∧ NearN r dn n o) ⟨none, _, rfl, fun p hp => by simp at hp⟩ ?_ ?_
  · rintro n x e o kvs hx ⟨o', e3, rfl, hn⟩
    have hx2 : ∃ p, r[n]? = some p ∧ x = .str p.1 := by
      unfold encN at hx
      rw [List.map_map, List.getElem?_map] at hx
      cases hp : r[n]? with
      | none => rw [hp] at hx; cases hx
      | some p => rw [hp] at hx; exact ⟨p, rfl, (Option.some.inj hx).symm⟩
    obtain ⟨p, hp, rfl⟩ := hx2
    have hlp := look_nodup nd hp
    have hmt := fun q => mem_take_snoc (p := q) hp
    have hL : IsK (M1 ++ (a, .lck o kvs (encN r)) :: M2) (.loc a) (encN r) := .k (List.mem_append_right _ List.mem_cons_self)
    have hD : IsK (M1 ++ (a, .lck o kvs (encN r)) :: M2) (.loc b) (doneD dn) := .l (in_mid hb)
    have hv := fun q => valD_encN r q
    have keep : p.1 ∈ dn → NearN r dn (n + 1) o' := fun hd => by
      cases o' with
      | none => exact fun q hq => ((hmt q).mp hq).elim (hn q) fun z => by rw [z]; exact hd
      | some h =>
        obtain ⟨h1, x, h2, h3⟩ := hn
        exact ⟨h1, x, h2, fun q hq hqd => ((hmt q).mp hq).elim (fun z => h3 q z hqd) fun z => absurd (by rw [z]; exact hd) hqd⟩
    keq_hits
    refine ⟨_, .k hD (k := .inr p.1) rfl, ?_⟩
    rw [valD_done]
    by_cases hd : p.1 ∈ dn
    · rw [if_pos hd]
      keq_hits
      exact ⟨rfl, o', _, rfl, keep hd⟩
    · rw [if_neg hd]
      keq_hits
      cases o' with
      | none =>
        keq_hits
        refine ⟨rfl, some p.1, _, rfl, hd, p.2, hlp, fun q hq hqd => ((hmt q).mp hq).elim (fun z => absurd (hn q z) hqd) fun z y hy => ?_⟩
        rw [z, hlp] at hy; cases hy; exact Int.le_refl _
      | some h =>
        obtain ⟨h1, x, h2, h3⟩ := hn
        have g1 : GetD (M1 ++ (a, .lck o kvs (encN r)) :: M2) (.loc a) (.str p.1) (some (.int p.2)) := by have g := GetD.k hL (y := .str p.1) (k := .inr p.1) rfl; rw [hv, hlp] at g; exact g
        have g2 : GetD (M1 ++ (a, .lck o kvs (encN r)) :: M2) (.loc a) (.str h) (some (.int x)) := by have g := GetD.k hL (y := .str h) (k := .inr h) rfl; rw [hv, h2] at g; exact g
        keq_hits
        refine ⟨_, g1, ?_⟩
        keq_hits
        refine ⟨_, g2, ?_⟩
        keq_hits
        refine w_ifd (fun lt => ?_) (fun ge => ?_)
        · keq_hits
          refine ⟨rfl, some p.1, _, rfl, hd, p.2, hlp, fun q hq hqd => ((hmt q).mp hq).elim (fun z y hy => ?_) fun z y hy => ?_⟩
          · have := h3 q z hqd y hy; omega
          · rw [z, hlp] at hy; cases hy; exact Int.le_refl _
        · keq_hits
          refine ⟨rfl, some h, _, rfl, h1, x, h2, fun q hq hqd => ((hmt q).mp hq).elim (fun z => h3 q z hqd) fun z y hy => ?_⟩
          rw [z, hlp] at hy; cases hy; omega
  · rintro e ⟨o, e3, rfl, hn⟩
    have hl : (encN r).length = r.length := List.length_map ..
    rw [hl] at hn
    keq_hits
    refine k o ?_
    cases o with
    | none => intro p hp; exact hn p (by rw [List.take_length]; exact hp)
    | some h =>
      obtain ⟨h1, x, h2, h3⟩ := hn
      exact ⟨h1, x, h2, fun p y hy hd => h3 p (by rw [List.take_length]; exact look_key.mpr (by rw [hy]; rfl)) hd y hy⟩
end

def optD : Option Int → D
  | none => .non
  | some i => .int i
def sp_reached_from {K : PySem.W.Frag} {mg : Str → Option Value} (T : Tx K mg) : DSp := fun ds M P _ => ds.length = 2 ∧ ∃ ns ts s, ds = [webD T.C_Web ns ts, .str s] ∧ NmOk ns ∧ TiesOk ns ts ∧ s ∈ ns ∧
  ∀ a r, (∀ v, IsFar ns ts s v (look r v)) → (∀ p ∈ r.map (·.1), p ∈ ns) → (r.map (·.1)).Nodup → P (.loc a) ((a, .dct (encN r)) :: M)
theorem doneD_put {dn : List Str} {h : Str} (hn : h ∉ dn) : putD (doneD dn) (.inr h) (.bl true) = doneD (dn ++ [h]) := by
  rw [putD_new _ (by rw [valD_done, if_neg hn])]
  unfold doneD
  rw [List.map_append]; rfl
theorem nodup_sub_len {l m : List Str} (h : l.Nodup) (s : ∀ x ∈ l, x ∈ m) : l.length ≤ m.length := by
  induction l generalizing m with
  | nil => exact Nat.zero_le _
  | cons x l ih =>
    obtain ⟨hx, hl⟩ := List.nodup_cons.mp h
    have h1 := ih (m := m.erase x) hl fun y hy => (List.mem_erase_of_ne (fun z => hx (by rw [← z]; exact hy))).mpr (s y (List.mem_cons_of_mem _ hy))
    have h2 := List.length_erase_of_mem (s x List.mem_cons_self)
    have h3 : 0 < m.length := List.length_pos_of_mem (s x List.mem_cons_self)
    rw [List.length_cons]; omega
theorem besides_mem {ns : List Str} {ts : List Tie} {h v : Str} {l : Int} (hv : v ∈ ns) (e : tlen ns ts h v = some l) : v ∈ (besides ns ts h).map (·.1) :=
  List.mem_map.mpr ⟨(v, l), List.mem_filterMap.mpr ⟨v, hv, by rw [e]; rfl⟩, rfl⟩
theorem besides_get {ns : List Str} {ts : List Tie} {h : Str} {p : Str × Int} (e : p ∈ besides ns ts h) : p.1 ∈ ns ∧ tlen ns ts h p.1 = some p.2 := by
  obtain ⟨b, hb, e⟩ := List.mem_filterMap.mp e
  obtain ⟨l, hl, rfl⟩ := Option.map_eq_some_iff.mp e
  exact ⟨hb, hl⟩
theorem DjM.all {ns : List Str} {ts : List Tie} {s h : Str} {x : Int} {r : List (Str × Int)} {dn : List Str} (d : DjM ns ts s r dn h x ((besides ns ts h).map (·.1))) : DjM ns ts s r dn h x ns :=
  ⟨d.s0, d.sub, d.nd, d.way, d.dsub, d.dnd, d.rel, d.ord, d.hx, d.low, fun v hv l hl => d.relh v (besides_mem hv hl) l hl⟩
theorem optS_non (o : Option Str) : isNon (optS o) = o.isNone := by cases o <;> rfl
section
variable {P : Program} {w : World} {K : PySem.W.Frag} {mg : Str → Option Value} {base : Heap}
theorem ok_reached_from (T : Tx K mg) : FnOk P w K mg base CX0 5 T.a_reached_from T.fd_reached_from ["web", "place"] (up K (sp_reached_from T)) := by
  refine Fun.okD0 T.F_reached_from sc_reached_from (fun ds M P X' h => h.1) (fun cdv A outer s H E hr => ?_)
  have hu := hu_of hr
  refine ⟨_, (pss_cons (ps_set (i := 2) sc_reached_from.nd rfl (Or.inl rfl) (pe_disp (pps_cons (pv 1) pe_int pps_nil) (by rfl) (by rfl) (fun z => by cases z) (by decide)))
      (pss_cons (ps_set (i := 3) sc_reached_from.nd rfl (Or.inl rfl) pe_dnewK)
      (pss_cons (ps_set (i := 4) sc_reached_from.nd rfl (Or.inl rfl) (pv 1))
      (pss_cons (ps_while PassesOwn.never (pt_cmpR op_notN (pv 4) pe_non (nomark _)) (pss_cons (ps_dput hu (pv 3) (pv 4) pe_bl rfl)
      (pss_cons (ps_for PassesOwn.never rfl (pi_listK (K := K) rfl (pe_meth (pv 0) T.cl_Web T.mm_Web_beside (ok_Web_beside T) (hr.mono (by decide)) T.b_Web_beside .nil pass0 (pa_cons (pv 4) pa_nil))) (pg_tupK (K := K) rfl rfl (pgs_cons (pg_name (i := 5) sc_reached_from.nd rfl (Or.inl rfl)) (pgs_cons (pg_name (i := 6) sc_reached_from.nd rfl (Or.inl rfl)) pgs_nil))) (pss_cons (ps_set (i := 7) sc_reached_from.nd rfl (Or.inl rfl) (pe_op op_add (pe_dget hu (pv 2) (pv 4) (fun _ _ => rfl)) (pv 6)))
      (pss_one (ps_if (PW.pt (pw_or (pt_cmp (pc_dnotin hu (pv 5) (pv 2))) (pw_or1 (pt_cmpR op_lt (pv 7) (pe_dget hu (pv 2) (pv 5) (fun _ _ => rfl)) (nomark _))))) (pss_one (ps_dput hu (pv 2) (pv 5) (pv 7) rfl)) pss_nil))))
      (pss_one (ps_set (i := 4) sc_reached_from.nd rfl (Or.inl rfl) (pe_call (ok_nearest_of T) (hr.mono (by decide)) (by rfl) T.m_nearest_of T.F_nearest_of.kp T.b_nearest_of .nil pass0 (pa_cons (pv 2) (pa_cons (pv 3) pa_nil))))))))
      (pss_one (ps_ret (pv 2))))))), fun ds M P X' h => ?_⟩
  obtain ⟨_, ns, ts, s, rfl, okn, ok, hs, k⟩ := h
  have h12 := okn.hi
  keq_hits
  refine de_disp fun a => dps_cons ?_
  keq_hits
  refine dps_nil ⟨M, [(.inr s, .int 0)], rfl, rfl, by show 1 ≤ 15; decide, ?_⟩
  keq_hits
  rename_i b
  refine ds_while (fun m e M' => ∃ r dn o e5 e6 e7, e = [some (webD T.C_Web ns ts), some (.str s), some (.loc a), some (.loc b), some (optS o), e5, e6, e7] ∧ M' = (b, .dct (doneD dn)) :: (a, .dct (encN r)) :: M ∧ Dj ns ts s r dn ∧ Nearest r dn o ∧ m = ns.length - dn.length)
    (m := ns.length) ⟨[(s, 0)], [], some s, _, _, _, rfl, rfl, Dj.start hs, ⟨(fun z => by cases z), 0, by rw [look_cons, if_pos rfl], fun p y hy _ => ?_⟩, rfl⟩ ?_
  · have := (Dj.start (ns := ns) (ts := ts) hs).way p y hy
    exact this.nn ok
  rintro m e M' ⟨r, dn, o, e5, e6, e7, rfl, rfl, dj, hn, rfl⟩
  keq_hits
  rw [optS_non]
  cases o with
  | none =>
    refine w_ifF rfl ?_
    refine ds_drops (M' := (a, .dct (encN r)) :: M) (List.sublist_cons_self _ _) ?_
    keq_hits
    exact k a r (fun v => dj.far hn v) dj.sub dj.nd
  | some h =>
    obtain ⟨x, dm⟩ := dj.mid hn
    have hnd : h ∉ dn := hn.1
    have hmem : h ∈ ns := dj.sub h (look_key.mpr (by rw [dm.hx]; rfl))
    have hlen : (dn ++ [h]).length ≤ ns.length := nodup_sub_len dm.dnd fun z hz => by
      rcases List.mem_append.mp hz with hz | hz
      · exact dj.sub z (look_key.mpr (dj.dsub z hz))
      · rw [List.mem_singleton.mp hz]; exact hmem
    rw [List.length_append, List.length_singleton] at hlen
    keq_hits
    refine ⟨_, .k (M1 := []) (k := .inr h) rfl (by unfold doneD; rw [List.length_map]; exact small1000 (by omega)), ?_⟩
    keq_hits
    rw [doneD_put hnd]
    refine ds_for (di_list ?_)
    keq_hits
    refine ⟨_, .v, rfl, ?_⟩
    keq_hits
    refine ⟨rfl, ns, ts, h, rfl, okn, hmem, fun c => .lst (M1 := []) (.keep ?_)⟩
    refine ⟨_, .v, fun i e m => ∃ r' e5 e6 e7, e = [some (webD T.C_Web ns ts), some (.str s), some (.loc a), some (.loc b), some (.str h), e5, e6, e7] ∧ m = (b, .dct (doneD (dn ++ [h]))) :: (a, .dct (encN r')) :: M ∧ DjM ns ts s r' dn h x (((besides ns ts h).take i).map (·.1)), ⟨r, _, _, _, rfl, rfl, dm⟩, fun _ _ _ _ _ => .v, ?_, ?_⟩
    · rintro i y e m hy ⟨r', e5, e6, e7, rfl, rfl, dm'⟩
      rw [List.getElem?_map] at hy
      obtain ⟨p, hp, rfl⟩ := Option.map_eq_some_iff.mp hy
      obtain ⟨hb, hl⟩ := besides_get (List.mem_of_getElem? hp)
      have st := dm'.step ok hb hl
      have eL : ((besides ns ts h).take i).map (·.1) ++ [p.1] = ((besides ns ts h).take (i + 1)).map (·.1) := by rw [take_snoc hp, List.map_append]; rfl
      rw [eL] at st
      have hA : IsK ((b, .dct (doneD (dn ++ [h]))) :: (a, .dct (encN r')) :: M) (.loc a) (encN r') := .l (by simp)
      have g1 : GetD ((b, .dct (doneD (dn ++ [h]))) :: (a, .dct (encN r')) :: M) (.loc a) (.str h) (some (.int x)) := by have g := GetD.k hA (y := .str h) (k := .inr h) rfl; rw [valD_encN, dm'.hx] at g; exact g
      have g2 : GetD ((b, .dct (doneD (dn ++ [h]))) :: (a, .dct (encN r')) :: M) (.loc a) (.str p.1) ((look r' p.1).map D.int) := by have g := GetD.k hA (y := .str p.1) (k := .inr p.1) rfl; rw [valD_encN] at g; exact g
      have hr12 : (encN r').length < sizeLine := by
        unfold encN; rw [List.length_map]
        have := nodup_sub_len dm'.nd dm'.sub
        rw [List.length_map] at this
        exact small1000 (by omega)
      unfold entD
      keq_hits
      refine ⟨_, g1, ?_⟩
      keq_hits
      refine ⟨_, g2, ?_⟩
      cases hb2 : look r' p.1 with
      | none =>
        rw [if_pos (.inl (by rw [hb2]; rfl))] at st
        keq_hits
        refine ⟨_, .k (M1 := [(b, .dct (doneD (dn ++ [h])))]) (k := .inr p.1) rfl hr12, ?_⟩
        keq_hits
        rw [putD_encN]
        exact ⟨_, _, _, _, rfl, rfl, st⟩
      | some y =>
        rw [hb2] at g2
        keq_hits
        refine ⟨_, g2, ?_⟩
        keq_hits
        refine w_ifd (fun lt => ?_) (fun ge => ?_)
        · rw [if_pos (.inr ⟨y, hb2, lt⟩)] at st
          keq_hits
          refine ⟨_, .k (M1 := [(b, .dct (doneD (dn ++ [h])))]) (k := .inr p.1) rfl hr12, ?_⟩
          keq_hits
          rw [putD_encN]
          exact ⟨_, _, _, _, rfl, rfl, st⟩
        · rw [if_neg (fun z => by
            rcases z with z | ⟨y', z1, z2⟩
            · rw [hb2] at z; cases z
            · rw [hb2] at z1; cases z1; exact ge z2)] at st
          keq_hits
          exact ⟨_, _, _, _, rfl, rfl, st⟩
    · rintro e m ⟨r', e5, e6, e7, rfl, rfl, dm'⟩
      rw [List.length_map, List.take_length] at dm'
      have dj' := dm'.all.out
      keq_hits
      refine ⟨rfl, a, b, [(b, _)], M, r', dn ++ [h], rfl, rfl, List.mem_cons_self, dj'.nd, fun o ho => .keep ?_⟩
      keq_hits
      exact ⟨ns.length - (dn ++ [h]).length, by rw [List.length_append, List.length_singleton]; omega, r', dn ++ [h], o, _, _, _, rfl, rfl, dj', ho, rfl⟩
end

def sp_far {K : PySem.W.Frag} {mg : Str → Option Value} (T : Tx K mg) : DSp := fun ds M P _ => ds.length = 3 ∧ ∃ ns ts a b, ds = [webD T.C_Web ns ts, .str a, .str b] ∧ NmOk ns ∧ TiesOk ns ts ∧ a ∈ ns ∧ b ∈ ns ∧ P (optD (dist ns ts a b)) M
section
variable {P : Program} {w : World} {K : PySem.W.Frag} {mg : Str → Option Value} {base : Heap}
theorem ok_far (T : Tx K mg) : FnOk P w K mg base CX0 6 T.a_far T.fd_far ["web", "one", "other"] (up K (sp_far T)) := by
  refine Fun.okD0 T.F_far sc_far (fun ds M P X' h => h.1) (fun cdv A outer s H E hr => ?_)
  have hu := hu_of hr
  refine ⟨_, (pss_cons (ps_expr (pe_call (ok_need_place T) (hr.mono (by decide)) (by rfl) T.m_need_place T.F_need_place.kp T.b_need_place .nil pass0 (pa_cons (pv 0) (pa_cons (pv 1) pa_nil))))
      (pss_cons (ps_expr (pe_call (ok_need_place T) (hr.mono (by decide)) (by rfl) T.m_need_place T.F_need_place.kp T.b_need_place .nil pass0 (pa_cons (pv 0) (pa_cons (pv 2) pa_nil))))
      (pss_one (ps_ret (pe_dget1 hu (pe_call (ok_reached_from T) (hr.mono (by decide)) (by rfl) T.m_reached_from T.F_reached_from.kp T.b_reached_from .nil pass0 (pa_cons (pv 0) (pa_cons (pv 1) pa_nil))) (pv 2) ⟨rfl, rfl, rfl, rfl⟩))))), fun ds M P X' h => ?_⟩
  obtain ⟨_, ns, ts, a, b, rfl, okn, ok, ha, hb, k⟩ := h
  refine ds_fz ?_
  keq_hits
  refine ⟨rfl, ns, ts, a, rfl, ha, .keep ?_⟩
  keq_hits
  refine ⟨rfl, ns, ts, b, rfl, hb, .keep ?_⟩
  keq_hits
  refine ⟨rfl, ns, ts, a, rfl, okn, ok, ha, fun p r hf _ _ => .dct (M1 := []) (.keep ?_)⟩
  refine ⟨.inl ⟨_, .v⟩, ?_⟩
  keq_hits
  refine ⟨_, .k .v (k := .inr b) rfl, ?_⟩
  rw [valD_encN]
  have : dist ns ts a b = look r b := dist_of (hf b)
  rw [this] at k
  refine .keep ?_
  cases h : look r b with
  | none => rw [h] at k; exact k
  | some x => rw [h] at k; exact k
end

section
variable {P : Program} {w : World} {K : PySem.W.Frag} {mg : Str → Option Value} {base : Heap}
theorem ok_NoKind___init__ (T : Tx K mg) : FnOk P w K mg base CX0 1 T.a_NoKind___init__ T.fd_NoKind___init__ ["self", "found"] (spExc1 K T.C_NoKind "found") := by
  refine T.F_NoKind___init__.ok sc_NoKind___init__ (fun vs H Q E h => ?_) (fun cdv A outer s H vs Q E hr h => ?_)
  · exact spExc1_len h
  refine ⟨_, (pss_cons (ps_expr (pe_meinit (by rfl) T.m_MarkError T.mid_MarkError (pa_cons (pv 0) (pa_cons pe_str pa_nil)))) (pss_one (ps_ost (pv 0) (pv 1)))), ?_⟩
  exact spExc1_run T.ox_NoKind T.no_NoKind_found h
end

section
variable {P : Program} {w : World} {K : PySem.W.Frag} {mg : Str → Option Value} {base : Heap}
theorem ok_NoNumber___init__ (T : Tx K mg) : FnOk P w K mg base CX0 1 T.a_NoNumber___init__ T.fd_NoNumber___init__ ["self", "found"] (spExc1 K T.C_NoNumber "found") := by
  refine T.F_NoNumber___init__.ok sc_NoNumber___init__ (fun vs H Q E h => ?_) (fun cdv A outer s H vs Q E hr h => ?_)
  · exact spExc1_len h
  refine ⟨_, (pss_cons (ps_expr (pe_meinit (by rfl) T.m_MarkError T.mid_MarkError (pa_cons (pv 0) (pa_cons pe_str pa_nil)))) (pss_one (ps_ost (pv 0) (pv 1)))), ?_⟩
  exact spExc1_run T.ox_NoNumber T.no_NoNumber_found h
end

section
variable {P : Program} {w : World} {K : PySem.W.Frag} {mg : Str → Option Value} {base : Heap}
theorem ok_NoSigns___init__ (T : Tx K mg) : FnOk P w K mg base CX0 1 T.a_NoSigns___init__ T.fd_NoSigns___init__ ["self", "found"] (spExc1 K T.C_NoSigns "found") := by
  refine T.F_NoSigns___init__.ok sc_NoSigns___init__ (fun vs H Q E h => ?_) (fun cdv A outer s H vs Q E hr h => ?_)
  · exact spExc1_len h
  refine ⟨_, (pss_cons (ps_expr (pe_meinit (by rfl) T.m_MarkError T.mid_MarkError (pa_cons (pv 0) (pa_cons pe_str pa_nil)))) (pss_one (ps_ost (pv 0) (pv 1)))), ?_⟩
  exact spExc1_run T.ox_NoSigns T.no_NoSigns_found h
end

def sp_need_number {K : PySem.W.Frag} {mg : Str → Option Value} (_ : Tx K mg) : DSp := fun ds M P _ => ds.length = 2 ∧ ∃ (n lo : Int), ds = [.int n, .int lo] ∧ lo ≤ n ∧ n ≤ 1000 ∧ P .non M
section
variable {P : Program} {w : World} {K : PySem.W.Frag} {mg : Str → Option Value} {base : Heap}
theorem ok_need_number (T : Tx K mg) : FnOk P w K mg base CX0 2 T.a_need_number T.fd_need_number ["thing", "low"] (up K (sp_need_number T)) := by
  refine Fun.okD0 T.F_need_number sc_need_number (fun ds M P X' h => h.1) (fun cdv A outer s H E hr => ?_)
  have hu := hu_of hr
  refine ⟨_, (pss_one (ps_if (pt_not (pt_val (pe_call (ok_is_whole T) (hr.mono (by decide)) (by rfl) T.m_is_whole T.F_is_whole.kp T.b_is_whole .nil pass0 (pa_cons (pv 0) (pa_cons (pv 1) (pa_cons (pe_globI rfl T.c_MOST_signs) pa_nil)))))) (pss_one ps_never) pss_nil)), fun ds M P X' h => ?_⟩
  obtain ⟨_, n, lo, rfl, h1, h2, k⟩ := h
  keq_hits
  refine ⟨rfl, .int n, _, lo, _, rfl, .int n, .keep ?_⟩
  rw [show wholeD lo 999999999999999999999999999999 (.int n) = true from by show (decide _ && decide _) = true; rw [decide_eq_true h1, decide_eq_true (by omega)]; rfl]
  keq_hits
  exact k
end

def rowSg : Nat → List Nat
  | 0 => []
  | n + 1 => rowSg (n / 2) ++ [48 + n % 2]
decreasing_by omega
def sp_row_by {K : PySem.W.Frag} {mg : Str → Option Value} (_ : Tx K mg) : DSp := fun ds M P _ => ds.length = 1 ∧ ∃ n : Nat, ds = [.int n] ∧ n ≤ 1000 ∧ P (.str (strL (rowSg n))) M
theorem rowSg_len : ∀ n, (rowSg n).length ≤ n := fun n => by
  induction n using Nat.strongRecOn with
  | _ n ih =>
    cases n with
    | zero => rw [rowSg]; exact Nat.le_refl _
    | succ n =>
      rw [rowSg, List.length_append]
      have := ih (n / 2) (by omega)
      simp only [List.length_singleton]
      omega
theorem dc_divmod {K : PySem.W.Frag} {M : MS} {P : D → MS → Prop} {i j : Int} (h : CDivP i j) (k : P (.tup [.int (i / j), .int (i % j)]) M) : DC K (fun xs H Q => ∃ i j, xs = [.int i, .int j] ∧ CDivP i j ∧ ∀ p, H p = none → Q (.ref p) (upd H p (.tup [.int (i / j), .int (i % j)]))) [.int i, .int j] M P := fun F H vs Q hr b0 q => by
  obtain ⟨v, u, rfl, a, b⟩ := b0.two_inv
  obtain rfl := a.int_inv
  obtain rfl := b.int_inv
  exact ⟨i, j, rfl, h, fun p hp => q.still hr hp (fun F' s e => .tup e (.cons (.int _) (.cons (.int _) .nil))) k⟩
section
variable {P : Program} {w : World} {K : PySem.W.Frag} {mg : Str → Option Value} {base : Heap}
theorem ok_row_by (T : Tx K mg) : FnOk P w K mg base CX0 3 T.a_row_by T.fd_row_by ["number"] (up K (sp_row_by T)) := by
  refine Fun.okD0 T.F_row_by sc_row_by (fun ds M P X' h => h.1) (fun cdv A outer s H E hr => ?_)
  have hu := hu_of hr
  refine ⟨_, (pss_cons (ps_expr (pe_call (ok_need_number T) (hr.mono (by decide)) (by rfl) T.m_need_number T.F_need_number.kp T.b_need_number .nil pass0 (pa_cons (pv 0) (pa_cons pe_int pa_nil))))
      (pss_cons (ps_set (i := 1) sc_row_by.nd rfl (Or.inl rfl) (pe_lst pa_nil))
      (pss_cons (ps_while PassesOwn.never (pt_cmpR op_gt (pv 0) pe_int (nomark _)) (pss_cons (ps_asg (pe_callB call_divmodW (by rfl) T.z_divmod (by decide +kernel) (pa_cons (pe_op op_sub (pv 0) pe_int) (pa_cons pe_int pa_nil))) (pg_tupK (K := K) rfl rfl (pgs_cons (pg_name (i := 0) sc_row_by.nd rfl (Or.inl rfl)) (pgs_cons (pg_name (i := 2) sc_row_by.nd rfl (Or.inl rfl)) pgs_nil))))
      (pss_one (ps_expr (pe_bmK (K := K) rfl PySem.F.plainAttrs_list PySem.F.slot_list_append PySem.F.type_list_append mt_append (pv 1) (pa_cons (pe_callTy call_str_int (by rfl) T.z_str (by decide +kernel) (pa_cons (pv 2) pa_nil)) pa_nil))))))
      (pss_one (ps_ret (pe_bmK (K := K) rfl PySem.F.plainAttrs_str PySem.F.slot_str_join PySem.F.type_str_join (mt_joinK (K := K) rfl) pe_str (pa_cons (pe_revLK (K := K) rfl (pv 1)) pa_nil))))))), fun ds M P X' h => ?_⟩
  obtain ⟨_, n, rfl, hn, k⟩ := h
  refine ds_fz ?_
  keq_hits
  refine ⟨rfl, _, 0, rfl, by omega, by omega, .keep ?_⟩
  keq_hits
  refine de_lst ?_
  keq_hits
  refine ⟨by decide, fun a => ?_⟩
  keq_hits
  refine ds_while (m := n) (fun q e mm => ∃ (e2 : Option D) (acc : List Nat), e = [some (.int (q : Nat)), some (.loc a), e2] ∧ mm = (a, .lst ((acc.map fun c => strL [c]).map D.str)) :: M ∧ rowSg n = rowSg q ++ acc.reverse) ?_ ?_
  · exact ⟨_, [], rfl, rfl, by rw [List.reverse_nil, List.append_nil]⟩
  rintro q e mm ⟨e2, acc, rfl, rfl, hq⟩
  have hlen := congrArg List.length hq
  rw [List.length_append, List.length_reverse] at hlen
  have hln := rowSg_len n
  keq_hits
  refine w_ifd (fun h0 => ?_) (fun h0 => ?_)
  · keq_hits
    refine dc_divmod ⟨by decide, PyProof.noPylong_small (by decide)⟩ ?_
    refine dg_tup rfl ?_
    keq_hits
    obtain ⟨p, rfl⟩ : ∃ p, q = p + 1 := ⟨q - 1, by omega⟩
    rw [show (((p + 1 : Nat) : Int) - 1) / 2 = ((p / 2 : Nat) : Int) by omega, show (((p + 1 : Nat) : Int) - 1) % 2 = ((p % 2 : Nat) : Int) by omega]
    refine ⟨.inl ⟨rfl, _, .l List.mem_cons_self⟩, ?_⟩
    keq_hits
    have hb : p % 2 = 0 ∨ p % 2 = 1 := by omega
    refine dc_strI (by rcases hb with h | h <;> rw [h] <;> decide) ?_
    have es : (Str.ofString (toString ((p % 2 : Nat) : Int)) : Str) = strL [48 + p % 2] := by rcases hb with h | h <;> rw [h] <;> decide +kernel
    rw [es]
    keq_hits
    refine dm_append (M1 := []) ?_ ?_
    · rw [List.length_map, List.length_map]; exact small1000 (by omega)
    keq_hits
    refine ⟨p / 2, by omega, _, acc ++ [48 + p % 2], rfl, ?_, ?_⟩
    · rw [List.map_append, List.map_append]; rfl
    · rw [hq, rowSg, List.reverse_append, List.append_assoc]; rfl
  · have h0 : q = 0 := by omega
    subst h0
    rw [rowSg, List.nil_append] at hq
    keq_hits
    refine ⟨.inr ⟨rfl, _, rfl⟩, ?_⟩
    keq_hits
    refine ⟨_, .l List.mem_cons_self, fun r => ?_⟩
    keq_hits
    rw [← List.map_reverse, ← List.map_reverse]
    refine dm_join (.l List.mem_cons_self) ?_ ?_
    · show ((acc.reverse.map fun c => strL [c]).map (·.length)).sum + (acc.reverse.map fun c => strL [c]).length * 0 ≤ 16777216
      have : ∀ cs : List Nat, ((cs.map fun c => strL [c]).map (·.length)).sum = cs.length := fun cs => by
        induction cs with
        | nil => rfl
        | cons c cs ih => rw [List.map_cons, List.map_cons, List.sum_cons, ih, List.length_cons]; exact Nat.add_comm 1 _
      rw [this, List.length_reverse]; omega
    rw [show (Str.ofString "" : Str) = strL [] from rfl, str_eqL (join_sg (cs := acc.reverse)), ← hq]
    exact .drop (.cons _ (.cons _ (List.Sublist.refl _))) (.keep k)
end

def kindsL : List Str := ["path", "star", "ring", "pair"]
def loK (z : Str) : Int := if z = "ring" then 3 else 1
def notKind (d : D) : Prop := (∃ q, ∀ M, TyD M d q) ∧ ∀ z, d = .str z → z ∉ kindsL
/-- what is refused, by which class, with what -/
def BadK {K : PySem.W.Frag} {mg : Str → Option Value} (T : Tx K mg) (word many : D) (C : Addr) (x : D) : Prop := (notKind word ∧ C = T.C_NoKind ∧ x = word) ∨ (∃ z, word = .str z ∧ z ∈ kindsL ∧ (∃ q, ∀ M, TyD M many q) ∧ wholeD (loK z) 1000 many = false ∧ C = T.C_NoNumber ∧ x = many)
def sp_need_kind {K : PySem.W.Frag} {mg : Str → Option Value} (T : Tx K mg) : DSp := fun ds M P X => ds.length = 3 ∧ ∃ (word many most : D), ds = [word, many, most] ∧
  ((∃ (z : Str) (n : Nat) (m : Int), word = .str z ∧ z ∈ kindsL ∧ many = .int (n : Nat) ∧ loK z ≤ n ∧ n ≤ 1000 ∧ most = .int m ∧ (z = "pair" ∨ (n : Int) ≤ m) ∧ P .non M) ∨ (∃ C x, BadK T word many C x ∧ X (.ref C) [("found", x)] M) ∨
    (∃ (z : Str) (n : Nat) (m : Int), word = .str z ∧ z ∈ kindsL ∧ many = .int (n : Nat) ∧ loK z ≤ n ∧ n ≤ 1000 ∧ most = .int m ∧ z ≠ "pair" ∧ m < (n : Int) ∧ X (.ref T.C_NoNumber) [("found", many)] M))
theorem ty_str {d : D} {q : PyData} (h : ∀ M, TyD M d q) : isTy "str" q = true ↔ ∃ z, d = .str z := by
  have t := h []
  constructor
  · intro e
    cases t with
    | str z => exact ⟨z, rfl⟩
    | _ => cases e
  · rintro ⟨z, rfl⟩
    cases t with
    | str => rfl
    | lst h' => cases h'
    | dct h' => cases h'
theorem loK_eq (z : Str) : (if decide (z = "ring") = true then (3 : Int) else 1) = loK z := by
  unfold loK
  by_cases h : z = "ring"
  · rw [if_pos h, if_pos (decide_eq_true h)]
  · rw [if_neg h, if_neg (by simpa using h)]
theorem notin_kinds {d : D} (h : notKind d) {z : Str} (e : d = .str z) : decide (z ∈ (["path", "star", "ring", "pair"] : List Str)) = false := decide_eq_false (h.2 z e)
section
variable {P : Program} {w : World} {K : PySem.W.Frag} {mg : Str → Option Value} {base : Heap}
theorem ok_need_kind (T : Tx K mg) : FnOk P w K mg base (L2.CX P w) 3 T.a_need_kind T.fd_need_kind ["word", "many", "most"] (up K (sp_need_kind T)) := by
  refine Fun.okD T.F_need_kind sc_need_kind (fun ds M P X' h => h.1) (fun cdv A outer s H E hr => ?_)
  have hu := hu_of hr
  refine ⟨_, (pss_cons (ps_if (PW.pt (pw_or (pt_not (pt_val (pe_callB (call_isi_K (K := K) rfl) (by rfl) T.z_isinstance (by decide +kernel) (pa_cons (pv 0) (pa_cons (pe_bltnT (n := "str") (by rfl) T.z_str (by decide +kernel)) pa_nil))))) (pw_or1 (pt_cmpR (op_notIn_seqK (K := K) rfl) (pv 0) (pe_globT rfl T.c_KINDS) (by rfl))))) (pss_one (ps_raise rfl (takes_of rfl rfl rfl rfl) (pmk_oex T.ox_NoKind T.xi_NoKind T.xt_NoKind (ok_NoKind___init__ T) (hr.mono (by decide)) T.b_NoKind___init__ .nil pass0 (by rfl) T.m_NoKind (pa_cons (pv 0) pa_nil)))) pss_nil)
      (pss_cons (ps_set (i := 3) sc_need_kind.nd rfl (Or.inl rfl) (pe_ifExp (pt_cmpR op_eq (pv 0) pe_str (nomark _)) pe_int pe_int))
      (pss_one (ps_if (PW.pt (pw_or (pt_not (pt_val (pe_call (ok_is_whole T) (hr.mono (by decide)) (by rfl) T.m_is_whole T.F_is_whole.kp T.b_is_whole .nil pass0 (pa_cons (pv 1) (pa_cons (pv 3) (pa_cons (pe_globI rfl T.c_MOST_kinds) pa_nil)))))) (pw_or1 (PW.pt (pw_and (pt_cmpR op_ne (pv 0) pe_str (nomark _)) (pw_and1 (pt_cmpR op_gt (pv 1) (pv 2) (nomark _)))))))) (pss_one (ps_raise rfl (takes_of rfl rfl rfl rfl) (pmk_oex T.ox_NoNumber T.xi_NoNumber T.xt_NoNumber (ok_NoNumber___init__ T) (hr.mono (by decide)) T.b_NoNumber___init__ .nil pass0 (by rfl) T.m_NoNumber (pa_cons (pv 1) pa_nil)))) pss_nil)))), fun ds M P X' h => ?_⟩
  obtain ⟨_, word, many, most, rfl, h⟩ := h
  by_cases hn : notKind word
  · obtain ⟨C, x, hb, kx⟩ : ∃ C x, BadK T word many C x ∧ X' (.ref C) [("found", x)] M := by
      rcases h with ⟨z, n, m, rfl, hz, _⟩ | h | ⟨z, n, m, rfl, hz, _⟩
      · exact absurd hz (hn.2 z rfl)
      · exact h
      · exact absurd hz (hn.2 z rfl)
    obtain ⟨rfl, rfl⟩ : C = T.C_NoKind ∧ x = word := by
      rcases hb with ⟨_, h1, h2⟩ | ⟨z, rfl, hz, _⟩
      · exact ⟨h1, h2⟩
      · exact absurd hz (hn.2 z rfl)
    obtain ⟨⟨q, ty⟩, hnk⟩ := hn
    keq_hits
    refine dc_isi (by simp) (ty _) ?_
    by_cases hs : isTy "str" q = true
    · obtain ⟨z, rfl⟩ := (ty_str ty).mp hs
      rw [hs]
      keq_hits
      refine de_ktp T.k_KINDS ?_
      refine dop_notin .k ?_
      rw [show decide (z ∈ (["path", "star", "ring", "pair"] : List Str)) = false from decide_eq_false (hnk z rfl)]
      keq_hits
      refine ds_exc1 ?_
      keq_hits
      exact ⟨_, rfl, rfl, kx⟩
    · rw [Bool.eq_false_iff.mpr hs]
      keq_hits
      refine ds_exc1 ?_
      keq_hits
      exact ⟨_, rfl, rfl, kx⟩
  · obtain ⟨z, rfl, hz⟩ : ∃ z, word = .str z ∧ z ∈ kindsL := by
      rcases h with ⟨z, n, m, rfl, hz, _⟩ | ⟨C, x, hb, _⟩ | ⟨z, n, m, rfl, hz, _⟩
      · exact ⟨z, rfl, hz⟩
      · rcases hb with ⟨h1, _⟩ | ⟨z, rfl, hz, _⟩
        · exact absurd h1 hn
        · exact ⟨z, rfl, hz⟩
      · exact ⟨z, rfl, hz⟩
    keq_hits
    refine dc_isi (by simp) (.str z) ?_
    keq_hits
    refine de_ktp T.k_KINDS ?_
    refine dop_notin .k ?_
    rw [show decide (z ∈ (["path", "star", "ring", "pair"] : List Str)) = true from decide_eq_true hz]
    keq_hits
    have hlo : z = "ring" ∧ loK z = 3 ∨ z ≠ "ring" ∧ loK z = 1 := by
      by_cases hr : z = "ring"
      · exact .inl ⟨hr, if_pos hr⟩
      · exact .inr ⟨hr, if_neg hr⟩
    rcases hlo with ⟨hr, hl⟩ | ⟨hr, hl⟩
    all_goals (first | rw [decide_eq_true hr] | rw [decide_eq_false hr])
    all_goals keq_hits
    all_goals rw [← hl]
    all_goals (
      rcases h with ⟨z', n, m', e1, _, rfl, h1, h2, rfl, hm, k⟩ | ⟨C, x, hb, kx⟩ | ⟨z', n, m', e1, _, rfl, h1, h2, rfl, hp, hm, kx⟩
      · cases e1
        refine ⟨rfl, _, _, loK z, 1000, rfl, .int _, .keep ?_⟩
        rw [show wholeD (loK z) 1000 (.int (n : Nat)) = true from by show (decide _ && decide _) = true; rw [decide_eq_true h1, decide_eq_true (by omega)]; rfl]
        keq_hits
        by_cases hp : z = "pair"
        · rw [decide_eq_true hp]
          keq_hits
          exact k
        · have hm' : (n : Int) ≤ m' := hm.resolve_left hp
          rw [decide_eq_false hp]
          keq_hits
          refine w_ifd (fun e => absurd e (by omega)) (fun e => ?_)
          keq_hits
          exact k
      · obtain ⟨⟨q, ty⟩, hw, rfl, rfl⟩ : (∃ q, ∀ M, TyD M many q) ∧ wholeD (loK z) 1000 many = false ∧ C = T.C_NoNumber ∧ x = many := by
          rcases hb with ⟨h1, _⟩ | ⟨z', e1, _, h1, h2, h3, h4⟩
          · exact absurd h1 hn
          · cases e1; exact ⟨h1, h2, h3, h4⟩
        refine ⟨rfl, _, _, loK z, 1000, rfl, ty _, .keep ?_⟩
        rw [hw]
        keq_hits
        refine ds_exc1 ?_
        keq_hits
        exact ⟨_, rfl, rfl, kx⟩
      · cases e1
        refine ⟨rfl, _, _, loK z, 1000, rfl, .int _, .keep ?_⟩
        rw [show wholeD (loK z) 1000 (.int (n : Nat)) = true from by show (decide _ && decide _) = true; rw [decide_eq_true h1, decide_eq_true (by omega)]; rfl]
        keq_hits
        rw [decide_eq_false hp]
        keq_hits
        refine w_ifd (fun e => ?_) (fun e => absurd (show (n : Int) > m' by omega) e)
        refine ds_exc1 ?_
        keq_hits
        exact ⟨_, rfl, rfl, kx⟩)
end

/-- how many pairs so many rows have -/
def tri : Nat → Nat
  | 0 => 0
  | h + 1 => tri h + h
theorem tri_two : ∀ h : Nat, 2 * (tri h : Int) = (h : Int) * ((h : Int) - 1)
  | 0 => rfl
  | h + 1 => by
    have ih := tri_two h
    show 2 * ((tri h + h : Nat) : Int) = ((h + 1 : Nat) : Int) * (((h + 1 : Nat) : Int) - 1)
    have e : ((h + 1 : Nat) : Int) * (((h + 1 : Nat) : Int) - 1) = (h : Int) * ((h : Int) - 1) + 2 * h := by
      rw [show (((h + 1 : Nat) : Int) - 1) = (h : Int) by omega, show ((h + 1 : Nat) : Int) = (h : Int) + 1 by omega, Int.add_mul, Int.mul_sub, Int.one_mul, Int.mul_one]
      omega
    rw [e, ← ih]; omega
theorem tri_div (h : Nat) : (h : Int) * ((h : Int) - 1) / 2 = (tri h : Nat) := by rw [← tri_two]; omega
theorem tri_mono {a b : Nat} (h : a ≤ b) : tri a ≤ tri b := by
  induction h with
  | refl => exact Nat.le_refl _
  | step _ ih => exact Nat.le_trans ih (Nat.le_add_right _ _)
theorem tri_lin : ∀ h, h ≤ tri h + 1
  | 0 => Nat.zero_le _
  | 1 => Nat.le_refl _
  | h + 2 => by have := tri_lin (h + 1); show h + 2 ≤ tri (h + 1) + (h + 1) + 1; omega
/-- the least number of rows with so many pairs -/
structure HPair (n h : Nat) : Prop where
  two : 2 ≤ h
  hi : n ≤ tri h
  lo : tri (h - 1) < n
theorem HPair.uniq {n h g : Nat} (a : HPair n h) (b : HPair n g) : h = g := by
  refine Nat.le_antisymm (Nat.le_of_not_lt fun q => ?_) (Nat.le_of_not_lt fun q => ?_)
  · have := tri_mono (show g ≤ h - 1 by omega); have := a.lo; have := b.hi; omega
  · have := tri_mono (show h ≤ g - 1 by omega); have := b.lo; have := a.hi; omega
theorem HPair.le {n h : Nat} (a : HPair n h) (hn : n ≤ 1000) : h ≤ 46 := Nat.le_of_not_lt fun q => by
  have h1 := tri_mono (show 46 ≤ h - 1 by omega)
  have h2 := a.lo
  have h3 : tri 46 = 1035 := by decide
  omega
def sp_rows_for_pairs {K : PySem.W.Frag} {mg : Str → Option Value} (_ : Tx K mg) : DSp := fun ds M P _ => ds.length = 1 ∧ ∃ n : Nat, ds = [.int n] ∧ 1 ≤ n ∧ n ≤ 1000 ∧ ∀ h, HPair n h → P (.int (h : Nat)) M
section
variable {P : Program} {w : World} {K : PySem.W.Frag} {mg : Str → Option Value} {base : Heap}
theorem ok_rows_for_pairs (T : Tx K mg) : FnOk P w K mg base CX0 1 T.a_rows_for_pairs T.fd_rows_for_pairs ["many"] (up K (sp_rows_for_pairs T)) := by
  refine Fun.okD0 T.F_rows_for_pairs sc_rows_for_pairs (fun ds M P X' h => h.1) (fun cdv A outer s H E hr => ?_)
  have hu := hu_of hr
  refine ⟨_, (pss_cons (ps_set (i := 1) sc_rows_for_pairs.nd rfl (Or.inl rfl) pe_int)
      (pss_cons (ps_while PassesOwn.never (pt_cmpR op_lt (pe_op op_fdiv (pe_op op_mul (pv 1) (pe_op op_sub (pv 1) pe_int)) pe_int) (pv 0) (nomark _)) (pss_one (ps_set (i := 1) sc_rows_for_pairs.nd rfl (Or.inl rfl) (pe_op op_add (pv 1) pe_int))))
      (pss_one (ps_ret (pv 1))))), fun ds M P X' h => ?_⟩
  obtain ⟨_, n, rfl, h1, hn, k⟩ := h
  keq_hits
  refine ds_while (m := 1000) (fun q e mm => ∃ f : Nat, f + q = 1002 ∧ 2 ≤ f ∧ tri (f - 1) < n ∧ e = [some (.int (n : Nat)), some (.int (f : Nat))] ∧ mm = M) ?_ ?_
  · exact ⟨2, rfl, Nat.le_refl _, h1, rfl, rfl⟩
  rintro q e mm ⟨f, hf, hf2, hlo, rfl, rfl⟩
  have hf1000 : f ≤ 1002 := by omega
  keq_hits
  refine dop_rI (.inl ⟨by omega, by omega⟩) ?_
  keq_hits
  refine dop_rI ⟨by decide, by decide⟩ ?_
  rw [tri_div]
  keq_hits
  refine w_ifd (fun h0 => ?_) (fun h0 => ?_)
  · have h0' : tri f < n := by omega
    have := tri_lin f
    keq_hits
    exact ⟨q - 1, by omega, f + 1, by omega, by omega, h0', rfl, rfl⟩
  · keq_hits
    exact k f ⟨hf2, by omega, hlo⟩
end

def RowsOf (z : Str) (n h : Nat) : Prop := (z = "pair" ∧ HPair n h) ∨ (z ≠ "pair" ∧ h = n)
def GoodK (word many : D) (z : Str) (n : Nat) : Prop := word = .str z ∧ z ∈ kindsL ∧ many = .int (n : Nat) ∧ loK z ≤ n ∧ n ≤ 1000
theorem loK_one (z : Str) : 1 ≤ loK z := by unfold loK; split <;> decide
def sp_why_many {K : PySem.W.Frag} {mg : Str → Option Value} (T : Tx K mg) : DSp := fun ds M P X => ds.length = 2 ∧ ∃ (word many : D), ds = [word, many] ∧
  ((∃ z n, GoodK word many z n ∧ ∀ h, RowsOf z n h → P (.int (h : Nat)) M) ∨ (∃ C x, BadK T word many C x ∧ X (.ref C) [("found", x)] M))
section
variable {P : Program} {w : World} {K : PySem.W.Frag} {mg : Str → Option Value} {base : Heap}
theorem ok_why_many (T : Tx K mg) : FnOk P w K mg base (L2.CX P w) 4 T.a_why_many T.fd_why_many ["word", "many"] (up K (sp_why_many T)) := by
  refine Fun.okD T.F_why_many sc_why_many (fun ds M P X' h => h.1) (fun cdv A outer s H E hr => ?_)
  have hu := hu_of hr
  refine ⟨_, (pss_cons (ps_expr (pe_callS (ok_need_kind T) (hr.mono (by decide)) (by rfl) T.m_need_kind T.F_need_kind.kp T.b_need_kind (fun σ => passAt (takes_of rfl rfl rfl rfl) σ) (pa_cons (pv 0) (pa_cons (pv 1) (pa_cons (pe_globI rfl T.c_MOST_kinds) pa_nil)))))
      (pss_cons (ps_if (pt_cmpR op_eq (pv 0) pe_str (nomark _)) (pss_one (ps_ret (pe_call (ok_rows_for_pairs T) (hr.mono (by decide)) (by rfl) T.m_rows_for_pairs T.F_rows_for_pairs.kp T.b_rows_for_pairs .nil pass0 (pa_cons (pv 1) pa_nil)))) pss_nil)
      (pss_one (ps_ret (pv 1))))), fun ds M P X' h => ?_⟩
  obtain ⟨_, word, many, rfl, h⟩ := h
  refine ds_seq (ds_drop (de_callS ?_))
  keq_hits
  rcases h with ⟨z, n, ⟨rfl, hz, rfl, hlo, hn⟩, k⟩ | ⟨C, x, hb, kx⟩
  · refine ⟨rfl, _, _, _, rfl, .inl ⟨z, n, 1000, rfl, hz, rfl, hlo, hn, rfl, .inr (by omega), .keep ?_⟩⟩
    have h1 := loK_one z
    keq_hits
    by_cases hp : z = "pair"
    · rw [decide_eq_true hp]
      keq_hits
      exact ⟨rfl, n, rfl, by omega, hn, fun h hh => .keep (k h (.inl ⟨hp, hh⟩))⟩
    · rw [decide_eq_false hp]
      keq_hits
      exact k n (.inr ⟨hp, rfl⟩)
  · exact ⟨rfl, _, _, _, rfl, .inr (.inl ⟨C, x, hb, rfl, kx⟩)⟩
end

def pairsTo : Nat → List (Nat × Nat)
  | 0 => []
  | h + 1 => pairsTo h ++ (List.range h).map fun l => (l, h)
theorem pairsTo_len : ∀ h, (pairsTo h).length = tri h
  | 0 => rfl
  | h + 1 => by unfold pairsTo; rw [List.length_append, pairsTo_len h, List.length_map, List.length_range]; rfl
theorem pairsTo_lt : ∀ (h : Nat) (q : Nat × Nat), q ∈ pairsTo h → q.1 < q.2 ∧ q.2 < h
  | h + 1, q, hq => by
    unfold pairsTo at hq
    rcases List.mem_append.mp hq with hq | hq
    · have := pairsTo_lt h q hq; omega
    · obtain ⟨l, hl, rfl⟩ := List.mem_map.mp hq
      have := List.mem_range.mp hl
      exact ⟨this, Nat.lt_succ_self _⟩
def rowD1 (k : Nat) : D := .str (strL (rowSg k))
def pairRD (q : Nat × Nat) : D := .tup [rowD1 q.1, rowD1 q.2]
def rowsK (z : Str) (n h : Nat) : List D := if z = "pair" then ((pairsTo h).take n).map pairRD else (List.range n).map rowD1
theorem small5 {n : Nat} (h : n ≤ 5000) : n < sizeLine := Nat.lt_of_le_of_lt h (by decide)
theorem rowSg_lt : ∀ n, ∀ c ∈ rowSg n, c < 50 := fun n => by
  induction n using Nat.strongRecOn with
  | _ n ih =>
    intro c hc
    cases n with
    | zero => rw [rowSg] at hc; cases hc
    | succ n =>
      rw [rowSg] at hc
      rcases List.mem_append.mp hc with h | h
      · exact ih (n / 2) (by omega) c h
      · rw [List.mem_singleton.mp h]; omega
theorem rowD1_ok (k : Nat) : okD 0 (rowD1 k) = true := List.all_eq_true.mpr fun c hc => decide_eq_true (Nat.lt_trans (rowSg_lt k c hc) (by decide))
theorem rowsK_ok (z : Str) (n h : Nat) : (rowsK z n h).all (okD 1) = true := by
  refine List.all_eq_true.mpr fun d hd => ?_
  unfold rowsK at hd
  split at hd
  · obtain ⟨q, _, rfl⟩ := List.mem_map.mp hd
    show (okD 0 (rowD1 q.1) && (okD 0 (rowD1 q.2) && true)) = true
    rw [rowD1_ok, rowD1_ok]; rfl
  · obtain ⟨q, _, rfl⟩ := List.mem_map.mp hd
    exact rowD1_ok q
theorem atI_last {α : Type} {xs : List α} {x : α} (h : xs[xs.length - 1]? = some x) : atI xs (-1) = some x := by
  have hl : 0 < xs.length := by
    have := (List.getElem?_eq_some_iff.mp h).1
    omega
  unfold atI
  have : ixN xs.length (-1) = some (xs.length - 1) := by
    unfold ixN
    rw [if_neg (by omega), if_pos (by omega)]
    exact congrArg some (by omega)
  rw [this]
  exact h
theorem pairs_last {n h : Nat} (hh : HPair n h) : ∃ l, ((pairsTo h).take n)[n - 1]? = some (l, h - 1) ∧ ((pairsTo h).take n).length = n := by
  obtain ⟨g, rfl⟩ : ∃ g, h = g + 1 := ⟨h - 1, by have := hh.two; omega⟩
  have h1 := hh.lo
  have h2 := hh.hi
  have e3 : g + 1 - 1 = g := rfl
  rw [e3] at h1
  have e4 : tri (g + 1) = tri g + g := rfl
  have hlen : ((pairsTo (g + 1)).take n).length = n := by rw [List.length_take, pairsTo_len]; omega
  refine ⟨n - 1 - tri g, ?_, hlen⟩
  rw [List.getElem?_take, if_pos (by omega), show pairsTo (g + 1) = pairsTo g ++ (List.range g).map fun l => (l, g) from rfl, List.getElem?_append_right (by rw [pairsTo_len]; omega), pairsTo_len, List.getElem?_map, List.getElem?_range (by omega)]
  rfl
theorem RowsOf.le {z : Str} {n h : Nat} (r : RowsOf z n h) (h1 : 1 ≤ n) (hn : n ≤ 1000) : 1 ≤ h ∧ h ≤ 1000 := by
  rcases r with ⟨_, r⟩ | ⟨_, rfl⟩
  · have := r.le hn; have := r.two; omega
  · exact ⟨h1, hn⟩
theorem RowsOf.uniq {z : Str} {n h g : Nat} (a : RowsOf z n h) (b : RowsOf z n g) : h = g := by
  rcases a with ⟨e, a⟩ | ⟨e, rfl⟩
  · rcases b with ⟨_, b⟩ | ⟨f, _⟩
    · exact a.uniq b
    · exact absurd e f
  · rcases b with ⟨f, _⟩ | ⟨_, rfl⟩
    · exact absurd f e
    · rfl
def sp_kind_rows {K : PySem.W.Frag} {mg : Str → Option Value} (T : Tx K mg) : DSp := fun ds M P X => ds.length = 2 ∧ ∃ (word many : D), ds = [word, many] ∧
  ((∃ z n, GoodK word many z n ∧ ∀ h a, RowsOf z n h → P (.loc a) ((a, .lst (rowsK z n h)) :: M)) ∨ (∃ C x, BadK T word many C x ∧ X (.ref C) [("found", x)] M))
section
variable {P : Program} {w : World} {K : PySem.W.Frag} {mg : Str → Option Value} {base : Heap}
theorem ok_kind_rows (T : Tx K mg) : FnOk P w K mg base (L2.CX P w) 4 T.a_kind_rows T.fd_kind_rows ["word", "many"] (up K (sp_kind_rows T)) := by
  refine Fun.okD T.F_kind_rows sc_kind_rows (fun ds M P X' h => h.1) (fun cdv A outer s H E hr => ?_)
  have hu := hu_of hr
  refine ⟨_, (pss_cons (ps_expr (pe_callS (ok_need_kind T) (hr.mono (by decide)) (by rfl) T.m_need_kind T.F_need_kind.kp T.b_need_kind (fun σ => passAt (takes_of rfl rfl rfl rfl) σ) (pa_cons (pv 0) (pa_cons (pv 1) (pa_cons (pe_globI rfl T.c_MOST_kinds) pa_nil)))))
      (pss_cons (ps_if (pt_cmpR op_ne (pv 0) pe_str (nomark _)) (pss_one (ps_ret (pe_lc (own := [("number", 4)]) rfl sc_kind_rows.nd (pi_range1 rfl T.z_range (pa_cons (pv 1) pa_nil)) (blkOk_by (N := slots_kind_rows) (sc := defScope s_kind_rows) (by decide +kernel)) (fun _ _ _ _ _ => by exact (pg_name (i := 4) sc_kind_rows.nd rfl (Or.inl rfl))) (fun _ _ _ _ _ => pts_nil) (fun _ _ _ _ _ => by exact (pe_call (ok_row_by T) (hr.mono (by decide)) (by rfl) T.m_row_by T.F_row_by.kp T.b_row_by .nil pass0 (pa_cons (pv 4) pa_nil)))))) pss_nil)
      (pss_cons (ps_set (i := 2) sc_kind_rows.nd rfl (Or.inl rfl) (pe_lst pa_nil))
      (pss_cons (ps_for (passes_of rfl) rfl (pi_range1 rfl T.z_range (pa_cons (pe_call (ok_rows_for_pairs T) (hr.mono (by decide)) (by rfl) T.m_rows_for_pairs T.F_rows_for_pairs.kp T.b_rows_for_pairs .nil pass0 (pa_cons (pv 1) pa_nil)) pa_nil)) (pg_name (i := 3) sc_kind_rows.nd rfl (Or.inr rfl)) (pss_one (ps_expr (pe_bmK (K := K) rfl PySem.F.plainAttrs_list PySem.F.slot_list_extend PySem.F.type_list_extend mt_extend (pv 2) (pa_cons (pe_lc (own := [("one", 5)]) rfl sc_kind_rows.nd (pi_range1 rfl T.z_range (pa_cons (pv 3) pa_nil)) (blkOk_by (N := slots_kind_rows) (sc := defScope s_kind_rows) (by decide +kernel)) (fun _ _ _ _ _ => by exact (pg_name (i := 5) sc_kind_rows.nd rfl (Or.inl rfl))) (fun _ _ _ _ _ => pts_nil) (fun _ _ _ _ _ => by exact (pe_tup (pa_cons (pe_call (ok_row_by T) (hr.mono (by decide)) (by rfl) T.m_row_by T.F_row_by.kp T.b_row_by .nil pass0 (pa_cons (pv 5) pa_nil)) (pa_cons (pe_call (ok_row_by T) (hr.mono (by decide)) (by rfl) T.m_row_by T.F_row_by.kp T.b_row_by .nil pass0 (pa_cons (pv 3) pa_nil)) pa_nil))))) pa_nil)))))
      (pss_one (ps_ret (pe_slice (sl_listK (K := K) rfl) (pv 2) po_none (po_some (pv 1))))))))), fun ds M P X' h => ?_⟩
  obtain ⟨_, word, many, rfl, h⟩ := h
  refine ds_fz ?_
  refine ds_seq (ds_drop (de_callS ?_))
  keq_hits
  rcases h with ⟨z, n, ⟨rfl, hz, rfl, hlo, hn⟩, k⟩ | ⟨C, x, hb, kx⟩
  rotate_left
  · exact ⟨rfl, _, _, _, rfl, .inr (.inl ⟨C, x, hb, rfl, kx⟩)⟩
  refine ⟨rfl, _, _, _, rfl, .inl ⟨z, n, 1000, rfl, hz, rfl, hlo, hn, rfl, .inr (by omega), .keep ?_⟩⟩
  have h1 := loK_one z
  keq_hits
  by_cases hp : z = "pair"
  · rw [decide_eq_true hp]
    keq_hits
    refine de_lst ?_
    keq_hits
    refine ⟨by decide, fun a => ?_⟩
    keq_hits
    refine ds_for (di_rng1 ?_)
    keq_hits
    refine ⟨rfl, n, rfl, by omega, hn, fun h hh => .keep ?_⟩
    have h46 := hh.le hn
    keq_hits
    refine ⟨_, rfl, by omega, by omega, fun i e mm => i ≤ h ∧ ∃ e3, e = [some (.str z), some (.int (n : Nat)), some (.loc a), e3, none, none] ∧ mm = (a, .lst ((pairsTo i).map pairRD)) :: M, ⟨Nat.zero_le _, _, rfl, rfl⟩, fun _ _ _ _ _ => trivial, ?_, ?_⟩
    · rintro i x e mm hx ⟨hi, e3, rfl, rfl⟩
      obtain ⟨hi, rfl⟩ := rngD_get hx
      rw [Int.toNat_natCast] at hi
      rw [Int.zero_add]
      keq_hits
      refine ⟨.inl ⟨rfl, _, .l List.mem_cons_self⟩, ?_⟩
      refine da_cons (de_fz (de_lcP (own_name (by simp)) (di_rng1 ?_)))
      keq_hits
      refine ⟨_, rfl, by omega, by omega, by rw [rngD_len, Int.toNat_natCast]; exact small5 (by omega), fun _ _ => trivial, (fun d => match d with | .int j => some (pairRD (j.toNat, i)) | _ => none), ?_, fun b => .lst (M1 := []) (.keep ?_)⟩
      · rintro j y m' hy -
        obtain ⟨hj, rfl⟩ := rngD_get hy
        rw [Int.toNat_natCast] at hj
        rw [Int.zero_add]
        keq_hits
        refine ⟨rfl, j, rfl, by omega, .keep ?_⟩
        keq_hits
        refine ⟨rfl, i, rfl, by omega, .keep ?_⟩
        keq_hits
        exact ⟨by show 2 ≤ sizeLine; decide, .keep ⟨rfl, rfl⟩⟩
      have e1 : (rngD 0 ((i : Nat) : Int).toNat).filterMap (fun d => match d with | .int j => some (pairRD (j.toNat, i)) | _ => none) = ((List.range i).map fun l => (l, i)).map pairRD := by
        rw [Int.toNat_natCast]
        unfold rngD
        rw [List.filterMap_map, List.map_map, ← List.filterMap_eq_map]
        refine fm_congrD fun l _ => ?_
        show some (pairRD (((0 : Int) + (l : Nat)).toNat, i)) = some (pairRD (l, i))
        rw [Int.zero_add, Int.toNat_natCast]
      rw [e1]
      keq_hits
      have hlen : ((pairsTo i).map pairRD).length + (((List.range i).map fun l => (l, i)).map pairRD).length ≤ sizeLine := by
        rw [List.length_map, pairsTo_len, List.length_map, List.length_map, List.length_range]
        have h4 := tri_mono (show i + 1 ≤ 46 by omega)
        have h5 : tri 46 = 1035 := by decide
        have h6 : tri (i + 1) = tri i + i := rfl
        exact Nat.le_of_lt (small5 (by omega))
      refine dm_extend (M1 := []) .v hlen ?_
      keq_hits
      refine ⟨by omega, _, rfl, ?_⟩
      rw [show pairsTo (i + 1) = pairsTo i ++ (List.range i).map fun l => (l, i) from rfl, List.map_append]
      rfl
    · rintro e mm ⟨_, e3, rfl, rfl⟩
      rw [rngD_len, Int.toNat_natCast]
      keq_hits
      refine dsl_l (.l List.mem_cons_self) fun b => ?_
      rw [cutD_take, ← List.map_take]
      refine .drop (.cons_cons _ (.cons _ (List.Sublist.refl _))) (.keep ?_)
      have := k h b (.inl ⟨hp, hh⟩)
      unfold rowsK at this
      rw [if_pos hp] at this
      exact this
  · rw [decide_eq_false hp]
    keq_hits
    refine de_lcP (own_name (by simp)) (di_rng1 ?_)
    keq_hits
    refine ⟨_, rfl, by omega, by omega, by rw [rngD_len, Int.toNat_natCast]; exact small5 (by omega), fun _ _ => trivial, (fun d => match d with | .int j => some (rowD1 j.toNat) | _ => none), ?_, fun b => .keep ?_⟩
    · rintro j y m' hy -
      obtain ⟨hj, rfl⟩ := rngD_get hy
      rw [Int.toNat_natCast] at hj
      rw [Int.zero_add]
      keq_hits
      exact ⟨rfl, j, rfl, by omega, .keep (.keep ⟨rfl, rfl⟩)⟩
    have e1 : (rngD 0 ((n : Nat) : Int).toNat).filterMap (fun d => match d with | .int j => some (rowD1 j.toNat) | _ => none) = (List.range n).map rowD1 := by
      rw [Int.toNat_natCast]
      unfold rngD
      rw [List.filterMap_map, ← List.filterMap_eq_map]
      refine fm_congrD fun l _ => ?_
      show some (rowD1 ((0 : Int) + (l : Nat)).toNat) = some (rowD1 l)
      rw [Int.zero_add, Int.toNat_natCast]
    rw [e1]
    have := k n b (.inr ⟨hp, rfl⟩)
    unfold rowsK at this
    rw [if_neg hp] at this
    exact this
end

def signsS (z : Str) : Bool := z.cps.toList.all fun c => decide (c ∈ ("01" : Str).cps.toList)
def signsB : D → Bool
  | .str z => !decide (1500 < z.length) && signsS z
  | _ => false
def sp_is_signs {K : PySem.W.Frag} {mg : Str → Option Value} (_ : Tx K mg) : DSp := fun ds M P _ => ds.length = 1 ∧ ∃ d p, ds = [d] ∧ TyD M d p ∧ (∀ z, d = .str z → z.length ≤ sizeLine) ∧ P (.bl (signsB d)) M
section
variable {P : Program} {w : World} {K : PySem.W.Frag} {mg : Str → Option Value} {base : Heap}
theorem ok_is_signs (T : Tx K mg) : FnOk P w K mg base CX0 1 T.a_is_signs T.fd_is_signs ["thing"] (up K (sp_is_signs T)) := by
  refine Fun.okD0 T.F_is_signs sc_is_signs (fun ds M P X' h => h.1) (fun cdv A outer s H E hr => ?_)
  have hu := hu_of hr
  refine ⟨_, (pss_cons (ps_if (PW.pt (pw_or (pt_not (pt_val (pe_callB (call_isi_K (K := K) rfl) (by rfl) T.z_isinstance (by decide +kernel) (pa_cons (pv 0) (pa_cons (pe_bltnT (n := "str") (by rfl) T.z_str (by decide +kernel)) pa_nil))))) (pw_or1 (pt_cmpR op_gt (pe_callB call_len_str (by rfl) T.z_len (by decide +kernel) (pa_cons (pv 0) pa_nil)) (pe_globI rfl T.c_MOST_SIGNS) (nomark _))))) (pss_one (ps_ret pe_bl)) pss_nil)
      (pss_one (ps_ret (pe_allS (show 1 < 2 by decide) (pe_callB (cr_allK (K := K) rfl rfl) (by rfl) T.z_all (by decide +kernel) (pa_cons (pe_lc (own := [("sign", 1)]) rfl sc_is_signs.nd (pi_str (pv 0)) (blkOk_by (N := slots_is_signs) (sc := defScope s_is_signs) (by decide +kernel)) (fun _ _ _ _ _ => by exact (pg_name (i := 1) sc_is_signs.nd rfl (Or.inl rfl))) (fun _ _ _ _ _ => pts_nil) (fun _ _ _ _ _ => by exact (pe_cmpR op_in_sign (pv 1) pe_str (by rfl)))) pa_nil)))))), fun ds M P X' h => ?_⟩
  obtain ⟨_, d, p, rfl, ty, hz, k⟩ := h
  keq_hits
  refine dc_isi (by simp) ty ?_
  keq_hits
  cases ty with
  | str x =>
    have k' : P (.bl (!decide (1500 < x.length) && signsS x)) M := k
    keq_hits
    refine dc_lenS (hz x rfl) ?_
    keq_hits
    refine w_ifd (fun e => ?_) (fun e => ?_)
    · keq_hits
      rw [decide_eq_true (show 1500 < x.length by omega)] at k'
      exact k'
    · keq_hits
      rw [decide_eq_false (show ¬ 1500 < x.length by omega)] at k'
      exact ⟨x, rfl, small5 (by omega), k'⟩
  | lst hl => cases hl <;> (keq_hits; exact k)
  | dct hl => cases hl <;> (keq_hits; exact k)
  | _ => keq_hits; exact k
end

theorem rowSg_01 : ∀ n, ∀ c ∈ rowSg n, c = 48 ∨ c = 49 := fun n => by
  induction n using Nat.strongRecOn with
  | _ n ih =>
    intro c hc
    cases n with
    | zero => rw [rowSg] at hc; cases hc
    | succ n =>
      rw [rowSg] at hc
      rcases List.mem_append.mp hc with h | h
      · exact ih (n / 2) (by omega) c h
      · rw [List.mem_singleton.mp h]; omega
theorem rowSg_signs {n : Nat} (h : n ≤ 1400) : signsB (rowD1 n) = true := by
  have h1 := rowSg_len n
  show (!decide (1500 < (strL (rowSg n)).length) && signsS (strL (rowSg n))) = true
  rw [strL_len, decide_eq_false (by omega), Bool.not_false, Bool.true_and]
  refine List.all_eq_true.mpr fun c hc => ?_
  rcases rowSg_01 n c hc with rfl | rfl <;> decide +kernel
def sp_need_signs {K : PySem.W.Frag} {mg : Str → Option Value} (_ : Tx K mg) : DSp := fun ds M P _ => ds.length = 1 ∧ ∃ k : Nat, ds = [rowD1 k] ∧ k ≤ 1400 ∧ P .non M
section
variable {P : Program} {w : World} {K : PySem.W.Frag} {mg : Str → Option Value} {base : Heap}
theorem ok_need_signs (T : Tx K mg) : FnOk P w K mg base CX0 2 T.a_need_signs T.fd_need_signs ["thing"] (up K (sp_need_signs T)) := by
  refine Fun.okD0 T.F_need_signs sc_need_signs (fun ds M P X' h => h.1) (fun cdv A outer s H E hr => ?_)
  have hu := hu_of hr
  refine ⟨_, (pss_one (ps_if (pt_not (pt_val (pe_call (ok_is_signs T) (hr.mono (by decide)) (by rfl) T.m_is_signs T.F_is_signs.kp T.b_is_signs .nil pass0 (pa_cons (pv 0) pa_nil)))) (pss_one ps_never) pss_nil)), fun ds M P X' h => ?_⟩
  obtain ⟨_, n, rfl, hn, k⟩ := h
  have h1 := rowSg_len n
  keq_hits
  refine ⟨rfl, _, _, rfl, .str _, (fun z e => by cases e; rw [strL_len]; exact Nat.le_of_lt (small5 (by omega))), .keep ?_⟩
  rw [rowSg_signs hn]
  keq_hits
  exact k
end

def rowNo (l : List Nat) : Nat := l.foldl (fun a c => 2 * a + 1 + (c - 48)) 0
theorem rowNo_snoc (l : List Nat) (c : Nat) : rowNo (l ++ [c]) = 2 * rowNo l + 1 + (c - 48) := by unfold rowNo; rw [List.foldl_append]; rfl
theorem rowNo_rowSg : ∀ n, rowNo (rowSg n) = n := fun n => by
  induction n using Nat.strongRecOn with
  | _ n ih =>
    cases n with
    | zero => rw [rowSg]; rfl
    | succ n => rw [rowSg, rowNo_snoc, ih (n / 2) (by omega)]; omega
theorem rowNo_take {l : List Nat} (i : Nat) : rowNo (l.take i) ≤ rowNo l := by
  have h : ∀ (m : List Nat) (a b : Nat), a ≤ b → a ≤ m.foldl (fun a c => 2 * a + 1 + (c - 48)) b := fun m => by
    induction m with
    | nil => intro a b h; exact h
    | cons c m ih => intro a b h; exact ih a _ (show a ≤ 2 * b + 1 + (c - 48) by omega)
  have e := List.take_append_drop i l
  have : rowNo l = (l.drop i).foldl (fun a c => 2 * a + 1 + (c - 48)) (rowNo (l.take i)) := by
    unfold rowNo
    rw [← List.foldl_append, e]
  rw [this]
  exact h _ _ _ (Nat.le_refl _)
def sp_row_number {K : PySem.W.Frag} {mg : Str → Option Value} (_ : Tx K mg) : DSp := fun ds M P _ => ds.length = 1 ∧ ∃ k : Nat, ds = [rowD1 k] ∧ k ≤ 1400 ∧ P (.int (k : Nat)) M
section
variable {P : Program} {w : World} {K : PySem.W.Frag} {mg : Str → Option Value} {base : Heap}
theorem ok_row_number (T : Tx K mg) : FnOk P w K mg base CX0 3 T.a_row_number T.fd_row_number ["signs"] (up K (sp_row_number T)) := by
  refine Fun.okD0 T.F_row_number sc_row_number (fun ds M P X' h => h.1) (fun cdv A outer s H E hr => ?_)
  have hu := hu_of hr
  refine ⟨_, (pss_cons (ps_expr (pe_call (ok_need_signs T) (hr.mono (by decide)) (by rfl) T.m_need_signs T.F_need_signs.kp T.b_need_signs .nil pass0 (pa_cons (pv 0) pa_nil)))
      (pss_cons (ps_set (i := 1) sc_row_number.nd rfl (Or.inl rfl) pe_int)
      (pss_cons (ps_for PassesOwn.never rfl (pi_str (pv 0)) (pg_name (i := 2) sc_row_number.nd rfl (Or.inl rfl)) (pss_one (ps_set (i := 1) sc_row_number.nd rfl (Or.inl rfl) (pe_op op_add (pe_op op_add (pe_op op_mul pe_int (pv 1)) pe_int) (pe_callTy call_int_str (by rfl) T.z_int (by decide +kernel) (pa_cons (pv 2) pa_nil))))))
      (pss_one (ps_ret (pv 1)))))), fun ds M P X' h => ?_⟩
  obtain ⟨_, n, rfl, hn, k⟩ := h
  keq_hits
  refine ⟨rfl, n, rfl, hn, .keep ?_⟩
  keq_hits
  refine ds_for (di_str ?_)
  keq_hits
  refine ⟨_, rfl, fun i e mm => ∃ e2, e = [some (rowD1 n), some (.int ((rowNo ((rowSg n).take i) : Nat) : Int)), e2] ∧ mm = M, ⟨_, rfl, rfl⟩, fun _ _ _ _ _ => trivial, ?_, ?_⟩
  · rintro i x e mm hx ⟨e2, rfl, rfl⟩
    unfold signD at hx
    rw [strL_l, List.getElem?_map] at hx
    obtain ⟨c, hc, rfl⟩ := Option.map_eq_some_iff.mp hx
    have h01 := rowSg_01 n c (List.mem_of_getElem? hc)
    have hle := rowNo_take (l := rowSg n) i
    rw [rowNo_rowSg] at hle
    keq_hits
    refine dop_rI (.inl ⟨by decide, by decide⟩) ?_
    keq_hits
    have hi : PySem.intText? (⟨#[c]⟩ : Str) = some ((c - 48 : Nat) : Int) := by rcases h01 with rfl | rfl <;> decide +kernel
    refine dc_intS hi (by show 1 ≤ 640; decide) ?_
    keq_hits
    refine ⟨some (.str ⟨#[c]⟩), ?_, rfl⟩
    rw [take_snoc hc, rowNo_snoc]
    rw [show ((2 * rowNo ((rowSg n).take i) + 1 + (c - 48) : Nat) : Int) = 2 * (rowNo ((rowSg n).take i) : Nat) + 1 + ((c - 48 : Nat) : Int) by omega]
    rfl
  · rintro e mm ⟨e2, rfl, rfl⟩
    have hl : (signD (strL (rowSg n))).length = (rowSg n).length := by unfold signD; rw [List.length_map, strL_l]
    rw [hl, List.take_length, rowNo_rowSg]
    keq_hits
    exact k
end

/-- no row of so many -/
def BadS (d : D) (least : Nat) : Prop := (∃ k, d = rowD1 k ∧ least ≤ k ∧ k ≤ 1400) ∨ ((∃ q, ∀ M, TyD M d q) ∧ (∀ z, d = .str z → z.length ≤ sizeLine) ∧ signsB d = false)
def sp_number_of_row {K : PySem.W.Frag} {mg : Str → Option Value} (T : Tx K mg) : DSp := fun ds M P X => ds.length = 2 ∧ ∃ (d : D) (least : Nat), ds = [d, .int least] ∧ least ≤ 1400 ∧
  ((∃ k, d = rowD1 k ∧ k < least ∧ P (.int (k : Nat)) M) ∨ (BadS d least ∧ X (.ref T.C_NoSigns) [("found", d)] M))
section
variable {P : Program} {w : World} {K : PySem.W.Frag} {mg : Str → Option Value} {base : Heap}
theorem ok_number_of_row (T : Tx K mg) : FnOk P w K mg base (L2.CX P w) 4 T.a_number_of_row T.fd_number_of_row ["thing", "least"] (up K (sp_number_of_row T)) := by
  refine Fun.okD T.F_number_of_row sc_number_of_row (fun ds M P X' h => h.1) (fun cdv A outer s H E hr => ?_)
  have hu := hu_of hr
  refine ⟨_, (pss_cons (ps_if (PW.pt (pw_or (pt_not (pt_val (pe_call (ok_is_signs T) (hr.mono (by decide)) (by rfl) T.m_is_signs T.F_is_signs.kp T.b_is_signs .nil pass0 (pa_cons (pv 0) pa_nil)))) (pw_or1 (pt_cmpR op_ge (pe_call (ok_row_number T) (hr.mono (by decide)) (by rfl) T.m_row_number T.F_row_number.kp T.b_row_number .nil pass0 (pa_cons (pv 0) pa_nil)) (pv 1) (nomark _))))) (pss_one (ps_raise rfl (takes_of rfl rfl rfl rfl) (pmk_oex T.ox_NoSigns T.xi_NoSigns T.xt_NoSigns (ok_NoSigns___init__ T) (hr.mono (by decide)) T.b_NoSigns___init__ .nil pass0 (by rfl) T.m_NoSigns (pa_cons (pv 0) pa_nil)))) pss_nil)
      (pss_one (ps_ret (pe_call (ok_row_number T) (hr.mono (by decide)) (by rfl) T.m_row_number T.F_row_number.kp T.b_row_number .nil pass0 (pa_cons (pv 0) pa_nil))))), fun ds M P X' h => ?_⟩
  obtain ⟨_, d, least, rfl, hl, h⟩ := h
  rcases h with ⟨n, rfl, hn, k⟩ | ⟨⟨n, rfl, hn, hn2⟩ | ⟨⟨q, ty⟩, hz, hs⟩, kx⟩
  · have h1 := rowSg_len n
    keq_hits
    refine ⟨rfl, _, _, rfl, .str _, (fun z e => by cases e; rw [strL_len]; exact Nat.le_of_lt (small5 (by omega))), .keep ?_⟩
    rw [rowSg_signs (by omega)]
    keq_hits
    refine ⟨rfl, n, rfl, by omega, .keep ?_⟩
    keq_hits
    refine w_ifd (fun e => absurd e (by omega)) (fun _ => ?_)
    keq_hits
    exact ⟨rfl, n, rfl, by omega, .keep k⟩
  · have h1 := rowSg_len n
    keq_hits
    refine ⟨rfl, _, _, rfl, .str _, (fun z e => by cases e; rw [strL_len]; exact Nat.le_of_lt (small5 (by omega))), .keep ?_⟩
    rw [rowSg_signs (by omega)]
    keq_hits
    refine ⟨rfl, n, rfl, by omega, .keep ?_⟩
    keq_hits
    refine w_ifd (fun _ => ?_) (fun e => absurd (show _ ≤ _ by omega) e)
    refine ds_exc1 ?_
    keq_hits
    exact ⟨_, rfl, rfl, kx⟩
  · keq_hits
    refine ⟨rfl, d, q, rfl, ty _, hz, .keep ?_⟩
    rw [hs]
    keq_hits
    refine ds_exc1 ?_
    keq_hits
    exact ⟨_, rfl, rfl, kx⟩
end

def optN : Option Nat → D
  | none => .non
  | some n => .int (n : Nat)
def pairFar (n l h : Nat) : Option Nat := if tri h + l < n then some (tri h + l + 1) else none
def sp_pair_far {K : PySem.W.Frag} {mg : Str → Option Value} (_ : Tx K mg) : DSp := fun ds M P _ => ds.length = 3 ∧ ∃ n l h : Nat, ds = [.int n, .int l, .int h] ∧ n ≤ 1000 ∧ l ≤ 1000 ∧ h ≤ 1000 ∧ P (optN (pairFar n l h)) M
section
variable {P : Program} {w : World} {K : PySem.W.Frag} {mg : Str → Option Value} {base : Heap}
theorem ok_pair_far (T : Tx K mg) : FnOk P w K mg base CX0 1 T.a_pair_far T.fd_pair_far ["many", "low", "high"] (up K (sp_pair_far T)) := by
  refine Fun.okD0 T.F_pair_far sc_pair_far (fun ds M P X' h => h.1) (fun cdv A outer s H E hr => ?_)
  have hu := hu_of hr
  refine ⟨_, (pss_cons (ps_set (i := 3) sc_pair_far.nd rfl (Or.inl rfl) (pe_op op_add (pe_op op_add (pe_op op_fdiv (pe_op op_mul (pv 2) (pe_op op_sub (pv 2) pe_int)) pe_int) (pv 1)) pe_int))
      (pss_one (ps_ret (pe_ifExp (pt_cmpR op_le (pv 3) (pv 0) (nomark _)) (pv 3) pe_non)))), fun ds M P X' h => ?_⟩
  obtain ⟨_, n, l, h, rfl, hn, hl, hh, k⟩ := h
  keq_hits
  refine dop_rI (.inl ⟨by omega, by omega⟩) ?_
  keq_hits
  refine dop_rI ⟨by decide, by decide⟩ ?_
  rw [tri_div]
  keq_hits
  refine w_ifd (fun e => ?_) (fun e => ?_)
  · have h1 : tri h + l < n := by omega
    keq_hits
    have : optN (pairFar n l h) = .int ((tri h : Nat) + (l : Nat) + 1) := by unfold pairFar; rw [if_pos h1]; show D.int _ = _; congr 1
    rw [this] at k
    exact k
  · have h1 : ¬ tri h + l < n := by omega
    keq_hits
    have : optN (pairFar n l h) = .non := by unfold pairFar; rw [if_neg h1]; rfl
    rw [this] at k
    exact k
end

/-- how far by the kind -/
def farK (z : Str) (n i j : Nat) : Option Nat :=
  if i = j then some 0
  else if z = "pair" then pairFar n (min i j) (max i j)
  else if z = "star" then some (if min i j = 0 then 1 else 2)
  else if z = "ring" then some (min (max i j - min i j) (n - (max i j - min i j)))
  else some (max i j - min i j)
def sp_kind_far {K : PySem.W.Frag} {mg : Str → Option Value} (T : Tx K mg) : DSp := fun ds M P X => ds.length = 4 ∧ ∃ (word many one other : D), ds = [word, many, one, other] ∧
  ((∃ z n h i j, GoodK word many z n ∧ RowsOf z n h ∧ one = rowD1 i ∧ i < h ∧ other = rowD1 j ∧ j < h ∧ P (optN (farK z n i j)) M) ∨ (∃ C x, BadK T word many C x ∧ X (.ref C) [("found", x)] M) ∨
    (∃ z n h, GoodK word many z n ∧ RowsOf z n h ∧ BadS one h ∧ X (.ref T.C_NoSigns) [("found", one)] M) ∨ (∃ z n h i, GoodK word many z n ∧ RowsOf z n h ∧ one = rowD1 i ∧ i < h ∧ BadS other h ∧ X (.ref T.C_NoSigns) [("found", other)] M))
theorem abs_mm (i j : Nat) : (if ((i : Int) - j) < 0 then -((i : Int) - j) else (i : Int) - j) = ((max i j - min i j : Nat) : Int) := by split <;> omega
theorem min_mm (i j : Nat) : (if (j : Int) < i then (j : Int) else i) = ((min i j : Nat) : Int) := by split <;> omega
theorem max_mm (i j : Nat) : (if (j : Int) > i then (j : Int) else i) = ((max i j : Nat) : Int) := by split <;> omega
section
variable {P : Program} {w : World} {K : PySem.W.Frag} {mg : Str → Option Value} {base : Heap}
theorem ok_kind_far (T : Tx K mg) : FnOk P w K mg base (L2.CX P w) 5 T.a_kind_far T.fd_kind_far ["word", "many", "one", "other"] (up K (sp_kind_far T)) := by
  refine Fun.okD T.F_kind_far sc_kind_far (fun ds M P X' h => h.1) (fun cdv A outer s H E hr => ?_)
  have hu := hu_of hr
  refine ⟨_, (pss_cons (ps_set (i := 4) sc_kind_far.nd rfl (Or.inl rfl) (pe_callS (ok_why_many T) (hr.mono (by decide)) (by rfl) T.m_why_many T.F_why_many.kp T.b_why_many (fun σ => passAt (takes_of rfl rfl rfl rfl) σ) (pa_cons (pv 0) (pa_cons (pv 1) pa_nil))))
      (pss_cons (ps_set (i := 5) sc_kind_far.nd rfl (Or.inl rfl) (pe_callS (ok_number_of_row T) (hr.mono (by decide)) (by rfl) T.m_number_of_row T.F_number_of_row.kp T.b_number_of_row (fun σ => passAt (takes_of rfl rfl rfl rfl) σ) (pa_cons (pv 2) (pa_cons (pv 4) pa_nil))))
      (pss_cons (ps_set (i := 6) sc_kind_far.nd rfl (Or.inl rfl) (pe_callS (ok_number_of_row T) (hr.mono (by decide)) (by rfl) T.m_number_of_row T.F_number_of_row.kp T.b_number_of_row (fun σ => passAt (takes_of rfl rfl rfl rfl) σ) (pa_cons (pv 3) (pa_cons (pv 4) pa_nil))))
      (pss_cons (ps_if (pt_cmpR op_eq (pv 5) (pv 6) (nomark _)) (pss_one (ps_ret pe_int)) pss_nil)
      (pss_cons (ps_set (i := 7) sc_kind_far.nd rfl (Or.inl rfl) (pe_callB call_abs (by rfl) T.z_abs (by decide +kernel) (pa_cons (pe_op op_sub (pv 5) (pv 6)) pa_nil)))
      (pss_cons (ps_if (pt_cmpR op_eq (pv 0) pe_str (nomark _)) (pss_one (ps_ret (pe_call (ok_pair_far T) (hr.mono (by decide)) (by rfl) T.m_pair_far T.F_pair_far.kp T.b_pair_far .nil pass0 (pa_cons (pv 1) (pa_cons (pe_callB (call_min2 rfl) (by rfl) T.z_min (by decide +kernel) (pa_cons (pv 5) (pa_cons (pv 6) pa_nil))) (pa_cons (pe_callB (call_max2 rfl) (by rfl) T.z_max (by decide +kernel) (pa_cons (pv 5) (pa_cons (pv 6) pa_nil))) pa_nil)))))) pss_nil)
      (pss_cons (ps_if (pt_cmpR op_eq (pv 0) pe_str (nomark _)) (pss_one (ps_ret (pe_ifExp (pt_cmpR op_eq (pe_callB (call_min2 rfl) (by rfl) T.z_min (by decide +kernel) (pa_cons (pv 5) (pa_cons (pv 6) pa_nil))) pe_int (nomark _)) pe_int pe_int))) pss_nil)
      (pss_one (ps_ret (pe_ifExp (pt_cmpR op_eq (pv 0) pe_str (nomark _)) (pe_callB (call_min2 rfl) (by rfl) T.z_min (by decide +kernel) (pa_cons (pv 7) (pa_cons (pe_op op_sub (pv 1) (pv 7)) pa_nil))) (pv 7))))))))))), fun ds M P X' h => ?_⟩
  obtain ⟨_, word, many, one, other, rfl, h⟩ := h
  rcases h with ⟨z, n, h, i, j, gk, hR, rfl, hi, rfl, hj, k⟩ | ⟨C, x, hb, kx⟩ | ⟨z, n, h, gk, hR, hb, kx⟩ | ⟨z, n, h, i, gk, hR, rfl, hi, hb, kx⟩
  · obtain ⟨rfl, hz, rfl, hlo, hn⟩ := id gk
    have hl1 := loK_one z
    obtain ⟨h1, h2⟩ := hR.le (by omega) hn
    keq_hits
    refine ⟨rfl, _, _, rfl, .inl ⟨z, n, gk, fun g hg => .keep ?_⟩⟩
    obtain rfl := hR.uniq hg
    keq_hits
    refine ⟨rfl, _, h, rfl, by omega, .inl ⟨i, rfl, hi, .keep ?_⟩⟩
    keq_hits
    refine ⟨rfl, _, h, rfl, by omega, .inl ⟨j, rfl, hj, .keep ?_⟩⟩
    keq_hits
    refine w_ifd (fun e => ?_) (fun e => ?_)
    · have e' : i = j := by omega
      keq_hits
      have : farK z n i j = some 0 := if_pos e'
      rw [this] at k
      exact k
    have e' : i ≠ j := fun q => e (by omega)
    keq_hits
    rw [abs_mm]
    by_cases hp : z = "pair"
    · rw [decide_eq_true hp]
      keq_hits
      rw [min_mm, max_mm]
      have : farK z n i j = pairFar n (min i j) (max i j) := by unfold farK; rw [if_neg e', if_pos hp]
      rw [this] at k
      exact ⟨rfl, n, min i j, max i j, rfl, hn, by omega, by omega, .keep k⟩
    rw [decide_eq_false hp]
    keq_hits
    by_cases hs : z = "star"
    · rw [decide_eq_true hs]
      keq_hits
      rw [min_mm]
      have : farK z n i j = some (if min i j = 0 then 1 else 2) := by unfold farK; rw [if_neg e', if_neg hp, if_pos hs]
      rw [this] at k
      keq_hits
      refine w_ifd (fun e0 => ?_) (fun e0 => ?_)
      · have e0' : min i j = 0 := by omega
        rw [if_pos e0'] at k
        keq_hits
        exact k
      · have e0' : min i j ≠ 0 := fun q => e0 (by omega)
        rw [if_neg e0'] at k
        keq_hits
        exact k
    rw [decide_eq_false hs]
    keq_hits
    by_cases hr : z = "ring"
    · rw [decide_eq_true hr]
      keq_hits
      have : farK z n i j = some (min (max i j - min i j) (n - (max i j - min i j))) := by unfold farK; rw [if_neg e', if_neg hp, if_neg hs, if_pos hr]
      rw [this] at k
      have hh : h = n := hR.elim (fun q => absurd q.1 hp) fun q => q.2
      have e3 : (if (n : Int) - ((max i j - min i j : Nat) : Int) < ((max i j - min i j : Nat) : Int) then (n : Int) - ((max i j - min i j : Nat) : Int) else ((max i j - min i j : Nat) : Int)) = ((min (max i j - min i j) (n - (max i j - min i j)) : Nat) : Int) := by split <;> omega
      rw [e3]
      exact k
    rw [decide_eq_false hr]
    keq_hits
    have : farK z n i j = some (max i j - min i j) := by unfold farK; rw [if_neg e', if_neg hp, if_neg hs, if_neg hr]
    rw [this] at k
    exact k
  · keq_hits
    exact ⟨rfl, _, _, rfl, .inr ⟨C, x, hb, rfl, kx⟩⟩
  · obtain ⟨rfl, hz, rfl, hlo, hn⟩ := id gk
    have hl1 := loK_one z
    obtain ⟨h1, h2⟩ := hR.le (by omega) hn
    keq_hits
    refine ⟨rfl, _, _, rfl, .inl ⟨z, n, gk, fun g hg => .keep ?_⟩⟩
    obtain rfl := hR.uniq hg
    keq_hits
    exact ⟨rfl, _, h, rfl, by omega, .inr ⟨hb, rfl, kx⟩⟩
  · obtain ⟨rfl, hz, rfl, hlo, hn⟩ := id gk
    have hl1 := loK_one z
    obtain ⟨h1, h2⟩ := hR.le (by omega) hn
    keq_hits
    refine ⟨rfl, _, _, rfl, .inl ⟨z, n, gk, fun g hg => .keep ?_⟩⟩
    obtain rfl := hR.uniq hg
    keq_hits
    refine ⟨rfl, _, h, rfl, by omega, .inl ⟨i, rfl, hi, .keep ?_⟩⟩
    keq_hits
    exact ⟨rfl, _, h, rfl, by omega, .inr ⟨hb, rfl, kx⟩⟩
end

def nmL (i : Nat) : Str := strL [97 + i]
def lettersL (n : Nat) : List Str := (List.range n).map nmL
def kwN (z : Str) (n : Nat) : List Str := if z = "pair" then [nmL 0, nmL 1] else lettersL n
def kwT (z : Str) (n : Nat) : List Tie := if z = "pair" then [(nmL 0, nmL 1, (n : Int))] else
  ((List.range (n - 1)).map fun i => (nmL (if z = "star" then 0 else i), nmL (i + 1), (1 : Int))) ++ (if z = "ring" then [(nmL 0, nmL (n - 1), 1)] else [])
theorem nmL_inj {i j : Nat} (h : nmL i = nmL j) : i = j := by
  have := congrArg (fun x : Str => x.cps.toList) h
  have h2 : [97 + i] = [97 + j] := this
  injection h2 with h3
  omega
theorem lettersL_len (n : Nat) : (lettersL n).length = n := by unfold lettersL; rw [List.length_map, List.length_range]
theorem lettersL_get {n i : Nat} (h : i < n) : (lettersL n)[i]? = some (nmL i) := by unfold lettersL; rw [List.getElem?_map, List.getElem?_range h]; rfl
theorem lettersL_mem {n i : Nat} (h : i < n) : nmL i ∈ lettersL n := List.mem_of_getElem? (lettersL_get h)
theorem lettersL_nd (n : Nat) : (lettersL n).Nodup := nodup_map_on (fun a _ b _ e => nmL_inj e) List.nodup_range
theorem lettersL_ok {n : Nat} (h1 : 1 ≤ n) (h2 : n ≤ 12) : NmOk (lettersL n) := ⟨by rw [lettersL_len]; exact h1, by rw [lettersL_len]; exact h2, fun a ha => by
  obtain ⟨i, hi, rfl⟩ := List.mem_map.mp ha
  have hi := List.mem_range.mp hi
  have hf : ∀ i : Fin 12, nameStr (nmL i.1) = true := by decide +kernel
  exact hf ⟨i, by omega⟩, lettersL_nd n⟩
theorem lettersL_idx {n i : Nat} (h : i < n) : idx (lettersL n) (nmL i) = i := nodup_ix (lettersL_nd n) (idx_get (lettersL_mem h)) (lettersL_get h)
theorem pairN_eq {i j k l : Nat} (h : pairN i j = pairN k l) : min i j = min k l ∧ max i j = max k l := by
  unfold pairN at h
  injection h with h1 h2
  injection h2 with h2 _
  injection h1 with h1
  injection h2 with h2
  omega
theorem kwN_ok {z : Str} {n : Nat} (h1 : 1 ≤ n) (h2 : z = "pair" ∨ n ≤ 12) : NmOk (kwN z n) := by
  unfold kwN
  by_cases hp : z = "pair"
  · rw [if_pos hp]; exact lettersL_ok (n := 2) (by decide) (by decide)
  · rw [if_neg hp]; exact lettersL_ok h1 (h2.resolve_left hp)
theorem kwT_ok {z : Str} {n : Nat} (h1 : loK z ≤ n) (h2 : z = "pair" ∨ n ≤ 12) (h3 : n ≤ 1000) : TiesOk (kwN z n) (kwT z n) := by
  have h0 := loK_one z
  unfold kwN kwT
  by_cases hp : z = "pair"
  · rw [if_pos hp, if_pos hp]
    refine ⟨by show 1 ≤ 40; decide, fun t ht => ?_, by simp⟩
    rw [List.mem_singleton.mp ht]
    exact ⟨List.mem_cons_self, List.mem_cons_of_mem _ List.mem_cons_self, fun e => absurd (nmL_inj e) (by decide), by show (1 : Int) ≤ n; omega, by show (n : Int) ≤ 1000000; omega⟩
  · rw [if_neg hp, if_neg hp]
    have hn := h2.resolve_left hp
    have mem1 : ∀ t ∈ (List.range (n - 1)).map (fun i => (nmL (if z = "star" then 0 else i), nmL (i + 1), (1 : Int))), ∃ i, i + 1 < n ∧ t = (nmL (if z = "star" then 0 else i), nmL (i + 1), (1 : Int)) := fun t ht => by
      obtain ⟨i, hi, rfl⟩ := List.mem_map.mp ht
      have := List.mem_range.mp hi
      exact ⟨i, by omega, rfl⟩
    have hle : ∀ i, (if z = "star" then 0 else i) ≤ i := fun i => by split <;> omega
    have hring : z = "ring" → 3 ≤ n := fun e => by
      have : loK z = 3 := if_pos e
      omega
    refine ⟨?_, fun t ht => ?_, ?_⟩
    · rw [List.length_append, List.length_map, List.length_range]
      have : (if z = "ring" then [(nmL 0, nmL (n - 1), (1 : Int))] else []).length ≤ 1 := by split <;> simp
      omega
    · rcases List.mem_append.mp ht with ht | ht
      · obtain ⟨i, hi, rfl⟩ := mem1 t ht
        have := hle i
        exact ⟨lettersL_mem (by omega), lettersL_mem hi, fun e => by have := nmL_inj e; omega, by show (1 : Int) ≤ 1; decide, by show (1 : Int) ≤ 1000000; decide⟩
      · by_cases hr : z = "ring"
        · rw [if_pos hr] at ht
          have := hring hr
          rw [List.mem_singleton.mp ht]
          exact ⟨lettersL_mem (by omega), lettersL_mem (by omega), fun e => by have := nmL_inj e; omega, by show (1 : Int) ≤ 1; decide, by show (1 : Int) ≤ 1000000; decide⟩
        · rw [if_neg hr] at ht; cases ht
    · rw [List.map_append, List.map_map]
      have hpt : ∀ i, i + 1 < n → (pairT (lettersL n) ∘ fun i => (nmL (if z = "star" then 0 else i), nmL (i + 1), (1 : Int))) i = pairN (if z = "star" then 0 else i) (i + 1) := fun i hi => by
        have := hle i
        show pairN (idx (lettersL n) (nmL _)) (idx (lettersL n) (nmL _)) = _
        rw [lettersL_idx (by omega), lettersL_idx hi]
      refine List.nodup_append.mpr ⟨?_, ?_, ?_⟩
      · refine nodup_map_on (fun a ha b hb e => ?_) List.nodup_range
        have ha := List.mem_range.mp ha
        have hb := List.mem_range.mp hb
        rw [hpt a (by omega), hpt b (by omega)] at e
        have e2 := (pairN_eq e).2
        have := hle a
        have := hle b
        omega
      · split <;> simp
      · intro x hx y hy e
        obtain ⟨i, hi, rfl⟩ := List.mem_map.mp hx
        have hi := List.mem_range.mp hi
        by_cases hr : z = "ring"
        · rw [if_pos hr] at hy
          have h3 := hring hr
          have hs : ¬ z = "star" := fun q => by rw [q] at hr; exact absurd hr (by decide +kernel)
          rw [List.map_cons, List.map_nil, List.mem_singleton] at hy
          rw [hpt i (by omega), hy, if_neg hs] at e
          have e' : pairN i (i + 1) = pairN (idx (lettersL n) (nmL 0)) (idx (lettersL n) (nmL (n - 1))) := e
          rw [lettersL_idx (by omega), lettersL_idx (by omega)] at e'
          have := pairN_eq e'
          omega
        · rw [if_neg hr] at hy; cases hy
theorem cutS_len (z : Str) (l u : Option Int) : (cutS z l u).length ≤ z.length := by
  show (((z.cps.toList.drop _).take _).toArray).size ≤ _
  rw [List.size_toArray, List.length_take, List.length_drop, Array.length_toList]
  show min _ (z.cps.size - _) ≤ z.cps.size
  omega
theorem letters_cut {n : Nat} (h : n ≤ 12) : signD (cutS ("abcdefghijkl" : Str) none (some (n : Int))) = (lettersL n).map D.str := by
  have e : (("abcdefghijkl" : String) : Str) = strL ((List.range 12).map fun i => 97 + i) := str_eqL (by decide +kernel)
  rw [e, cutS_to]
  unfold signD lettersL
  rw [strL_l, ← List.map_take, List.take_range, Nat.min_eq_left h, List.map_map, List.map_map]
  rfl
def sp_kind_web {K : PySem.W.Frag} {mg : Str → Option Value} (T : Tx K mg) : DSp := fun ds M P X => ds.length = 2 ∧ ∃ (z : Str) (n : Nat), ds = [.str z, .int n] ∧ z ∈ kindsL ∧ loK z ≤ n ∧ n ≤ 1000 ∧
  (((z = "pair" ∨ n ≤ 12) ∧ P (webD T.C_Web (kwN z n) (kwT z n)) M) ∨ (z ≠ "pair" ∧ 12 < n ∧ X (.ref T.C_NoNumber) [("found", .int n)] M))
section
variable {P : Program} {w : World} {K : PySem.W.Frag} {mg : Str → Option Value} {base : Heap}
theorem ok_kind_web (T : Tx K mg) : FnOk P w K mg base (L2.CX P w) 6 T.a_kind_web T.fd_kind_web ["word", "many"] (up K (sp_kind_web T)) := by
  refine Fun.okD T.F_kind_web sc_kind_web (fun ds M P X' h => h.1) (fun cdv A outer s H E hr => ?_)
  have hu := hu_of hr
  refine ⟨_, (pss_cons (ps_expr (pe_callS (ok_need_kind T) (hr.mono (by decide)) (by rfl) T.m_need_kind T.F_need_kind.kp T.b_need_kind (fun σ => passAt (takes_of rfl rfl rfl rfl) σ) (pa_cons (pv 0) (pa_cons (pv 1) (pa_cons (pe_globI rfl T.c_MOST_PLACES_kinds) pa_nil)))))
      (pss_cons (ps_if (pt_cmpR op_eq (pv 0) pe_str (nomark _)) (pss_one (ps_ret (pe_make T.M_Web (ok_Web___init__ T) (hr.mono (by decide)) (by rfl) T.m_Web T.b_Web___init__ .nil pass0 (pa_cons (pe_lst (pa_cons pe_str (pa_cons pe_str pa_nil))) (pa_cons (pe_lst (pa_cons (pe_tup (pa_cons pe_str (pa_cons pe_str (pa_cons (pv 1) pa_nil)))) pa_nil)) pa_nil))))) pss_nil)
      (pss_cons (ps_set (i := 2) sc_kind_web.nd rfl (Or.inr rfl) (pe_callTy (call_list_strK rfl) (by rfl) T.z_list (by decide +kernel) (pa_cons (pe_slice sl_str (pe_globS rfl T.c_LETTERS_kinds) po_none (po_some (pv 1))) pa_nil)))
      (pss_cons (ps_setLc (i := 3) (own := [("at", 4)]) rfl sc_kind_web.nd rfl rfl (sw_true rfl rfl rfl (by decide +kernel)) (pi_range2 rfl T.z_range (pa_cons pe_int (pa_cons (pv 1) pa_nil))) (blkOk_by (N := slots_kind_web) (sc := defScope s_kind_web) (by decide +kernel)) (fun _ _ _ _ _ => by exact (pg_name (i := 4) sc_kind_web.nd rfl (Or.inl rfl))) (fun _ _ _ _ _ => pts_nil) (fun _ _ _ _ _ => by exact (pe_tup (pa_cons (pe_ifExp (pt_cmpR op_eq (pv 0) pe_str (nomark _)) (pe_ix (ix_listK (K := K) rfl) (pv 2) pe_int (fun _ _ => rfl)) (pe_ix (ix_listK (K := K) rfl) (pv 2) (pe_op op_sub (pv 4) pe_int) (fun _ _ => rfl))) (pa_cons (pe_ix (ix_listK (K := K) rfl) (pv 2) (pv 4) (fun _ _ => rfl)) (pa_cons pe_int pa_nil))))))
      (pss_cons (ps_if (pt_cmpR op_eq (pv 0) pe_str (nomark _)) (pss_one (ps_expr (pe_bmK (K := K) rfl PySem.F.plainAttrs_list PySem.F.slot_list_append PySem.F.type_list_append mt_append (pv 3) (pa_cons (pe_tup (pa_cons (pe_ix (ix_listK (K := K) rfl) (pv 2) pe_int (fun _ _ => rfl)) (pa_cons (pe_ix (ix_listK (K := K) rfl) (pv 2) (pe_un un_neg pe_int) (fun _ _ => rfl)) (pa_cons pe_int pa_nil)))) pa_nil)))) pss_nil)
      (pss_one (ps_ret (pe_make T.M_Web (ok_Web___init__ T) (hr.mono (by decide)) (by rfl) T.m_Web T.b_Web___init__ .nil pass0 (pa_cons (pv 2) (pa_cons (pv 3) pa_nil)))))))))), fun ds M P X' h => ?_⟩
  obtain ⟨_, z, n, rfl, hz, hlo, hn, h⟩ := h
  have h0 := loK_one z
  refine ds_fz ?_
  refine ds_seq (ds_drop (de_callS ?_))
  keq_hits
  rcases h with ⟨h12, k⟩ | ⟨hp, hgt, kx⟩
  rotate_left
  · exact ⟨rfl, _, _, _, rfl, .inr (.inr ⟨z, n, 12, rfl, hz, rfl, hlo, hn, rfl, hp, by omega, rfl, kx⟩)⟩
  refine ⟨rfl, _, _, _, rfl, .inl ⟨z, n, 12, rfl, hz, rfl, hlo, hn, rfl, h12.imp id fun h => by omega, .keep ?_⟩⟩
  have okN := kwN_ok (z := z) (n := n) (by omega) h12
  have okT := kwT_ok hlo h12 hn
  keq_hits
  by_cases hp : z = "pair"
  · rw [decide_eq_true hp]
    keq_hits
    have eN : kwN z n = [nmL 0, nmL 1] := if_pos hp
    have eT : kwT z n = [(nmL 0, nmL 1, (n : Int))] := if_pos hp
    rw [eN, eT] at okT k
    rw [eN] at okN
    refine de_lstV ?_
    keq_hits
    refine ⟨by show 2 ≤ sizeLine; decide, ?_⟩
    refine da_cons (de_lstV ?_)
    keq_hits
    refine ⟨by show 3 ≤ sizeLine; decide, ?_⟩
    keq_hits
    refine ⟨by show 1 ≤ sizeLine; decide, ?_⟩
    keq_hits
    intro w1
    exact ⟨rfl, w1, _, _, [nmL 0, nmL 1], [(nmL 0, nmL 1, (n : Int))], _, rfl, rfl, .v, okN, .v, okT, rfl, .obj (M1 := []) (.keep (.keep k))⟩
  · have hn12 := h12.resolve_left hp
    have eN : kwN z n = lettersL n := if_neg hp
    have eT : kwT z n = ((List.range (n - 1)).map fun i => (nmL (if z = "star" then 0 else i), nmL (i + 1), (1 : Int))) ++ (if z = "ring" then [(nmL 0, nmL (n - 1), 1)] else []) := if_neg hp
    rw [eN, eT] at okT k
    rw [eN] at okN
    rw [decide_eq_false hp]
    keq_hits
    refine dsl_s (by decide) ?_
    keq_hits
    have h12l : (Str.ofString "abcdefghijkl" : Str).length = 12 := by decide
    refine dc_listS (by rw [show cutS ("abcdefghijkl" : Str) none (some (n : Int)) = cutS ("abcdefghijkl" : Str) none (some (n : Int)) from rfl]; exact Nat.le_trans (cutS_len _ _ _) (by decide)) fun a => ?_
    rw [letters_cut hn12]
    refine dg_name ?_
    refine ds_frz (i := 2) rfl (.lst (M1 := []) (.keep ?_))
    refine ds_seq (ds_asg (de_lcP (own_name (by simp)) (di_rng2 ?_)))
    keq_hits
    refine ⟨1, n, rfl, ⟨by decide, by decide, by omega, by omega⟩, by rw [rngD_len]; exact small5 (by omega), fun _ _ => trivial, (fun d => match d with | .int j => some (tieD (nmL (if z = "star" then 0 else j.toNat - 1), nmL j.toNat, 1)) | _ => none), ?_, fun b => ?_⟩
    · rintro i x m' hx -
      obtain ⟨hi, rfl⟩ := rngD_get hx
      have hi' : i + 1 < n := by omega
      have ej : (1 : Int) + (i : Nat) = ((i + 1 : Nat) : Int) := by omega
      have ix1 : atI ((lettersL n).map D.str) ((i + 1 : Nat) : Int) = some (.str (nmL (i + 1))) := atI_nat' (by rw [List.getElem?_map, lettersL_get hi']; rfl)
      rw [ej]
      keq_hits
      by_cases hs : z = "star"
      · rw [decide_eq_true hs]
        keq_hits
        refine dop_ixL (d := .str (nmL 0)) .v (atI_nat' (n := 0) (by rw [List.getElem?_map, lettersL_get (by omega)]; rfl)) ?_
        keq_hits
        refine dop_ixL .v ix1 ?_
        keq_hits
        refine ⟨by show 3 ≤ sizeLine; decide, .keep ⟨rfl, ?_⟩⟩
        show some (tieD (nmL (if z = "star" then 0 else _), nmL ((i + 1 : Nat) : Int).toNat, 1)) = _
        rw [if_pos hs, Int.toNat_natCast]; rfl
      · rw [decide_eq_false hs]
        keq_hits
        rw [show ((i + 1 : Nat) : Int) - 1 = ((i : Nat) : Int) by omega]
        refine dop_ixL (d := .str (nmL i)) .v (atI_nat' (by rw [List.getElem?_map, lettersL_get (by omega)]; rfl)) ?_
        keq_hits
        refine dop_ixL .v ix1 ?_
        keq_hits
        refine ⟨by show 3 ≤ sizeLine; decide, .keep ⟨rfl, ?_⟩⟩
        show some (tieD (nmL (if z = "star" then 0 else ((i + 1 : Nat) : Int).toNat - 1), nmL ((i + 1 : Nat) : Int).toNat, 1)) = _
        rw [if_neg hs, Int.toNat_natCast]; rfl
    have e1 : (rngD 1 ((n : Int) - 1).toNat).filterMap (fun d => match d with | .int j => some (tieD (nmL (if z = "star" then 0 else j.toNat - 1), nmL j.toNat, 1)) | _ => none) = ((List.range (n - 1)).map fun i => (nmL (if z = "star" then 0 else i), nmL (i + 1), (1 : Int))).map tieD := by
      rw [show ((n : Int) - 1).toNat = n - 1 by omega]
      unfold rngD
      rw [List.filterMap_map, List.map_map, ← List.filterMap_eq_map]
      refine fm_congrD fun l _ => ?_
      show some (tieD (nmL (if z = "star" then 0 else ((1 : Int) + (l : Nat)).toNat - 1), nmL ((1 : Int) + (l : Nat)).toNat, 1)) = some (tieD (nmL (if z = "star" then 0 else l), nmL (l + 1), 1))
      rw [show ((1 : Int) + (l : Nat)).toNat = l + 1 by omega]
      rfl
    rw [e1]
    keq_hits
    by_cases hr : z = "ring"
    · have h3 : 3 ≤ n := by have : loK z = 3 := if_pos hr; omega
      rw [decide_eq_true hr]
      rw [if_pos hr] at okT k
      keq_hits
      refine ⟨.inl ⟨rfl, _, .l List.mem_cons_self⟩, ?_⟩
      keq_hits
      refine dop_ixL (d := .str (nmL 0)) .v (atI_nat' (n := 0) (by rw [List.getElem?_map, lettersL_get (by omega)]; rfl)) ?_
      keq_hits
      refine dop_ixL (d := .str (nmL (n - 1))) .v (atI_last (by rw [List.length_map, lettersL_len, List.getElem?_map, lettersL_get (by omega)]; rfl)) ?_
      keq_hits
      refine ⟨by show 3 ≤ sizeLine; decide, ?_⟩
      keq_hits
      refine dm_append (M1 := []) (by rw [List.length_map, List.length_map, List.length_range]; exact small5 (by omega)) ?_
      keq_hits
      intro w1
      refine ⟨rfl, w1, _, _, lettersL n, _, _, rfl, rfl, .v, okN, .l (List.mem_cons_of_mem _ (by rw [List.map_append]; exact List.mem_cons_self)), okT, rfl, .obj (M1 := []) (.keep (.drop (List.sublist_cons_self _ _) (.keep k)))⟩
    · rw [decide_eq_false hr]
      rw [if_neg hr, List.append_nil] at okT k
      keq_hits
      intro w1
      exact ⟨rfl, w1, _, _, lettersL n, _, _, rfl, rfl, .v, okN, .l (List.mem_cons_of_mem _ List.mem_cons_self), okT, rfl, .obj (M1 := []) (.keep (.drop (List.sublist_cons_self _ _) (.keep k)))⟩
end

/-! ### how far in the webs of the kinds: plain -/
theorem inj_nodup {α β : Type} {f : α → β} : ∀ {l : List α}, (l.map f).Nodup → ∀ {a b : α}, a ∈ l → b ∈ l → f a = f b → a = b
  | [], _, _, _, h, _, _ => by cases h
  | x :: l, h, a, b, ha, hb, e => by
    rw [List.map_cons, List.nodup_cons] at h
    rcases List.mem_cons.mp ha with ea | ha'
    · rcases List.mem_cons.mp hb with eb | hb'
      · rw [ea, eb]
      · refine absurd ?_ h.1
        rw [← ea, e]; exact List.mem_map_of_mem hb'
    · rcases List.mem_cons.mp hb with eb | hb'
      · refine absurd ?_ h.1
        rw [← eb, ← e]; exact List.mem_map_of_mem ha'
      · exact inj_nodup h.2 ha' hb' e
section
variable {ns : List Str} {ts : List Tie}
theorem tlen_of (ok : TiesOk ns ts) {t : Tie} (ht : t ∈ ts) : tlen ns ts t.1 t.2.1 = some t.2.2 := by
  unfold tlen
  cases hf : ts.find? (fun u => decide (pairT ns u = pairN (idx ns t.1) (idx ns t.2.1))) with
  | none => exact absurd (decide_eq_true (show pairT ns t = _ from rfl)) (by have := List.find?_eq_none.mp hf t ht; exact this)
  | some u =>
    have eu : pairT ns u = pairT ns t := of_decide_eq_true (List.find?_some hf :)
    rw [inj_nodup ok.nd (List.mem_of_find?_eq_some hf) ht eu]
    rfl
/-- a number for each place, that no tie changes by more than its length, and that some tie makes less by just this, is how far -/
theorem dist_by (okn : ns.Nodup) (ok : TiesOk ns ts) (F : Nat → Nat) {a : Str} (ha : a ∈ ns) (h0 : F (idx ns a) = 0) (h1 : ∀ t ∈ ts, (F (idx ns t.2.1) : Int) ≤ F (idx ns t.1) + t.2.2 ∧ (F (idx ns t.1) : Int) ≤ F (idx ns t.2.1) + t.2.2)
    (h2 : ∀ v ∈ ns, v ≠ a → ∃ t ∈ ts, (t.2.1 = v ∧ (F (idx ns t.1) : Int) + t.2.2 = F (idx ns v)) ∨ (t.1 = v ∧ (F (idx ns t.2.1) : Int) + t.2.2 = F (idx ns v))) {b : Str} (hb : b ∈ ns) : dist ns ts a b = some ((F (idx ns b) : Nat) : Int) := by
  refine dist_of ?_
  show Way ns ts a b _ ∧ ∀ L, Way ns ts a b L → _ ≤ L
  constructor
  · have : ∀ (n : Nat) (b : Str), b ∈ ns → F (idx ns b) = n → Way ns ts a b ((n : Nat) : Int) := fun n => by
      induction n using Nat.strongRecOn with
      | _ n ih =>
        intro b hb hn
        by_cases e : b = a
        · subst e
          rw [h0] at hn
          subst hn
          exact .nil b
        · obtain ⟨t, ht, h⟩ := h2 b hb e
          have hm := ok.mem t ht
          have hl := hm.2.2.2.1
          rcases h with ⟨e1, e2⟩ | ⟨e1, e2⟩
          · have hlt : F (idx ns t.1) < n := by rw [hn] at e2; omega
            have w := ih _ hlt t.1 hm.1 rfl
            have tl := tlen_of ok ht
            rw [e1] at tl
            rw [hn] at e2
            rw [← e2]
            exact .snoc w tl hb
          · have hlt : F (idx ns t.2.1) < n := by rw [hn] at e2; omega
            have w := ih _ hlt t.2.1 hm.2.1 rfl
            have tl := tlen_of ok ht
            rw [tlen_comm, e1] at tl
            rw [hn] at e2
            rw [← e2]
            exact .snoc w tl hb
    exact this _ b hb rfl
  · intro L w
    induction w with
    | nil => rw [h0]; exact Int.le_refl _
    | @snoc b c L l w1 hl hc ih =>
      have ih := ih (w1.mem ha)
      obtain ⟨t, ht, e1, e2⟩ := tlen_mem hl
      obtain ⟨m1, m2⟩ := h1 t ht
      rcases pairN_inj (show pairN (idx ns t.1) (idx ns t.2.1) = pairN (idx ns b) (idx ns c) from e1) with ⟨a1, a2⟩ | ⟨a1, a2⟩
      · rw [a1, a2, e2] at m1; omega
      · rw [a1, a2, e2] at m2; omega
end
/-- the kinds with one step a tie -/
def stepK (z : Str) (n i j : Nat) : Nat := if i = j then 0 else if z = "star" then (if min i j = 0 then 1 else 2) else if z = "ring" then min (max i j - min i j) (n - (max i j - min i j)) else max i j - min i j
theorem farK_step {z : Str} (hp : z ≠ "pair") (n i j : Nat) : farK z n i j = some (stepK z n i j) := by
  unfold farK stepK
  by_cases h : i = j
  · rw [if_pos h, if_pos h]
  · rw [if_neg h, if_neg h, if_neg hp]
    by_cases hs : z = "star"
    · rw [if_pos hs, if_pos hs]
    · rw [if_neg hs, if_neg hs]
      by_cases hr : z = "ring"
      · rw [if_pos hr, if_pos hr]
      · rw [if_neg hr, if_neg hr]
theorem kw_dist {z : Str} {n i j : Nat} (hlo : loK z ≤ n) (hn : n ≤ 12) (hp : z ≠ "pair") (hi : i < n) (hj : j < n) : dist (lettersL n) (kwT z n) (nmL i) (nmL j) = some ((stepK z n i j : Nat) : Int) := by
  have h0 := loK_one z
  have ok := kwT_ok (z := z) hlo (.inr hn) (by omega)
  have eN : kwN z n = lettersL n := if_neg hp
  rw [eN] at ok
  have eT : kwT z n = ((List.range (n - 1)).map fun i => (nmL (if z = "star" then 0 else i), nmL (i + 1), (1 : Int))) ++ (if z = "ring" then [(nmL 0, nmL (n - 1), 1)] else []) := if_neg hp
  have hmem : ∀ p, p + 1 < n → (nmL (if z = "star" then 0 else p), nmL (p + 1), (1 : Int)) ∈ kwT z n := fun p h => by
    rw [eT]
    exact List.mem_append_left _ (List.mem_map.mpr ⟨p, List.mem_range.mpr (by omega), rfl⟩)
  have hring : z = "ring" → 3 ≤ n ∧ (nmL 0, nmL (n - 1), (1 : Int)) ∈ kwT z n := fun e => by
    have : loK z = 3 := if_pos e
    refine ⟨by omega, ?_⟩
    rw [eT, if_pos e]
    exact List.mem_append_right _ List.mem_cons_self
  have hcase : ∀ t ∈ kwT z n, (∃ p, p + 1 < n ∧ t = (nmL (if z = "star" then 0 else p), nmL (p + 1), (1 : Int))) ∨ (z = "ring" ∧ t = (nmL 0, nmL (n - 1), (1 : Int))) := fun t ht => by
    rw [eT] at ht
    rcases List.mem_append.mp ht with ht | ht
    · obtain ⟨p, hp, rfl⟩ := List.mem_map.mp ht
      have := List.mem_range.mp hp
      exact .inl ⟨p, by omega, rfl⟩
    · by_cases hr : z = "ring"
      · rw [if_pos hr] at ht
        exact .inr ⟨hr, List.mem_singleton.mp ht⟩
      · rw [if_neg hr] at ht; cases ht
  have hix := fun {p : Nat} (h : p < n) => lettersL_idx h
  have key := dist_by (ns := lettersL n) (ts := kwT z n) (lettersL_nd n) ok (fun v => stepK z n i v) (a := nmL i) (lettersL_mem hi) (by rw [hix hi]; exact if_pos rfl) (fun t ht => ?_) (fun v hv hne => ?_) (lettersL_mem hj)
  · rw [hix hj] at key; exact key
  · rcases hcase t ht with ⟨p, hp1, rfl⟩ | ⟨hr, rfl⟩
    · by_cases hs : z = "star"
      · simp only [if_pos hs]
        rw [hix hp1, hix (show 0 < n by omega)]
        simp only [stepK, if_pos hs]
        constructor <;> (repeat' split) <;> omega
      · simp only [if_neg hs]
        rw [hix hp1, hix (show p < n by omega)]
        by_cases hr : z = "ring"
        · simp only [stepK, if_neg hs, if_pos hr]
          constructor <;> (repeat' split) <;> omega
        · simp only [stepK, if_neg hs, if_neg hr]
          constructor <;> (repeat' split) <;> omega
    · have hs : ¬ z = "star" := fun q => by rw [q] at hr; exact absurd hr (by decide +kernel)
      obtain ⟨h3, _⟩ := hring hr
      show ((stepK z n i (idx (lettersL n) (nmL (n - 1))) : Nat) : Int) ≤ stepK z n i (idx (lettersL n) (nmL 0)) + 1 ∧ ((stepK z n i (idx (lettersL n) (nmL 0)) : Nat) : Int) ≤ stepK z n i (idx (lettersL n) (nmL (n - 1))) + 1
      rw [hix (show n - 1 < n by omega), hix (show 0 < n by omega)]
      simp only [stepK, if_neg hs, if_pos hr]
      constructor <;> (repeat' split) <;> omega
  · obtain ⟨v, hv2, rfl⟩ := List.mem_map.mp hv
    have hv := List.mem_range.mp hv2
    have hne' : v ≠ i := fun e => hne (by rw [e])
    by_cases hs : z = "star"
    · by_cases hv0 : v = 0
      · subst hv0
        obtain ⟨p, rfl⟩ : ∃ p, i = p + 1 := ⟨i - 1, by omega⟩
        refine ⟨_, hmem p hi, .inr ⟨by show nmL (if z = "star" then 0 else p) = nmL 0; rw [if_pos hs], ?_⟩⟩
        show ((stepK z n (p + 1) (idx (lettersL n) (nmL (p + 1))) : Nat) : Int) + 1 = stepK z n (p + 1) (idx (lettersL n) (nmL 0))
        rw [hix hi, hix hv]
        have e1 : stepK z n (p + 1) (p + 1) = 0 := if_pos rfl
        have e2 : stepK z n (p + 1) 0 = 1 := by unfold stepK; rw [if_neg (by omega), if_pos hs, if_pos (by omega)]
        rw [e1, e2]; rfl
      · obtain ⟨p, rfl⟩ : ∃ p, v = p + 1 := ⟨v - 1, by omega⟩
        refine ⟨_, hmem p hv, .inl ⟨rfl, ?_⟩⟩
        show ((stepK z n i (idx (lettersL n) (nmL (if z = "star" then 0 else p))) : Nat) : Int) + 1 = stepK z n i (idx (lettersL n) (nmL (p + 1)))
        rw [if_pos hs, hix hv, hix (show 0 < n by omega)]
        simp only [stepK, if_pos hs]
        (repeat' split) <;> omega
    · have low : ∀ p, v = p + 1 → ((stepK z n i p : Nat) : Int) + 1 = stepK z n i v → ∃ t ∈ kwT z n, (t.2.1 = nmL v ∧ ((stepK z n i (idx (lettersL n) t.1) : Nat) : Int) + t.2.2 = stepK z n i (idx (lettersL n) (nmL v))) ∨ (t.1 = nmL v ∧ ((stepK z n i (idx (lettersL n) t.2.1) : Nat) : Int) + t.2.2 = stepK z n i (idx (lettersL n) (nmL v))) := fun p e h => by
        subst e
        refine ⟨_, hmem p hv, .inl ⟨rfl, ?_⟩⟩
        show ((stepK z n i (idx (lettersL n) (nmL (if z = "star" then 0 else p))) : Nat) : Int) + 1 = stepK z n i (idx (lettersL n) (nmL (p + 1)))
        rw [if_neg hs, hix hv, hix (show p < n by omega)]
        exact h
      have high : v + 1 < n → ((stepK z n i (v + 1) : Nat) : Int) + 1 = stepK z n i v → ∃ t ∈ kwT z n, (t.2.1 = nmL v ∧ ((stepK z n i (idx (lettersL n) t.1) : Nat) : Int) + t.2.2 = stepK z n i (idx (lettersL n) (nmL v))) ∨ (t.1 = nmL v ∧ ((stepK z n i (idx (lettersL n) t.2.1) : Nat) : Int) + t.2.2 = stepK z n i (idx (lettersL n) (nmL v))) := fun e h => by
        refine ⟨_, hmem v e, .inr ⟨by show nmL (if z = "star" then 0 else v) = nmL v; rw [if_neg hs], ?_⟩⟩
        show ((stepK z n i (idx (lettersL n) (nmL (v + 1))) : Nat) : Int) + 1 = stepK z n i (idx (lettersL n) (nmL v))
        rw [hix e, hix hv]
        exact h
      by_cases hr : z = "ring"
      · obtain ⟨h3, hm⟩ := hring hr
        have up : v = 0 → ((stepK z n i (n - 1) : Nat) : Int) + 1 = stepK z n i v → ∃ t ∈ kwT z n, (t.2.1 = nmL v ∧ ((stepK z n i (idx (lettersL n) t.1) : Nat) : Int) + t.2.2 = stepK z n i (idx (lettersL n) (nmL v))) ∨ (t.1 = nmL v ∧ ((stepK z n i (idx (lettersL n) t.2.1) : Nat) : Int) + t.2.2 = stepK z n i (idx (lettersL n) (nmL v))) := fun e h => by
          refine ⟨_, hm, .inr ⟨by rw [e], ?_⟩⟩
          show ((stepK z n i (idx (lettersL n) (nmL (n - 1))) : Nat) : Int) + 1 = stepK z n i (idx (lettersL n) (nmL v))
          rw [hix (show n - 1 < n by omega), hix hv]
          exact h
        have down : v = n - 1 → ((stepK z n i 0 : Nat) : Int) + 1 = stepK z n i v → ∃ t ∈ kwT z n, (t.2.1 = nmL v ∧ ((stepK z n i (idx (lettersL n) t.1) : Nat) : Int) + t.2.2 = stepK z n i (idx (lettersL n) (nmL v))) ∨ (t.1 = nmL v ∧ ((stepK z n i (idx (lettersL n) t.2.1) : Nat) : Int) + t.2.2 = stepK z n i (idx (lettersL n) (nmL v))) := fun e h => by
          refine ⟨_, hm, .inl ⟨by rw [e], ?_⟩⟩
          show ((stepK z n i (idx (lettersL n) (nmL 0)) : Nat) : Int) + 1 = stepK z n i (idx (lettersL n) (nmL v))
          rw [hix (show 0 < n by omega), hix hv]
          exact h
        have val : ∀ u, stepK z n i u = if i = u then 0 else min (max i u - min i u) (n - (max i u - min i u)) := fun u => by simp only [stepK, if_neg hs, if_pos hr]
        rcases Nat.lt_or_gt_of_ne hne' with hlt | hgt
        · by_cases hd : i - v ≤ n - (i - v)
          · refine high (by omega) ?_
            rw [val, val]
            (repeat' split) <;> omega
          · by_cases hv0 : v = 0
            · refine up hv0 ?_
              rw [val, val]
              (repeat' split) <;> omega
            · refine low (v - 1) (by omega) ?_
              rw [val, val]
              (repeat' split) <;> omega
        · by_cases hd : v - i ≤ n - (v - i)
          · refine low (v - 1) (by omega) ?_
            rw [val, val]
            (repeat' split) <;> omega
          · by_cases hv0 : v = n - 1
            · refine down hv0 ?_
              rw [val, val]
              (repeat' split) <;> omega
            · refine high (by omega) ?_
              rw [val, val]
              (repeat' split) <;> omega
      · have val : ∀ u, stepK z n i u = if i = u then 0 else max i u - min i u := fun u => by simp only [stepK, if_neg hs, if_neg hr]
        rcases Nat.lt_or_gt_of_ne hne' with hlt | hgt
        · refine high (by omega) ?_
          rw [val, val]
          (repeat' split) <;> omega
        · refine low (v - 1) (by omega) ?_
          rw [val, val]
          (repeat' split) <;> omega
theorem pair_dist {n i j : Nat} (h1 : 1 ≤ n) (hn : n ≤ 1000) (hi : i < 2) (hj : j < 2) : dist [nmL 0, nmL 1] [(nmL 0, nmL 1, (n : Int))] (nmL i) (nmL j) = some ((n * (if i = j then 0 else 1) : Nat) : Int) := by
  have e2 : ([nmL 0, nmL 1] : List Str) = lettersL 2 := rfl
  have ok : TiesOk (lettersL 2) [(nmL 0, nmL 1, (n : Int))] := by
    have hk : loK "pair" ≤ (n : Int) := by rw [show loK "pair" = 1 from by decide +kernel]; omega
    have := kwT_ok (z := "pair") (n := n) hk (.inl rfl) hn
    exact this
  rw [e2]
  have hix := fun {p : Nat} (h : p < 2) => lettersL_idx h
  have key := dist_by (ns := lettersL 2) (ts := [(nmL 0, nmL 1, (n : Int))]) (lettersL_nd 2) ok (fun v => n * (if i = v then 0 else 1)) (a := nmL i) (lettersL_mem hi) (by rw [hix hi]; simp) (fun t ht => ?_) (fun v hv hne => ?_) (lettersL_mem hj)
  · rw [hix hj] at key; exact key
  · rw [List.mem_singleton.mp ht]
    show ((n * (if i = idx (lettersL 2) (nmL 1) then 0 else 1) : Nat) : Int) ≤ ((n * (if i = idx (lettersL 2) (nmL 0) then 0 else 1) : Nat) : Int) + n ∧ ((n * (if i = idx (lettersL 2) (nmL 0) then 0 else 1) : Nat) : Int) ≤ ((n * (if i = idx (lettersL 2) (nmL 1) then 0 else 1) : Nat) : Int) + n
    rw [hix (show 1 < 2 by decide), hix (show 0 < 2 by decide)]
    have : i = 0 ∨ i = 1 := by omega
    rcases this with rfl | rfl <;> simp <;> omega
  · obtain ⟨v, hv2, rfl⟩ := List.mem_map.mp hv
    have hv := List.mem_range.mp hv2
    have hne' : v ≠ i := fun e => hne (by rw [e])
    refine ⟨_, List.mem_cons_self, ?_⟩
    show (nmL 1 = nmL v ∧ ((n * (if i = idx (lettersL 2) (nmL 0) then 0 else 1) : Nat) : Int) + n = ((n * (if i = idx (lettersL 2) (nmL v) then 0 else 1) : Nat) : Int)) ∨ (nmL 0 = nmL v ∧ ((n * (if i = idx (lettersL 2) (nmL 1) then 0 else 1) : Nat) : Int) + n = ((n * (if i = idx (lettersL 2) (nmL v) then 0 else 1) : Nat) : Int))
    rw [hix (show 1 < 2 by decide), hix (show 0 < 2 by decide), hix hv]
    have h3 : (i = 0 ∧ v = 1) ∨ (i = 1 ∧ v = 0) := by omega
    rcases h3 with ⟨rfl, rfl⟩ | ⟨rfl, rfl⟩
    · exact .inl ⟨rfl, by simp⟩
    · exact .inr ⟨rfl, by simp⟩

theorem dop_ixC {K : PySem.W.Frag} {M : MS} {P : D → MS → Prop} {ns : List Int} {i : Int} {c : Int} (e : atI ns i = some c) (k : P (.int c) M) : DOp K (rIxL K) (.scr ns) (.int i) M P := fun F H v1 v2 Q hr a1 a2 q => by
  cases a1 with
  | scr h =>
    refine ⟨_, _, i, .int c, rfl, a2.int_inv, hr.s.seq h, ?_, q.now hr (.int c) k⟩
    unfold atI at e ⊢
    rw [List.length_map]
    cases hi : ixN ns.length i with
    | none => rw [hi] at e; cases e
    | some j =>
      rw [hi] at e
      have e' : ns[j]? = some c := e
      show (ns.map V.int)[j]? = _
      rw [List.getElem?_map, e']; rfl
def sp_w_cell {K : PySem.W.Frag} {mg : Str → Option Value} (_ : Tx K mg) : DSp := fun ds M P _ => ds.length = 2 ∧ ∃ ns k, ds = [.scr ns, .int k] ∧ 0 ≤ k ∧ k ≤ 1000000 ∧ ∀ c, P (.int c) M
section
variable {P : Program} {w : World} {K : PySem.W.Frag} {mg : Str → Option Value} {base : Heap}
theorem ok_w_cell (T : Tx K mg) : FnOk P w K mg base CX0 1 T.a_w_cell T.fd_w_cell ["_law_script", "_law_k"] (up K (sp_w_cell T)) := by
  refine Fun.okD0 T.F_w_cell sc_w_cell (fun ds M P X' h => h.1) (fun cdv A outer s H E hr => ?_)
  have hu := hu_of hr
  refine ⟨_, (pss_cons (ps_if (pt_cmpR op_lt (pv 1) (pe_callB (call_len_seqK (K := K) rfl) (by rfl) T.z_len (by decide +kernel) (pa_cons (pv 0) pa_nil)) (nomark _)) (pss_one (ps_ret (pe_ix (ix_listK (K := K) rfl) (pv 0) (pv 1) (fun _ _ => rfl)))) pss_nil)
      (pss_one (ps_ret (pe_op op_add (pe_op op_mul pe_int (pv 1)) pe_int)))), fun ds M P X' h => ?_⟩
  obtain ⟨_, ns, i, rfl, h0, h1, k⟩ := h
  keq_hits
  refine dc_lenC ?_
  keq_hits
  refine w_ifd (fun e => ?_) (fun e => ?_)
  · keq_hits
    obtain ⟨j, rfl⟩ := Int.eq_ofNat_of_zero_le h0
    have hj : j < ns.length := by omega
    exact dop_ixC (c := ns[j]) (atI_nat' (List.getElem?_eq_getElem hj)) (k _)
  · keq_hits
    refine dop_rI (.inl ⟨by decide, by decide⟩) ?_
    keq_hits
    exact k _
end

def BoxO (n : Nat) (o : MO) : Prop := ∃ x y z : Int, o = .lst [.int x, .int y, .int z] ∧ 0 ≤ x ∧ 0 ≤ y ∧ y < 2147483648 ∧ 0 ≤ z ∧ z ≤ (n : Int)
theorem BoxO.le {n m : Nat} {o : MO} (h : BoxO n o) (q : n ≤ m) : BoxO m o := by
  obtain ⟨x, y, z, e, h1, h2, h3, h4, h5⟩ := h
  exact ⟨x, y, z, e, h1, h2, h3, h4, by omega⟩
def sp_w_box {K : PySem.W.Frag} {mg : Str → Option Value} (_ : Tx K mg) : DSp := fun ds M P _ => ds.length = 1 ∧ ∃ c, ds = [.int c] ∧ ∀ b o, BoxO 0 o → P (.loc b) ((b, o) :: M)
section
variable {P : Program} {w : World} {K : PySem.W.Frag} {mg : Str → Option Value} {base : Heap}
theorem ok_w_box (T : Tx K mg) : FnOk P w K mg base CX0 1 T.a_w_box T.fd_w_box ["_law_cell_here"] (up K (sp_w_box T)) := by
  refine Fun.okD0 T.F_w_box sc_w_box (fun ds M P X' h => h.1) (fun cdv A outer s H E hr => ?_)
  have hu := hu_of hr
  refine ⟨_, (pss_one (ps_ret (pe_lst (pa_cons (pe_callB (call_max2 rfl) (by rfl) T.z_max (by decide +kernel) (pa_cons pe_int (pa_cons (pe_op op_sub (pv 0) (pe_op op_pow pe_int pe_int)) pa_nil))) (pa_cons (pe_op op_mod (pv 0) pe_int) (pa_cons pe_int pa_nil)))))), fun ds M P X' h => ?_⟩
  obtain ⟨_, c, rfl, k⟩ := h
  keq_hits
  refine de_lst ?_
  keq_hits
  refine dop_rI ⟨by decide, by decide, by decide⟩ ?_
  keq_hits
  refine dop_rI (by decide) ?_
  keq_hits
  refine ⟨by show 3 ≤ sizeLine; decide, fun b => k b _ ⟨_, _, _, rfl, ?_, ?_, ?_, by decide, by decide⟩⟩
  · split <;> omega
  · omega
  · omega
end

def sp_w_take {K : PySem.W.Frag} {mg : Str → Option Value} (_ : Tx K mg) : DSp := fun ds M P _ => ds.length = 2 ∧ ∃ b m M1 M2 o n, ds = [.loc b, .int m] ∧ M = M1 ++ (b, o) :: M2 ∧ BoxO n o ∧ n ≤ 1000000 ∧ 1 ≤ m ∧ m < 1073741824 ∧
  ∀ r o', 0 ≤ r → r < m → BoxO (n + 1) o' → P (.int r) (M1 ++ (b, o') :: M2)
theorem take_i {K : PySem.W.Frag} {mg : Str → Option Value} {T : Tx K mg} {M1 M2 : MS} {b : Addr} {o : MO} {n : Nat} {m : Int} {P : D → MS → Prop} {X : Value → List (Str × D) → MS → Prop} (hb : BoxO n o) (hn : n ≤ 1000000) (h1 : 1 ≤ m) (h2 : m < 1073741824)
    (k : ∀ r o', 0 ≤ r → r < m → BoxO (n + 1) o' → P (.int r) (M1 ++ (b, o') :: M2)) : sp_w_take T [.loc b, .int m] (M1 ++ (b, o) :: M2) (Fz P) X := ⟨rfl, b, m, M1, M2, o, n, rfl, rfl, hb, hn, h1, h2, fun r o' a b c => .keep (k r o' a b c)⟩
theorem mem_mid {α : Type} {x : α} {l m : List α} : x ∈ l ++ x :: m := List.mem_append_right _ List.mem_cons_self
section
variable {P : Program} {w : World} {K : PySem.W.Frag} {mg : Str → Option Value} {base : Heap}
theorem ok_w_take (T : Tx K mg) : FnOk P w K mg base CX0 1 T.a_w_take T.fd_w_take ["_law_box_here", "_law_many_here"] (up K (sp_w_take T)) := by
  refine Fun.okD0 T.F_w_take sc_w_take (fun ds M P X' h => h.1) (fun cdv A outer s H E hr => ?_)
  have hu := hu_of hr
  refine ⟨_, (pss_cons (ps_if (pt_cmpR op_gt (pe_ix (ix_listK (K := K) rfl) (pv 0) pe_int (fun _ _ => rfl)) pe_int (nomark _)) (pss_cons (ps_set (i := 4) sc_w_take.nd rfl (Or.inl rfl) (pe_op op_mod (pe_ix (ix_listK (K := K) rfl) (pv 0) pe_int (fun _ _ => rfl)) (pv 1)))
      (pss_cons (ps_asg (pe_op op_fdiv (pe_ix (ix_listK (K := K) rfl) (pv 0) pe_int (fun _ _ => rfl)) (pv 1)) (pg_sub (pv 0) pe_int set_list))
      (pss_one (ps_ret (pv 4))))) pss_nil)
      (pss_cons (ps_asg (pe_op op_add (pe_ix (ix_listK (K := K) rfl) (pv 0) pe_int (fun _ _ => rfl)) pe_int) (pg_sub (pv 0) pe_int set_list))
      (pss_cons (ps_set (i := 2) sc_w_take.nd rfl (Or.inl rfl) (pe_op op_mod (pe_op op_mul (pe_op op_add (pe_ix (ix_listK (K := K) rfl) (pv 0) pe_int (fun _ _ => rfl)) pe_int) (pe_op op_add (pe_op op_mul pe_int (pe_ix (ix_listK (K := K) rfl) (pv 0) pe_int (fun _ _ => rfl))) pe_int)) pe_int))
      (pss_cons (ps_set (i := 3) sc_w_take.nd rfl (Or.inl rfl) (pe_op op_mod (pe_op op_pow (pv 2) pe_int) pe_int))
      (pss_cons (ps_set (i := 3) sc_w_take.nd rfl (Or.inl rfl) (pe_op op_mod (pe_op op_mul (pe_op op_add (pv 3) (pe_op op_mul pe_int (pe_ix (ix_listK (K := K) rfl) (pv 0) pe_int (fun _ _ => rfl)))) (pe_op op_add (pv 3) pe_int)) pe_int))
      (pss_one (ps_ret (pe_op op_mod (pe_op op_fdiv (pv 3) pe_int) (pv 1))))))))), fun ds M P X' h => ?_⟩
  obtain ⟨_, b, m, M1, M2, o, n, rfl, rfl, ⟨x, y, z, rfl, hx, hy0, hy, hz0, hz⟩, hn, h1, h2, k⟩ := h
  keq_hits
  refine dop_ixL (d := .int x) (.l mem_mid) rfl ?_
  keq_hits
  refine w_ifd (fun e => ?_) (fun e => ?_)
  · keq_hits
    refine dop_ixL (d := .int x) (.l mem_mid) rfl ?_
    keq_hits
    refine dop_rI (show (0 : Int) < m by omega) ?_
    keq_hits
    refine dop_ixL (d := .int x) (.l mem_mid) rfl ?_
    keq_hits
    refine dop_rI ⟨by omega, by omega⟩ ?_
    refine dg_sub ?_
    keq_hits
    refine ⟨b, _, 0, 0, M1, M2, rfl, rfl, rfl, rfl, ?_⟩
    keq_hits
    refine k _ _ (Int.emod_nonneg _ (by omega)) (Int.emod_lt_of_pos _ (by omega)) ⟨_, _, _, rfl, Int.ediv_nonneg hx (by omega), hy0, hy, hz0, by omega⟩
  · keq_hits
    refine dop_ixL (d := .int z) (.l mem_mid) rfl ?_
    keq_hits
    refine dg_sub ?_
    keq_hits
    refine ⟨b, _, 2, 2, M1, M2, rfl, rfl, rfl, rfl, ?_⟩
    keq_hits
    refine dop_ixL (d := .int y) (.l mem_mid) rfl ?_
    keq_hits
    refine dop_ixL (d := .int (z + 1)) (.l mem_mid) rfl ?_
    refine dop_rI (.inl ⟨by decide, by decide⟩) ?_
    keq_hits
    refine dop_rI (.inl ⟨by omega, by omega⟩) ?_
    keq_hits
    refine dop_rI (by decide) ?_
    keq_hits
    have s0 : 0 ≤ (y + 11) * (2 * (z + 1) + 5) % 2147483647 := Int.emod_nonneg _ (by decide)
    have s1 : (y + 11) * (2 * (z + 1) + 5) % 2147483647 < 2147483647 := Int.emod_lt_of_pos _ (by decide)
    generalize (y + 11) * (2 * (z + 1) + 5) % 2147483647 = s at s0 s1 ⊢
    refine dop_rI ⟨by decide, by decide, by omega⟩ ?_
    keq_hits
    refine dop_rI (by decide) ?_
    keq_hits
    have t0 : 0 ≤ s ^ (5 : Int).toNat % 2147483629 := Int.emod_nonneg _ (by decide)
    have t1 : s ^ (5 : Int).toNat % 2147483629 < 2147483629 := Int.emod_lt_of_pos _ (by decide)
    generalize s ^ (5 : Int).toNat % 2147483629 = t at t0 t1 ⊢
    refine dop_ixL (d := .int (z + 1)) (.l mem_mid) rfl ?_
    refine dop_rI (.inl ⟨by decide, by decide⟩) ?_
    keq_hits
    refine dop_rI (.inr ⟨by omega, by omega⟩) ?_
    keq_hits
    refine dop_rI (by decide) ?_
    keq_hits
    refine dop_rI ⟨by decide, by decide⟩ ?_
    keq_hits
    refine dop_rI (show (0 : Int) < m by omega) ?_
    exact k _ _ (Int.emod_nonneg _ (by omega)) (Int.emod_lt_of_pos _ (by omega)) ⟨_, _, _, rfl, hx, hy0, hy, by omega, by omega⟩
end

def sp_w_signs {K : PySem.W.Frag} {mg : Str → Option Value} (_ : Tx K mg) : DSp := fun ds M P _ => ds.length = 1 ∧ ∃ n : Nat, ds = [.int n] ∧ n ≤ 1400 ∧ P (.str (strL (rowSg n))) M
section
variable {P : Program} {w : World} {K : PySem.W.Frag} {mg : Str → Option Value} {base : Heap}
theorem ok_w_signs (T : Tx K mg) : FnOk P w K mg base CX0 1 T.a_w_signs T.fd_w_signs ["_law_number"] (up K (sp_w_signs T)) := by
  refine Fun.okD0 T.F_w_signs sc_w_signs (fun ds M P X' h => h.1) (fun cdv A outer s H E hr => ?_)
  have hu := hu_of hr
  refine ⟨_, (pss_cons (ps_set (i := 1) sc_w_signs.nd rfl (Or.inl rfl) pe_str)
      (pss_cons (ps_while PassesOwn.never (pt_cmpR op_gt (pv 0) pe_int (nomark _)) (pss_cons (ps_set (i := 1) sc_w_signs.nd rfl (Or.inl rfl) (pe_op op_add_str (pe_ix ix_str pe_str (pe_op op_mod (pe_op op_sub (pv 0) pe_int) pe_int) (fun _ _ => rfl)) (pv 1)))
      (pss_one (ps_set (i := 0) sc_w_signs.nd rfl (Or.inl rfl) (pe_op op_fdiv (pe_op op_sub (pv 0) pe_int) pe_int)))))
      (pss_one (ps_ret (pv 1))))), fun ds M P X' h => ?_⟩
  obtain ⟨_, n, rfl, hn, k⟩ := h
  have hln := rowSg_len n
  keq_hits
  refine ds_while (m := n) (fun q e mm => ∃ (z : List Nat), e = [some (.int (q : Nat)), some (.str (strL z))] ∧ mm = M ∧ rowSg n = rowSg q ++ z) ?_ ?_
  · exact ⟨[], rfl, rfl, by rw [List.append_nil]⟩
  rintro q e mm ⟨z, rfl, rfl, hq⟩
  have hlen := congrArg List.length hq
  rw [List.length_append] at hlen
  keq_hits
  refine w_ifd (fun h0 => ?_) (fun h0 => ?_)
  · obtain ⟨p, rfl⟩ : ∃ p, q = p + 1 := ⟨q - 1, by omega⟩
    have hl1 : 1 ≤ (rowSg (p + 1)).length := by rw [rowSg, List.length_append]; show 1 ≤ _ + 1; omega
    keq_hits
    refine dop_rI (by decide) ?_
    rw [show (((p + 1 : Nat) : Int) - 1) % 2 = ((p % 2 : Nat) : Int) by omega]
    have hb : atI ("01" : Str).cps.toList ((p % 2 : Nat) : Int) = some (48 + p % 2) := by
      have : p % 2 = 0 ∨ p % 2 = 1 := by omega
      rcases this with h | h <;> rw [h] <;> decide +kernel
    refine dop_ixS (by decide) hb ?_
    keq_hits
    refine dop_addS (by rw [strL_len]; exact Nat.le_of_lt (small5 (by show 1 + _ ≤ _; omega))) ?_
    rw [show ((⟨#[48 + p % 2]⟩ : Str)) = strL [48 + p % 2] from rfl, strL_app]
    keq_hits
    refine dop_rI ⟨by decide, by decide⟩ ?_
    rw [show (((p + 1 : Nat) : Int) - 1) / 2 = ((p / 2 : Nat) : Int) by omega]
    keq_hits
    exact ⟨p / 2, by omega, _, rfl, rfl, by rw [hq, rowSg, List.append_assoc]⟩
  · have h0 : q = 0 := by omega
    subst h0
    rw [rowSg, List.nil_append] at hq
    keq_hits
    rw [← hq]
    exact k
end

def prI (p : Nat × Nat) : D := .tup [.int p.1, .int p.2]
def sp_w_pairs {K : PySem.W.Frag} {mg : Str → Option Value} (_ : Tx K mg) : DSp := fun ds M P _ => ds.length = 1 ∧ ∃ n : Nat, ds = [.int n] ∧ 1 ≤ n ∧ n ≤ 1000 ∧ ∀ h a, HPair n h → P (.loc a) ((a, .lst (((pairsTo h).take n).map prI)) :: M)
section
variable {P : Program} {w : World} {K : PySem.W.Frag} {mg : Str → Option Value} {base : Heap}
theorem ok_w_pairs (T : Tx K mg) : FnOk P w K mg base CX0 1 T.a_w_pairs T.fd_w_pairs ["_law_many_here"] (up K (sp_w_pairs T)) := by
  refine Fun.okD0 T.F_w_pairs sc_w_pairs (fun ds M P X' h => h.1) (fun cdv A outer s H E hr => ?_)
  have hu := hu_of hr
  refine ⟨_, (pss_cons (ps_set (i := 1) sc_w_pairs.nd rfl (Or.inl rfl) (pe_lst pa_nil))
      (pss_cons (ps_set (i := 2) sc_w_pairs.nd rfl (Or.inr rfl) pe_int)
      (pss_cons (ps_while PassesOwn.never (pt_cmpR op_lt (pe_callB (call_len_seqK (K := K) rfl) (by rfl) T.z_len (by decide +kernel) (pa_cons (pv 1) pa_nil)) (pv 0) (nomark _)) (pss_cons (ps_expr (pe_bmK (K := K) rfl PySem.F.plainAttrs_list PySem.F.slot_list_extend PySem.F.type_list_extend mt_extend (pv 1) (pa_cons (pe_lc (own := [("_law_low", 3)]) rfl sc_w_pairs.nd (pi_range1 rfl T.z_range (pa_cons (pv 2) pa_nil)) (blkOk_by (N := slots_w_pairs) (sc := defScope s_w_pairs) (by decide +kernel)) (fun _ _ _ _ _ => by exact (pg_name (i := 3) sc_w_pairs.nd rfl (Or.inl rfl))) (fun _ _ _ _ _ => pts_nil) (fun _ _ _ _ _ => by exact (pe_tup (pa_cons (pv 3) (pa_cons (pv 2) pa_nil))))) pa_nil)))
      (pss_one (ps_set (i := 2) sc_w_pairs.nd rfl (Or.inr rfl) (pe_op op_add (pv 2) pe_int)))))
      (pss_one (ps_ret (pe_slice (sl_listK (K := K) rfl) (pv 1) po_none (po_some (pv 0)))))))), fun ds M P X' h => ?_⟩
  obtain ⟨_, n, rfl, h1, hn, k⟩ := h
  refine ds_fz ?_
  keq_hits
  refine de_lst ?_
  keq_hits
  refine ⟨by decide, fun a => ?_⟩
  keq_hits
  refine ds_while (m := 1002) (fun q e mm => ∃ f : Nat, f + q = 1003 ∧ 1 ≤ f ∧ tri (f - 1) < n ∧ e = [some (.int (n : Nat)), some (.loc a), some (.int (f : Nat)), none] ∧ mm = (a, .lst ((pairsTo f).map prI)) :: M) ?_ ?_
  · exact ⟨1, rfl, Nat.le_refl _, h1, rfl, rfl⟩
  rintro q e mm ⟨f, hf, hf1, hlo, rfl, rfl⟩
  have hlen : ((pairsTo f).map prI).length = tri f := by rw [List.length_map, pairsTo_len]
  keq_hits
  refine dc_lenL (.l List.mem_cons_self) ?_
  rw [hlen]
  keq_hits
  refine w_ifd (fun h0 => ?_) (fun h0 => ?_)
  · have h0' : tri f < n := by omega
    have h46 : f ≤ 45 := Nat.le_of_not_lt fun q => by
      have := tri_mono (show 46 ≤ f by omega)
      have h3 : tri 46 = 1035 := by decide
      omega
    keq_hits
    refine ⟨.inl ⟨rfl, _, .l List.mem_cons_self⟩, ?_⟩
    refine da_cons (de_fz (de_lcP (own_name (by simp)) (di_rng1 ?_)))
    keq_hits
    refine ⟨_, rfl, by omega, by omega, by rw [rngD_len, Int.toNat_natCast]; exact small5 (by omega), fun _ _ => trivial, (fun d => match d with | .int j => some (prI (j.toNat, f)) | _ => none), ?_, fun b => .lst (M1 := []) (.keep ?_)⟩
    · rintro j y m' hy -
      obtain ⟨hj, rfl⟩ := rngD_get hy
      rw [Int.zero_add]
      keq_hits
      exact ⟨by show 2 ≤ sizeLine; decide, .keep ⟨rfl, by show some (prI ((j : Int).toNat, f)) = _; rw [Int.toNat_natCast]; rfl⟩⟩
    have e1 : (rngD 0 ((f : Nat) : Int).toNat).filterMap (fun d => match d with | .int j => some (prI (j.toNat, f)) | _ => none) = ((List.range f).map fun l => (l, f)).map prI := by
      rw [Int.toNat_natCast]
      unfold rngD
      rw [List.filterMap_map, List.map_map, ← List.filterMap_eq_map]
      refine fm_congrD fun l _ => ?_
      show some (prI (((0 : Int) + (l : Nat)).toNat, f)) = some (prI (l, f))
      rw [Int.zero_add, Int.toNat_natCast]
    rw [e1]
    keq_hits
    have hle : ((pairsTo f).map prI).length + (((List.range f).map fun l => (l, f)).map prI).length ≤ sizeLine := by
      rw [hlen, List.length_map, List.length_map, List.length_range]
      exact Nat.le_of_lt (small5 (by omega))
    refine dm_extend (M1 := []) .v hle ?_
    keq_hits
    refine ⟨q - 1, by omega, f + 1, by omega, by omega, h0', rfl, ?_⟩
    rw [show pairsTo (f + 1) = pairsTo f ++ (List.range f).map fun l => (l, f) from rfl, List.map_append]
    rfl
  · have h0' : n ≤ tri f := by omega
    have hf2 : 2 ≤ f := Nat.le_of_not_lt fun q => by
      obtain rfl : f = 1 := by omega
      have : tri 1 = 0 := rfl
      omega
    keq_hits
    refine dsl_l (.l List.mem_cons_self) fun b => ?_
    rw [cutD_take, ← List.map_take]
    exact .drop (.cons_cons _ (.cons _ (List.Sublist.refl _))) (.keep (k f b ⟨hf2, h0', hlo⟩))
end

def sp_w_many {K : PySem.W.Frag} {mg : Str → Option Value} (_ : Tx K mg) : DSp := fun ds M P _ => ds.length = 2 ∧ ∃ (b : Addr) (z : Str) (M1 M2 : MS) (o : MO) (n : Nat), ds = [.loc b, .str z] ∧ M = M1 ++ (b, o) :: M2 ∧ BoxO n o ∧ n + 2 ≤ 1000000 ∧
  ∀ (r : Nat) o', loK z ≤ r → r ≤ 1000 → BoxO (n + 2) o' → P (.int (r : Nat)) (M1 ++ (b, o') :: M2)
def tenL : List Int := [7, 8, 15, 16, 31, 32, 63, 64, 127, 511]
section
variable {P : Program} {w : World} {K : PySem.W.Frag} {mg : Str → Option Value} {base : Heap}
theorem ok_w_many (T : Tx K mg) : FnOk P w K mg base CX0 2 T.a_w_many T.fd_w_many ["_law_box_here", "_law_word"] (up K (sp_w_many T)) := by
  refine Fun.okD0 T.F_w_many sc_w_many (fun ds M P X' h => h.1) (fun cdv A outer s H E hr => ?_)
  have hu := hu_of hr
  refine ⟨_, (pss_cons (ps_set (i := 2) sc_w_many.nd rfl (Or.inl rfl) (pe_ifExp (pt_cmpR op_eq (pv 1) pe_str (nomark _)) pe_int pe_int))
      (pss_cons (ps_set (i := 3) sc_w_many.nd rfl (Or.inl rfl) (pe_call (ok_w_take T) (hr.mono (by decide)) (by rfl) T.m_w_take T.F_w_take.kp T.b_w_take .nil pass0 (pa_cons (pv 0) (pa_cons pe_int pa_nil))))
      (pss_cons (ps_if (pt_cmpR op_eq (pv 3) pe_int (nomark _)) (pss_one (ps_ret (pe_op op_add (pv 2) (pe_call (ok_w_take T) (hr.mono (by decide)) (by rfl) T.m_w_take T.F_w_take.kp T.b_w_take .nil pass0 (pa_cons (pv 0) (pa_cons pe_int pa_nil)))))) pss_nil)
      (pss_cons (ps_if (pt_cmpR op_eq (pv 3) pe_int (nomark _)) (pss_one (ps_ret (pe_op op_sub pe_int (pe_call (ok_w_take T) (hr.mono (by decide)) (by rfl) T.m_w_take T.F_w_take.kp T.b_w_take .nil pass0 (pa_cons (pv 0) (pa_cons pe_int pa_nil)))))) pss_nil)
      (pss_cons (ps_if (pt_cmpR op_eq (pv 3) pe_int (nomark _)) (pss_one (ps_ret (pe_ix (ix_listK (K := K) rfl) (pe_lst (pa_cons pe_int (pa_cons pe_int (pa_cons pe_int (pa_cons pe_int (pa_cons pe_int (pa_cons pe_int (pa_cons pe_int (pa_cons pe_int (pa_cons pe_int (pa_cons pe_int pa_nil))))))))))) (pe_call (ok_w_take T) (hr.mono (by decide)) (by rfl) T.m_w_take T.F_w_take.kp T.b_w_take .nil pass0 (pa_cons (pv 0) (pa_cons pe_int pa_nil))) (fun _ _ => rfl)))) pss_nil)
      (pss_one (ps_ret (pe_op op_add (pv 2) (pe_call (ok_w_take T) (hr.mono (by decide)) (by rfl) T.m_w_take T.F_w_take.kp T.b_w_take .nil pass0 (pa_cons (pv 0) (pa_cons (pe_ix (ix_listK (K := K) rfl) (pe_lst (pa_cons pe_int (pa_cons pe_int pa_nil))) (pe_op op_sub (pv 3) pe_int) (fun _ _ => rfl)) pa_nil))))))))))), fun ds M P X' h => ?_⟩
  obtain ⟨_, b, z, M1, M2, o, n, rfl, rfl, hb, hn, k⟩ := h
  have hlo : z = "ring" ∧ loK z = 3 ∨ z ≠ "ring" ∧ loK z = 1 := by
    by_cases hr : z = "ring"
    · exact .inl ⟨hr, if_pos hr⟩
    · exact .inr ⟨hr, if_neg hr⟩
  have k' : ∀ (r : Int) o', loK z ≤ r → r ≤ 1000 → BoxO (n + 2) o' → P (.int r) (M1 ++ (b, o') :: M2) := fun r o' h1 h2 h3 => by
    have h0 := loK_one z
    obtain ⟨r, rfl⟩ := Int.eq_ofNat_of_zero_le (show 0 ≤ r by omega)
    exact k r o' h1 (by omega) h3
  refine ds_fz ?_
  keq_hits
  rcases hlo with ⟨hr, hl⟩ | ⟨hr, hl⟩
  all_goals (first | rw [decide_eq_true hr] | rw [decide_eq_false hr])
  all_goals keq_hits
  all_goals (
    refine take_i hb (by omega) (by decide) (by decide) fun w o1 w0 w1 hb1 => ?_
    keq_hits
    refine w_ifd (fun e0 => ?_) (fun e0 => ?_)
    · keq_hits
      refine take_i hb1 (by omega) (by decide) (by decide) fun x o2 x0 x1 hb2 => ?_
      keq_hits
      exact .keep (k' _ o2 (by omega) (by omega) hb2)
    keq_hits
    refine w_ifd (fun e1 => ?_) (fun e1 => ?_)
    · keq_hits
      refine take_i hb1 (by omega) (by decide) (by decide) fun x o2 x0 x1 hb2 => ?_
      keq_hits
      exact .keep (k' _ o2 (by omega) (by omega) hb2)
    keq_hits
    refine w_ifd (fun e2 => ?_) (fun e2 => ?_)
    · keq_hits
      refine de_lstV ?_
      keq_hits
      refine ⟨by show 10 ≤ sizeLine; decide, ?_⟩
      keq_hits
      refine take_i hb1 (by omega) (by decide) (by decide) fun x o2 x0 x1 hb2 => ?_
      obtain ⟨x, rfl⟩ := Int.eq_ofNat_of_zero_le x0
      have hx : x < 10 := by omega
      have h10 : ∀ v ∈ tenL, 3 ≤ v ∧ v ≤ 1000 := by decide +kernel
      obtain ⟨v, hv⟩ : ∃ v, tenL[x]? = some v := ⟨_, List.getElem?_eq_getElem (show x < tenL.length from hx)⟩
      obtain ⟨v1, v2⟩ := h10 v (List.mem_of_getElem? hv)
      refine dop_ixL (ds := tenL.map D.int) (d := .int v) .v (atI_nat' (by rw [List.getElem?_map, hv]; rfl)) ?_
      exact .keep (k' _ o2 (by omega) (by omega) hb2)
    · keq_hits
      refine de_lstV ?_
      keq_hits
      refine ⟨by show 2 ≤ sizeLine; decide, ?_⟩
      keq_hits
      have hw : w = 3 ∨ w = 4 := by omega
      rcases hw with rfl | rfl
      · refine dop_ixL (d := .int 30) .v rfl ?_
        keq_hits
        refine take_i hb1 (by omega) (by decide) (by decide) fun x o2 x0 x1 hb2 => ?_
        keq_hits
        exact .keep (k' _ o2 (by omega) (by omega) hb2)
      · refine dop_ixL (d := .int 998) .v rfl ?_
        keq_hits
        refine take_i hb1 (by omega) (by decide) (by decide) fun x o2 x0 x1 hb2 => ?_
        keq_hits
        exact .keep (k' _ o2 (by omega) (by omega) hb2))
end

theorem pairsTo_get : ∀ {h g l : Nat}, l < g → g < h → (pairsTo h)[tri g + l]? = some (l, g)
  | h + 1, g, l, h1, h2 => by
    rw [show pairsTo (h + 1) = pairsTo h ++ (List.range h).map fun l => (l, h) from rfl]
    by_cases e : g = h
    · subst e
      rw [List.getElem?_append_right (by rw [pairsTo_len]; omega), pairsTo_len, List.getElem?_map, show tri g + l - tri g = l by omega, List.getElem?_range h1]
      rfl
    · have h3 : tri (g + 1) ≤ tri h := tri_mono (by omega)
      have h4 : tri (g + 1) = tri g + g := rfl
      rw [List.getElem?_append_left (by rw [pairsTo_len]; omega)]
      exact pairsTo_get h1 (by omega)
theorem pairsTo_ix : ∀ {h m : Nat} {q : Nat × Nat}, (pairsTo h)[m]? = some q → m = tri q.2 + q.1
  | 0, m, q, e => by simp [pairsTo] at e
  | h + 1, m, q, e => by
    rw [show pairsTo (h + 1) = pairsTo h ++ (List.range h).map fun l => (l, h) from rfl, List.getElem?_append, pairsTo_len] at e
    by_cases hm : m < tri h
    · rw [if_pos hm] at e; exact pairsTo_ix e
    · rw [if_neg hm, List.getElem?_map] at e
      obtain ⟨l, hl, rfl⟩ := Option.map_eq_some_iff.mp e
      obtain ⟨h1, h2⟩ := List.getElem?_eq_some_iff.mp hl
      rw [List.getElem_range] at h2
      show m = tri h + l
      omega
theorem eqv_prI (a b : Nat × Nat) : PyData.eqv (pyD (prI a)) (pyD (prI b)) = decide (a = b) := by
  have e : PyData.eqv (pyD (prI a)) (pyD (prI b)) = ((((a.1 : Nat) : Int) == ((b.1 : Nat) : Int)) && ((((a.2 : Nat) : Int) == ((b.2 : Nat) : Int)) && true)) := by
    simp only [prI, pyD, pyDs, PyData.eqv, PyData.eqvAll]
  rw [e, Bool.and_true]
  by_cases h : a = b
  · subst h; simp
  · rw [decide_eq_false h]
    by_cases h1 : a.1 = b.1
    · have h2 : a.2 ≠ b.2 := fun h2 => h (Prod.ext h1 h2)
      have : (((a.2 : Nat) : Int) == ((b.2 : Nat) : Int)) = false := beq_eq_false_iff_ne.mpr (by omega)
      rw [this, Bool.and_false]
    · have : (((a.1 : Nat) : Int) == ((b.1 : Nat) : Int)) = false := beq_eq_false_iff_ne.mpr (by omega)
      rw [this, Bool.false_and]
theorem any_prI (l : List (Nat × Nat)) (q : Nat × Nat) : ((pyDs (l.map prI)).any fun z => PyData.eqv z (pyD (prI q))) = decide (q ∈ l) := by
  rw [pyDs_map, List.any_map, List.any_map]
  induction l with
  | nil => rfl
  | cons a l ih =>
    rw [List.any_cons, ih]
    show (PyData.eqv (pyD (prI a)) (pyD (prI q)) || decide (q ∈ l)) = _
    rw [eqv_prI, ← Bool.decide_or]
    exact decide_eq_decide.mpr ⟨fun h => h.elim (fun e => e ▸ List.mem_cons_self) (List.mem_cons_of_mem _), fun h => (List.mem_cons.mp h).imp (fun e => e.symm) id⟩
theorem prI_ok {q : Nat × Nat} (h1 : q.1 ≤ 100000) (h2 : q.2 ≤ 100000) : okD 1 (prI q) = true := by
  show ((decide (0 ≤ ((q.1 : Nat) : Int)) && decide (((q.1 : Nat) : Int) ≤ 10000000000000)) && ((decide (0 ≤ ((q.2 : Nat) : Int)) && decide (((q.2 : Nat) : Int) ≤ 10000000000000)) && true)) = true
  rw [decide_eq_true (by omega), decide_eq_true (by omega), decide_eq_true (by omega), decide_eq_true (by omega)]; rfl
def sp_w_due {K : PySem.W.Frag} {mg : Str → Option Value} (_ : Tx K mg) : DSp := fun ds M P _ => ds.length = 4 ∧ ∃ (z : Str) (n h i j : Nat), ds = [.str z, .int n, .int i, .int j] ∧ z ∈ kindsL ∧ loK z ≤ n ∧ n ≤ 1000 ∧ RowsOf z n h ∧ i < h ∧ j < h ∧ P (optN (farK z n i j)) M
section
variable {P : Program} {w : World} {K : PySem.W.Frag} {mg : Str → Option Value} {base : Heap}
theorem ok_w_due (T : Tx K mg) : FnOk P w K mg base CX0 2 T.a_w_due T.fd_w_due ["_law_word", "_law_many_here", "_law_here", "_law_there"] (up K (sp_w_due T)) := by
  refine Fun.okD0 T.F_w_due sc_w_due (fun ds M P X' h => h.1) (fun cdv A outer s H E hr => ?_)
  have hu := hu_of hr
  refine ⟨_, (pss_cons (ps_if (pt_cmpR op_eq (pv 2) (pv 3) (nomark _)) (pss_one (ps_ret pe_int)) pss_nil)
      (pss_cons (ps_set (i := 4) sc_w_due.nd rfl (Or.inl rfl) (pe_callB call_abs (by rfl) T.z_abs (by decide +kernel) (pa_cons (pe_op op_sub (pv 2) (pv 3)) pa_nil)))
      (pss_cons (ps_if (pt_cmpR op_eq (pv 0) pe_str (nomark _)) (pss_one (ps_ret (pv 4))) pss_nil)
      (pss_cons (ps_if (pt_cmpR op_eq (pv 0) pe_str (nomark _)) (pss_one (ps_ret (pe_op op_sub pe_int (pe_callTy call_int1 (by rfl) T.z_int (by decide +kernel) (pa_cons (pe_cmpR op_eq (pe_callB (call_min2 rfl) (by rfl) T.z_min (by decide +kernel) (pa_cons (pv 2) (pa_cons (pv 3) pa_nil))) pe_int (nomark _)) pa_nil))))) pss_nil)
      (pss_cons (ps_if (pt_cmpR op_eq (pv 0) pe_str (nomark _)) (pss_one (ps_ret (pe_callB (call_min2 rfl) (by rfl) T.z_min (by decide +kernel) (pa_cons (pv 4) (pa_cons (pe_op op_sub (pv 1) (pv 4)) pa_nil))))) pss_nil)
      (pss_cons (ps_set (i := 5) sc_w_due.nd rfl (Or.inl rfl) (pe_call (ok_w_pairs T) (hr.mono (by decide)) (by rfl) T.m_w_pairs T.F_w_pairs.kp T.b_w_pairs .nil pass0 (pa_cons (pv 1) pa_nil)))
      (pss_cons (ps_set (i := 6) sc_w_due.nd rfl (Or.inl rfl) (pe_tup (pa_cons (pe_callB (call_min2 rfl) (by rfl) T.z_min (by decide +kernel) (pa_cons (pv 2) (pa_cons (pv 3) pa_nil))) (pa_cons (pe_callB (call_max2 rfl) (by rfl) T.z_max (by decide +kernel) (pa_cons (pv 2) (pa_cons (pv 3) pa_nil))) pa_nil))))
      (pss_one (ps_ret (pe_ifExp (pt_cmpR (op_inDK (K := K) rfl (Room.units65 hr)) (pv 6) (pv 5) (by rfl)) (pe_op op_add (pe_bmK (K := K) rfl PySem.F.plainAttrs_list PySem.F.slot_list_index PySem.F.type_list_index (mt_indexDK (K := K) rfl (Room.units65 hr)) (pv 5) (pa_cons (pv 6) pa_nil)) pe_int) pe_non)))))))))), fun ds M P X' h => ?_⟩
  obtain ⟨_, z, n, h, i, j, rfl, hz, hlo, hn, hR, hi, hj, k⟩ := h
  have hl1 := loK_one z
  obtain ⟨h1, h2⟩ := hR.le (by omega) hn
  refine ds_fz ?_
  keq_hits
  refine w_ifd (fun e => ?_) (fun e => ?_)
  · have e' : i = j := by omega
    keq_hits
    have : farK z n i j = some 0 := if_pos e'
    rw [this] at k
    exact .keep k
  have e' : i ≠ j := fun q => e (by omega)
  keq_hits
  rw [abs_mm]
  by_cases hpa : z = "path"
  · rw [decide_eq_true hpa]
    keq_hits
    have : farK z n i j = some (max i j - min i j) := by
      subst hpa
      unfold farK; rw [if_neg e', if_neg (by decide +kernel), if_neg (by decide +kernel), if_neg (by decide +kernel)]
    rw [this] at k
    exact .keep k
  rw [decide_eq_false hpa]
  keq_hits
  by_cases hs : z = "star"
  · rw [decide_eq_true hs]
    keq_hits
    rw [min_mm]
    have : farK z n i j = some (if min i j = 0 then 1 else 2) := by
      subst hs
      unfold farK; rw [if_neg e', if_neg (by decide +kernel), if_pos rfl]
    rw [this] at k
    by_cases e0' : min i j = 0
    · rw [if_pos e0'] at k
      rw [show decide (((min i j : Nat) : Int) = 0) = true from decide_eq_true (by omega)]
      keq_hits
      exact .keep k
    · rw [if_neg e0'] at k
      rw [show decide (((min i j : Nat) : Int) = 0) = false from decide_eq_false (by omega)]
      keq_hits
      exact .keep k
  rw [decide_eq_false hs]
  keq_hits
  by_cases hr : z = "ring"
  · rw [decide_eq_true hr]
    keq_hits
    have hp : ¬ z = "pair" := fun q => by rw [q] at hr; exact absurd hr (by decide +kernel)
    have : farK z n i j = some (min (max i j - min i j) (n - (max i j - min i j))) := by unfold farK; rw [if_neg e', if_neg hp, if_neg hs, if_pos hr]
    rw [this] at k
    have hh : h = n := hR.elim (fun q => absurd q.1 hp) fun q => q.2
    have e3 : (if (n : Int) - ((max i j - min i j : Nat) : Int) < ((max i j - min i j : Nat) : Int) then (n : Int) - ((max i j - min i j : Nat) : Int) else ((max i j - min i j : Nat) : Int)) = ((min (max i j - min i j) (n - (max i j - min i j)) : Nat) : Int) := by split <;> omega
    rw [e3]
    exact .keep k
  rw [decide_eq_false hr]
  have hp : z = "pair" := by
    have hz' : z = "path" ∨ z = "star" ∨ z = "ring" ∨ z = "pair" := by
      unfold kindsL at hz
      simp only [List.mem_cons, List.not_mem_nil, or_false] at hz
      exact hz
    rcases hz' with q | q | q | q
    · exact absurd q hpa
    · exact absurd q hs
    · exact absurd q hr
    · exact q
  have hh : HPair n h := hR.elim (fun r => r.2) fun r => absurd hp r.1
  have h46 := hh.le hn
  keq_hits
  refine ⟨rfl, n, rfl, by omega, hn, fun g a hg => .lst (M1 := []) (.keep ?_)⟩
  obtain rfl := hh.uniq hg
  have hfk : farK z n i j = pairFar n (min i j) (max i j) := by unfold farK; rw [if_neg e', if_pos hp]
  rw [hfk] at k
  have hlt : min i j < max i j := by omega
  have hmx : max i j < h := by omega
  have hget := pairsTo_get hlt hmx
  have hall : (((pairsTo h).take n).map prI).all (okD 1) = true := List.all_eq_true.mpr fun d hd => by
    obtain ⟨q, hq, rfl⟩ := List.mem_map.mp hd
    have := pairsTo_lt h q (List.mem_of_mem_take hq)
    exact prI_ok (by omega) (by omega)
  have hmem : (min i j, max i j) ∈ (pairsTo h).take n ↔ tri (max i j) + min i j < n := by
    constructor
    · intro hm
      obtain ⟨m, hm⟩ := List.mem_iff_getElem?.mp hm
      rw [List.getElem?_take] at hm
      by_cases hmn : m < n
      · rw [if_pos hmn] at hm
        have := pairsTo_ix hm
        simp only at this
        omega
      · rw [if_neg hmn] at hm; cases hm
    · intro hm
      refine List.mem_of_getElem? (i := tri (max i j) + min i j) ?_
      rw [List.getElem?_take, if_pos hm]
      exact hget
  keq_hits
  rw [min_mm, max_mm]
  refine ⟨by show 2 ≤ sizeLine; decide, ?_⟩
  keq_hits
  refine dop_inD (n := 1) (x := prI (min i j, max i j)) .v (prI_ok (by show min i j ≤ _; omega) (by show max i j ≤ _; omega)) hall (by decide) ?_
  rw [any_prI]
  keq_hits
  by_cases hin : tri (max i j) + min i j < n
  · rw [decide_eq_true (hmem.mpr hin)]
    keq_hits
    refine ⟨.inl ⟨rfl, _, .v⟩, ?_⟩
    keq_hits
    refine dm_indexD (n := 1) (j := tri (max i j) + min i j) (x := prI (min i j, max i j)) (z := prI (min i j, max i j)) .v (prI_ok (by show min i j ≤ _; omega) (by show max i j ≤ _; omega)) hall (by decide) (by rw [List.getElem?_map, List.getElem?_take, if_pos hin, hget]; rfl) (by rw [eqv_prI]; exact decide_eq_true rfl) (fun m z' hm hz' => ?_) ?_
    · rw [List.getElem?_map] at hz'
      obtain ⟨q, hq, rfl⟩ := Option.map_eq_some_iff.mp hz'
      rw [List.getElem?_take, if_pos (by omega)] at hq
      rw [eqv_prI]
      refine decide_eq_false fun e => ?_
      have := pairsTo_ix hq
      rw [e] at this
      simp only at this
      omega
    keq_hits
    have : optN (pairFar n (min i j) (max i j)) = .int (((tri (max i j) + min i j : Nat) : Int) + 1) := by unfold pairFar; rw [if_pos hin]; rfl
    rw [this] at k
    exact .keep k
  · rw [decide_eq_false (fun q => hin (hmem.mp q))]
    keq_hits
    have : optN (pairFar n (min i j) (max i j)) = .non := by unfold pairFar; rw [if_neg hin]; rfl
    rw [this] at k
    exact .keep k
end

theorem th_word {z : Str} (h : (z.cps.toList.all fun c => decide (c < 16 ^ 8)) = true) {n : Nat} : Th n (.str z) (.str z) (10 * z.length + 2) := .str fun c hc => of_decide_eq_true (List.all_eq_true.mp h c hc)
def sp_w_refused {K : PySem.W.Frag} {mg : Str → Option Value} (T : Tx K mg) : DSp := fun ds M P _ => ds.length = 4 ∧ ∃ (word many one other x : D) (w : Str), ds = [word, many, one, other] ∧ (∃ n p c, Th n x p c ∧ n ≤ 30 ∧ c ≤ 100000 ∧ P (.str (PyData.tuple [.str w, p]).shown) M) ∧
  ((w = "kind" ∧ notKind word ∧ x = word) ∨ (w = "number" ∧ (∃ z, word = .str z ∧ z ∈ kindsL ∧ wholeD (loK z) 1000 many = false) ∧ x = many) ∨ (w = "signs" ∧ ∃ z n h, GoodK word many z n ∧ RowsOf z n h ∧ ((BadS one h ∧ x = one) ∨ (∃ i, one = rowD1 i ∧ i < h ∧ BadS other h ∧ x = other))))
section
variable {P : Program} {w : World} {K : PySem.W.Frag} {mg : Str → Option Value} {base : Heap}
theorem ok_w_refused (T : Tx K mg) : FnG P w K mg base CX0 6 T.a_w_refused T.fd_w_refused ["_law_word", "_law_many_here", "_law_one", "_law_other"] (up K (sp_w_refused T)) := by
  refine FnG.okD T.F_w_refused sc_w_refused (fun ds M P X' h => h.1) (fun cdv A outer s H E hG hr => ?_)
  have hu := hu_of hr
  refine ⟨_, (pss_cons (ps_set (i := 4) sc_w_refused.nd rfl (Or.inl rfl) pe_non)
      (pss_cons (ps_try_clsK (K := K) rfl rfl rfl sc_w_refused.nd takes_none5 (fun W pn xe tk po => (pss_one (ps_set (i := 4) sc_w_refused.nd rfl (Or.inl rfl) (pe_tup (pa_cons pe_str (pa_cons (pe_callS (ok_kind_far T) (hr.mono (by decide)) (by rfl) T.m_kind_far T.F_kind_far.kp T.b_kind_far (fun σ => passAt tk σ) (pa_cons (pv 0) (pa_cons (pv 1) (pa_cons (pv 2) (pa_cons (pv 3) pa_nil))))) pa_nil)))))) (.cons ⟨by rfl, by decide, .inl T.m_NoSigns⟩ (.as (i := 5) rfl rfl) (fun a oe cls dd pn hz hf => (pss_one (ps_set (i := 4) sc_w_refused.nd rfl (Or.inl rfl) (pe_tup (pa_cons pe_str (pa_cons (pe_xf T.xf_NoSigns T.no_NoSigns_found hz hf (pv 5)) pa_nil)))))) (.cons ⟨by rfl, by decide, .inl T.m_NoKind⟩ (.as (i := 5) rfl rfl) (fun a oe cls dd pn hz hf => (pss_one (ps_set (i := 4) sc_w_refused.nd rfl (Or.inl rfl) (pe_tup (pa_cons pe_str (pa_cons (pe_xf T.xf_NoKind T.no_NoKind_found hz hf (pv 5)) pa_nil)))))) (.cons ⟨by rfl, by decide, .inl T.m_NoNumber⟩ (.as (i := 5) rfl rfl) (fun a oe cls dd pn hz hf => (pss_one (ps_set (i := 4) sc_w_refused.nd rfl (Or.inl rfl) (pe_tup (pa_cons pe_str (pa_cons (pe_xf T.xf_NoNumber T.no_NoNumber_found hz hf (pv 5)) pa_nil)))))) .nil))))
      (pss_one (ps_ret (pe_callB (call_reprA (K := K) rfl hG hr.units) (by rfl) T.z_repr (by decide +kernel) (pa_cons (pv 4) pa_nil)))))), fun ds M P X' h => ?_⟩
  obtain ⟨_, word, many, one, other, x, w, rfl, ⟨n, p, c, th, hn30, hc, k⟩, h⟩ := h
  have big : ∀ {q : Nat}, q ≤ 10 → (10 * q + 2) + 2 + (c + 2 + 0) + 3 ≤ sizeLine := fun h1 => Nat.le_of_lt (Nat.lt_of_le_of_lt (show _ ≤ 200000 by omega) (by decide))
  keq_hits
  refine ds_try_cl fun W' => ?_
  keq_hits
  rcases h with ⟨rfl, hk, rfl⟩ | ⟨rfl, ⟨z, rfl, hz, hw⟩, rfl⟩ | ⟨rfl, z, m, h, gk, hR, hb⟩
  · refine ⟨rfl, _, _, _, _, rfl, .inr (.inl ⟨T.C_NoKind, _, .inl ⟨hk, rfl, rfl⟩, ?_⟩)⟩
    refine ⟨false, exm_of T.ox_NoSigns T.sx_NoKind_NoSigns, (fun e => by cases e), fun _ => ⟨true, exm_of T.ox_NoKind T.sx_NoKind_NoKind, fun _ a dd => ?_, fun e => by cases e⟩⟩
    keq_hits
    refine de_xf ?_
    keq_hits
    refine ⟨rfl, _, _, rfl, rfl, ?_⟩
    keq_hits
    refine ⟨by show 2 ≤ sizeLine; decide, ?_⟩
    keq_hits
    refine dc_reprTh (.cons (th_word (n := 30) (z := "kind") (by decide +kernel)) (.cons (th.up hn30) .nil)) (by decide) (big (q := 4) (by decide)) ?_
    keq_hits
    exact k
  · obtain ⟨q, ty⟩ := th.ty
    refine ⟨rfl, _, _, _, _, rfl, .inr (.inl ⟨T.C_NoNumber, _, .inr ⟨z, rfl, hz, ⟨q, ty⟩, hw, rfl, rfl⟩, ?_⟩)⟩
    refine ⟨false, exm_of T.ox_NoSigns T.sx_NoNumber_NoSigns, (fun e => by cases e), fun _ => ⟨false, exm_of T.ox_NoKind T.sx_NoNumber_NoKind, (fun e => by cases e), fun _ => ⟨true, exm_of T.ox_NoNumber T.sx_NoNumber_NoNumber, fun _ a dd => ?_, fun e => by cases e⟩⟩⟩
    keq_hits
    refine de_xf ?_
    keq_hits
    refine ⟨rfl, _, _, rfl, rfl, ?_⟩
    keq_hits
    refine ⟨by show 2 ≤ sizeLine; decide, ?_⟩
    keq_hits
    refine dc_reprTh (.cons (th_word (n := 30) (z := "number") (by decide +kernel)) (.cons (th.up hn30) .nil)) (by decide) (big (q := 6) (by decide)) ?_
    keq_hits
    exact k
  · rcases hb with ⟨hb, rfl⟩ | ⟨i, rfl, hi, hb, rfl⟩
    · refine ⟨rfl, _, _, _, _, rfl, .inr (.inr (.inl ⟨z, m, h, gk, hR, hb, ?_⟩))⟩
      refine ⟨true, exm_of T.ox_NoSigns T.sx_NoSigns_NoSigns, fun _ a dd => ?_, fun e => by cases e⟩
      keq_hits
      refine de_xf ?_
      keq_hits
      refine ⟨rfl, _, _, rfl, rfl, ?_⟩
      keq_hits
      refine ⟨by show 2 ≤ sizeLine; decide, ?_⟩
      keq_hits
      refine dc_reprTh (.cons (th_word (n := 30) (z := "signs") (by decide +kernel)) (.cons (th.up hn30) .nil)) (by decide) (big (q := 5) (by decide)) ?_
      keq_hits
      exact k
    · refine ⟨rfl, _, _, _, _, rfl, .inr (.inr (.inr ⟨z, m, h, i, gk, hR, rfl, hi, hb, ?_⟩))⟩
      refine ⟨true, exm_of T.ox_NoSigns T.sx_NoSigns_NoSigns, fun _ a dd => ?_, fun e => by cases e⟩
      keq_hits
      refine de_xf ?_
      keq_hits
      refine ⟨rfl, _, _, rfl, rfl, ?_⟩
      keq_hits
      refine ⟨by show 2 ≤ sizeLine; decide, ?_⟩
      keq_hits
      refine dc_reprTh (.cons (th_word (n := 30) (z := "signs") (by decide +kernel)) (.cons (th.up hn30) .nil)) (by decide) (big (q := 5) (by decide)) ?_
      keq_hits
      exact k
end

theorem optN_ok (o : Option Nat) (h : ∀ n, o = some n → n ≤ 100000) : okD 0 (optN o) = true := by
  cases o with
  | none => rfl
  | some n =>
    have := h n rfl
    show (decide (0 ≤ ((n : Nat) : Int)) && decide (((n : Nat) : Int) ≤ 10000000000000)) = true
    rw [decide_eq_true (by omega), decide_eq_true (by omega)]; rfl
theorem optN_wt (o : Option Nat) : wtD (optN o) ≤ sizeLine := by cases o <;> (unfold optN; simp only [wtD]; decide)
theorem farK_le {z : Str} {n i j : Nat} (hi : i ≤ 1000) (hj : j ≤ 1000) (hn : n ≤ 1000) {r : Nat} (h : farK z n i j = some r) : r ≤ 100000 := by
  unfold farK at h
  split at h
  · cases h; decide
  · split at h
    · unfold pairFar at h
      split at h
      · cases h; omega
      · cases h
    · split at h
      · cases h; split <;> decide
      · split at h <;> (cases h; omega)
theorem farK_comm (z : Str) (n i j : Nat) : farK z n i j = farK z n j i := by
  unfold farK
  rw [Nat.min_comm i j, Nat.max_comm i j]
  by_cases h : i = j
  · rw [if_pos h, if_pos h.symm]
  · rw [if_neg h, if_neg (show ¬ j = i from fun q => h q.symm)]
def sp_w_asked_right {K : PySem.W.Frag} {mg : Str → Option Value} (_ : Tx K mg) : DSp := fun ds M P _ => ds.length = 4 ∧ ∃ (b : Addr) (z : Str) (n h : Nat) (M1 M2 : MS) (o : MO) (s : Nat), ds = [.loc b, .str z, .int n, .int h] ∧ M = M1 ++ (b, o) :: M2 ∧ BoxO s o ∧ s + 50 ≤ 1000000 ∧ z ∈ kindsL ∧ loK z ≤ n ∧ n ≤ 1000 ∧ RowsOf z n h ∧
  ∀ o', BoxO (s + 50) o' → P (.bl true) (M1 ++ (b, o') :: M2)
section
variable {P : Program} {w : World} {K : PySem.W.Frag} {mg : Str → Option Value} {base : Heap}
theorem ok_w_asked_right (T : Tx K mg) : FnG P w K mg base CX0 6 T.a_w_asked_right T.fd_w_asked_right ["_law_box_here", "_law_word", "_law_many_here", "_law_rows"] (up K (sp_w_asked_right T)) := by
  refine FnG.okD T.F_w_asked_right sc_w_asked_right (fun ds M P X' h => h.1) (fun cdv A outer s H E hG hr => ?_)
  have hu := hu_of hr
  refine ⟨_, (pss_cons (ps_for PassesOwn.never rfl (pi_range1 rfl T.z_range (pa_cons pe_int pa_nil)) (pg_name (i := 4) sc_w_asked_right.nd rfl (Or.inl rfl)) (pss_cons (ps_par (i := 6) (j := 7) (by rfl) sc_w_asked_right.nd rfl rfl (by decide) rfl rfl (pa_cons (pe_call (ok_w_take T) (hr.mono (by decide)) (by rfl) T.m_w_take T.F_w_take.kp T.b_w_take .nil pass0 (pa_cons (pv 0) (pa_cons (pv 3) pa_nil))) (pa_cons (pe_call (ok_w_take T) (hr.mono (by decide)) (by rfl) T.m_w_take T.F_w_take.kp T.b_w_take .nil pass0 (pa_cons (pv 0) (pa_cons (pv 3) pa_nil))) pa_nil)) (by rfl))
      (pss_cons (ps_if (pt_cmpR op_lt (pv 4) pe_int (nomark _)) (pss_one (ps_par (i := 6) (j := 7) (by rfl) sc_w_asked_right.nd rfl rfl (by decide) rfl rfl (pa_cons (pe_callB (call_max2 rfl) (by rfl) T.z_max (by decide +kernel) (pa_cons pe_int (pa_cons (pe_op op_sub (pe_op op_sub (pv 3) pe_int) (pv 4)) pa_nil))) (pa_cons (pe_ix (ix_listK (K := K) rfl) (pe_lst (pa_cons (pv 6) (pa_cons pe_int (pa_cons (pe_op op_sub (pv 3) pe_int) pa_nil)))) (pv 4) (fun _ _ => rfl)) pa_nil)) (by rfl))) pss_nil)
      (pss_cons (ps_par (i := 8) (j := 9) (by rfl) sc_w_asked_right.nd rfl rfl (by decide) rfl rfl (pa_cons (pe_call (ok_w_signs T) (hr.mono (by decide)) (by rfl) T.m_w_signs T.F_w_signs.kp T.b_w_signs .nil pass0 (pa_cons (pv 6) pa_nil)) (pa_cons (pe_call (ok_w_signs T) (hr.mono (by decide)) (by rfl) T.m_w_signs T.F_w_signs.kp T.b_w_signs .nil pass0 (pa_cons (pv 7) pa_nil)) pa_nil)) (by rfl))
      (pss_cons (ps_set (i := 5) sc_w_asked_right.nd rfl (Or.inl rfl) (pe_callB (call_reprA (K := K) rfl hG hr.units) (by rfl) T.z_repr (by decide +kernel) (pa_cons (pe_call (ok_w_due T) (hr.mono (by decide)) (by rfl) T.m_w_due T.F_w_due.kp T.b_w_due .nil pass0 (pa_cons (pv 1) (pa_cons (pv 2) (pa_cons (pv 6) (pa_cons (pv 7) pa_nil))))) pa_nil)))
      (pss_one (ps_if (PW.pt (pw_or (pt_cmpR op_ne (pe_callB (call_reprA (K := K) rfl hG hr.units) (by rfl) T.z_repr (by decide +kernel) (pa_cons (pe_call (ok_kind_far T) (hr.mono (by decide)) (by rfl) T.m_kind_far T.F_kind_far.kp T.b_kind_far .nil passF (pa_cons (pv 1) (pa_cons (pv 2) (pa_cons (pv 8) (pa_cons (pv 9) pa_nil))))) pa_nil)) (pv 5) (nomark _)) (pw_or1 (pt_cmpR op_ne (pe_callB (call_reprA (K := K) rfl hG hr.units) (by rfl) T.z_repr (by decide +kernel) (pa_cons (pe_call (ok_kind_far T) (hr.mono (by decide)) (by rfl) T.m_kind_far T.F_kind_far.kp T.b_kind_far .nil passF (pa_cons (pv 1) (pa_cons (pv 2) (pa_cons (pv 9) (pa_cons (pv 8) pa_nil))))) pa_nil)) (pv 5) (nomark _))))) (pss_one (ps_ret pe_bl)) pss_nil)))))))
      (pss_one (ps_ret pe_bl))), fun ds M P X' h => ?_⟩
  obtain ⟨_, b, z, n, h, M1, M2, o, s, rfl, rfl, hb, hsn, hz, hlo, hn, hR, k⟩ := h
  have hl1 := loK_one z
  obtain ⟨h1, h2⟩ := hR.le (by omega) hn
  have gk : GoodK (.str z) (.int (n : Nat)) z n := ⟨rfl, hz, rfl, hlo, hn⟩
  refine ds_fz ?_
  keq_hits
  refine ds_for (di_rng1 ?_)
  keq_hits
  refine ⟨10, rfl, by decide, by decide, fun i e m => ∃ e4 e5 e6 e7 e8 e9 o', e = [some (.loc b), some (.str z), some (.int (n : Nat)), some (.int (h : Nat)), e4, e5, e6, e7, e8, e9] ∧ m = M1 ++ (b, o') :: M2 ∧ BoxO (s + 2 * i) o', ⟨_, _, _, _, _, _, o, rfl, rfl, hb⟩, fun _ _ _ _ _ => trivial, ?_, ?_⟩
  · rintro i x e m hx ⟨e4, e5, e6, e7, e8, e9, o', rfl, rfl, hb⟩
    obtain ⟨hi, rfl⟩ := rngD_get hx
    have hi : i < 10 := hi
    refine dg_name ?_
    refine ds_seq (ds_par ?_)
    keq_hits
    refine take_i hb (by omega) (by omega) (by omega) fun x o1 x0 x1 hb1 => ?_
    keq_hits
    refine take_i hb1 (by omega) (by omega) (by omega) fun y o2 y0 y1 hb2 => ?_
    keq_hits
    obtain ⟨x, rfl⟩ := Int.eq_ofNat_of_zero_le x0
    obtain ⟨y, rfl⟩ := Int.eq_ofNat_of_zero_le y0
    refine ⟨_, _, rfl, ?_⟩
    refine ds_seq (ds_cut (fun e m => ∃ (p q : Nat) (e5 e8 e9 : Option D), p < h ∧ q < h ∧ e = [some (.loc b), some (.str z), some (.int (n : Nat)), some (.int (h : Nat)), some (.int ((0 : Int) + (i : Nat))), e5, some (.int (p : Nat)), some (.int (q : Nat)), e8, e9] ∧ m = M1 ++ (b, o2) :: M2) ?_ ?_)
    · keq_hits
      refine w_ifd (fun e3 => ?_) (fun e3 => ?_)
      · refine ds_par ?_
        keq_hits
        refine de_lstV ?_
        keq_hits
        refine ⟨by show 3 ≤ sizeLine; decide, ?_⟩
        keq_hits
        have em : (if (h : Int) - 1 - (0 + (i : Nat)) > 0 then (h : Int) - 1 - (0 + (i : Nat)) else 0) = ((h - 1 - i : Nat) : Int) := by split <;> omega
        have e012 : i = 0 ∨ i = 1 ∨ i = 2 := by omega
        rw [em]
        rcases e012 with rfl | rfl | rfl
        · refine dop_ixL (d := .int (x : Nat)) .v rfl ?_
          keq_hits
          exact ⟨_, _, rfl, h - 1 - 0, x, e5, e8, e9, by omega, by omega, rfl, rfl⟩
        · refine dop_ixL (d := .int (0 : Nat)) .v rfl ?_
          keq_hits
          exact ⟨_, _, rfl, h - 1 - 1, 0, e5, e8, e9, by omega, by omega, rfl, rfl⟩
        · refine dop_ixL (d := .int ((h : Int) - 1)) .v rfl ?_
          keq_hits
          exact ⟨_, _, rfl, h - 1 - 2, h - 1, e5, e8, e9, by omega, by omega, by rw [show (h : Int) - 1 = ((h - 1 : Nat) : Int) by omega]; rfl, rfl⟩
      · keq_hits
        exact ⟨x, y, e5, e8, e9, by omega, by omega, rfl, rfl⟩
    · rintro e m ⟨p, q, e5, e8, e9, hp, hq, rfl, rfl⟩
      have hok := optN_ok (farK z n p q) fun r hr => farK_le (by omega) (by omega) hn hr
      refine ds_seq (ds_par ?_)
      keq_hits
      refine ⟨rfl, p, rfl, by omega, .keep ?_⟩
      keq_hits
      refine ⟨rfl, q, rfl, by omega, .keep ?_⟩
      keq_hits
      refine ⟨_, _, rfl, ?_⟩
      keq_hits
      refine ⟨rfl, z, n, h, p, q, rfl, hz, hlo, hn, hR, hp, hq, .keep ?_⟩
      keq_hits
      refine dc_repr (n := 0) hok (by decide) (optN_wt _) ?_
      keq_hits
      refine ⟨rfl, _, _, _, _, rfl, .inl ⟨z, n, h, p, q, gk, hR, rfl, hp, rfl, hq, .keep ?_⟩⟩
      keq_hits
      refine dc_repr (n := 0) hok (by decide) (optN_wt _) ?_
      keq_hits
      refine w_ifnd (fun e => absurd rfl e) (fun _ => ?_)
      keq_hits
      refine ⟨rfl, _, _, _, _, rfl, .inl ⟨z, n, h, q, p, gk, hR, rfl, hq, rfl, hp, .keep ?_⟩⟩
      rw [farK_comm z n q p]
      keq_hits
      refine dc_repr (n := 0) hok (by decide) (optN_wt _) ?_
      keq_hits
      refine w_ifnd (fun e => absurd rfl e) (fun _ => ?_)
      keq_hits
      exact ⟨_, _, _, _, _, _, o2, rfl, rfl, hb2⟩
  · rintro e m ⟨e4, e5, e6, e7, e8, e9, o', rfl, rfl, hb⟩
    keq_hits
    exact .keep (k o' (hb.le (by show s + 2 * 10 ≤ s + 50; omega)))
end

def ThC (d : D) : Prop := ∃ p c, Th 3 d p c ∧ c ≤ 50000
theorem signsB_str (z : Str) : signsB (.str z) = (!decide (1500 < z.length) && signsS z) := rfl
theorem row_cp (k : Nat) : ∀ c ∈ rowSg k, c < 16 ^ 8 := fun c hc => Nat.lt_trans (rowSg_lt k c hc) (by decide)
theorem thc_l {l : List Nat} (h : ∀ c ∈ l, c < 16 ^ 8) (hl : l.length ≤ 4000) : ThC (.str (strL l)) := ⟨_, _, .str (x := strL l) h, by rw [strL_len]; omega⟩
def sp_w_refusals_right {K : PySem.W.Frag} {mg : Str → Option Value} (_ : Tx K mg) : DSp := fun ds M P _ => ds.length = 4 ∧ ∃ (b : Addr) (z : Str) (n h : Nat) (M1 M2 : MS) (o : MO) (s : Nat), ds = [.loc b, .str z, .int n, .int h] ∧ M = M1 ++ (b, o) :: M2 ∧ BoxO s o ∧ s + 10 ≤ 1000000 ∧ z ∈ kindsL ∧ loK z ≤ n ∧ n ≤ 1000 ∧ RowsOf z n h ∧
  ∀ o', BoxO (s + 10) o' → P (.bl true) (M1 ++ (b, o') :: M2)
section
variable {P : Program} {w : World} {K : PySem.W.Frag} {mg : Str → Option Value} {base : Heap}
theorem ok_w_refusals_right (T : Tx K mg) : FnG P w K mg base CX0 7 T.a_w_refusals_right T.fd_w_refusals_right ["_law_box_here", "_law_word", "_law_many_here", "_law_rows"] (up K (sp_w_refusals_right T)) := by
  refine FnG.okD T.F_w_refusals_right sc_w_refusals_right (fun ds M P X' h => h.1) (fun cdv A outer s H E hG hr => ?_)
  have hu := hu_of hr
  refine ⟨_, (pss_cons (ps_set (i := 4) sc_w_refusals_right.nd rfl (Or.inl rfl) (pe_call (ok_w_signs T) (hr.mono (by decide)) (by rfl) T.m_w_signs T.F_w_signs.kp T.b_w_signs .nil pass0 (pa_cons (pe_call (ok_w_take T) (hr.mono (by decide)) (by rfl) T.m_w_take T.F_w_take.kp T.b_w_take .nil pass0 (pa_cons (pv 0) (pa_cons (pv 3) pa_nil))) pa_nil)))
      (pss_cons (ps_set (i := 5) sc_w_refusals_right.nd rfl (Or.inl rfl) (pe_lst (pa_cons (pe_call (ok_w_signs T) (hr.mono (by decide)) (by rfl) T.m_w_signs T.F_w_signs.kp T.b_w_signs .nil pass0 (pa_cons (pv 3) pa_nil)) (pa_cons (pe_call (ok_w_signs T) (hr.mono (by decide)) (by rfl) T.m_w_signs T.F_w_signs.kp T.b_w_signs .nil pass0 (pa_cons (pe_op op_add (pv 3) (pe_call (ok_w_take T) (hr.mono (by decide)) (by rfl) T.m_w_take T.F_w_take.kp T.b_w_take .nil pass0 (pa_cons (pv 0) (pa_cons pe_int pa_nil)))) pa_nil)) (pa_cons (pe_op op_add_str (pv 4) pe_str) (pa_cons pe_str (pa_cons pe_non (pa_cons pe_int (pa_cons (pe_lst (pa_cons (pv 4) pa_nil)) (pa_cons (pe_op op_mulS pe_str pe_int) (pa_cons pe_bl pa_nil)))))))))))
      (pss_cons (ps_set (i := 6) sc_w_refusals_right.nd rfl (Or.inl rfl) (pe_ix (ix_listK (K := K) rfl) (pv 5) (pe_call (ok_w_take T) (hr.mono (by decide)) (by rfl) T.m_w_take T.F_w_take.kp T.b_w_take .nil pass0 (pa_cons (pv 0) (pa_cons pe_int pa_nil))) (fun _ _ => rfl)))
      (pss_cons (ps_set (i := 7) sc_w_refusals_right.nd rfl (Or.inl rfl) (pe_ix (ix_listK (K := K) rfl) (pv 5) (pe_call (ok_w_take T) (hr.mono (by decide)) (by rfl) T.m_w_take T.F_w_take.kp T.b_w_take .nil pass0 (pa_cons (pv 0) (pa_cons pe_int pa_nil))) (fun _ _ => rfl)))
      (pss_cons (ps_if (pt_cmpR op_ne (pe_callG (ok_w_refused T) hG (hr.mono (by decide)) (by rfl) T.m_w_refused T.F_w_refused.kp T.b_w_refused .nil pass0 (pa_cons (pv 1) (pa_cons (pv 2) (pa_cons (pv 6) (pa_cons (pv 7) pa_nil))))) (pe_callB (call_reprA (K := K) rfl hG hr.units) (by rfl) T.z_repr (by decide +kernel) (pa_cons (pe_tup (pa_cons pe_str (pa_cons (pv 6) pa_nil))) pa_nil)) (nomark _)) (pss_one (ps_ret pe_bl)) pss_nil)
      (pss_cons (ps_if (pt_cmpR op_ne (pe_callG (ok_w_refused T) hG (hr.mono (by decide)) (by rfl) T.m_w_refused T.F_w_refused.kp T.b_w_refused .nil pass0 (pa_cons pe_str (pa_cons pe_int (pa_cons (pv 6) (pa_cons (pv 6) pa_nil))))) (pe_callB (call_reprA (K := K) rfl hG hr.units) (by rfl) T.z_repr (by decide +kernel) (pa_cons (pe_tup (pa_cons pe_str (pa_cons pe_str pa_nil))) pa_nil)) (nomark _)) (pss_one (ps_ret pe_bl)) pss_nil)
      (pss_cons (ps_if (pt_cmpR op_ne (pe_callG (ok_w_refused T) hG (hr.mono (by decide)) (by rfl) T.m_w_refused T.F_w_refused.kp T.b_w_refused .nil pass0 (pa_cons (pv 1) (pa_cons (pv 2) (pa_cons (pv 4) (pa_cons (pv 6) pa_nil))))) (pe_callB (call_reprA (K := K) rfl hG hr.units) (by rfl) T.z_repr (by decide +kernel) (pa_cons (pe_tup (pa_cons pe_str (pa_cons (pv 6) pa_nil))) pa_nil)) (nomark _)) (pss_one (ps_ret pe_bl)) pss_nil)
      (pss_one (ps_ret (pe_cmpR op_eq (pe_callG (ok_w_refused T) hG (hr.mono (by decide)) (by rfl) T.m_w_refused T.F_w_refused.kp T.b_w_refused .nil pass0 (pa_cons (pv 1) (pa_cons pe_int (pa_cons (pv 6) (pa_cons (pv 4) pa_nil))))) (pe_callB (call_reprA (K := K) rfl hG hr.units) (by rfl) T.z_repr (by decide +kernel) (pa_cons (pe_tup (pa_cons pe_str (pa_cons pe_int pa_nil))) pa_nil)) (nomark _))))))))))), fun ds M P X' h => ?_⟩
  obtain ⟨_, b, z, n, h, M1, M2, o, s, rfl, rfl, hb, hsn, hz, hlo, hn, hR, k⟩ := h
  have hl1 := loK_one z
  obtain ⟨h1, h2⟩ := hR.le (by omega) hn
  have gk : GoodK (.str z) (.int (n : Nat)) z n := ⟨rfl, hz, rfl, hlo, hn⟩
  refine ds_fz ?_
  keq_hits
  refine take_i hb (by omega) (by omega) (by omega) fun g o1 g0 g1 hb1 => ?_
  obtain ⟨g, rfl⟩ := Int.eq_ofNat_of_zero_le g0
  keq_hits
  refine ⟨rfl, g, rfl, by omega, .keep ?_⟩
  have hgl := rowSg_len g
  refine dg_name ?_
  refine ds_seq (ds_asg (de_lstV ?_))
  keq_hits
  refine ⟨rfl, h, rfl, by omega, .keep ?_⟩
  keq_hits
  refine take_i hb1 (by omega) (by decide) (by decide) fun t o2 t0 t1 hb2 => ?_
  obtain ⟨t, rfl⟩ := Int.eq_ofNat_of_zero_le t0
  keq_hits
  refine ⟨rfl, h + t, by rw [show (h : Int) + (t : Nat) = ((h + t : Nat) : Int) by omega], by omega, .keep ?_⟩
  keq_hits
  refine dop_addS (by rw [strL_len]; exact Nat.le_of_lt (small5 (by show _ + 1 ≤ _; omega))) ?_
  rw [show (Str.ofString "2" : Str) = strL [50] from rfl, strL_app]
  keq_hits
  refine de_lstV ?_
  keq_hits
  refine ⟨by show 1 ≤ sizeLine; decide, ?_⟩
  keq_hits
  refine dop_mulS (n := 1501) (c := 48) rfl (by decide) ?_
  keq_hits
  refine ⟨by show 9 ≤ sizeLine; decide, ?_⟩
  have hall : ∀ d ∈ ([rowD1 h, rowD1 (h + t), .str (strL (rowSg g ++ [50])), .str "a", .non, .int 0, .lst [rowD1 g], .str (strL (List.replicate 1501 48)), .bl true] : List D), ThC d ∧ BadS d h := by
    intro d hd
    simp only [List.mem_cons, List.not_mem_nil, or_false] at hd
    have hr : ∀ k, k ≤ 1400 → h ≤ k → ThC (rowD1 k) ∧ BadS (rowD1 k) h := fun k hk hk2 => ⟨thc_l (row_cp k) (by have := rowSg_len k; omega), .inl ⟨k, rfl, hk2, hk⟩⟩
    rcases hd with rfl | rfl | rfl | rfl | rfl | rfl | rfl | rfl | rfl
    · exact hr h (by omega) (Nat.le_refl _)
    · exact hr (h + t) (by omega) (by omega)
    · refine ⟨thc_l (fun c hc => ?_) (by rw [List.length_append]; show _ + 1 ≤ _; omega), .inr ⟨⟨_, fun _ => .str _⟩, (fun z e => by cases e; rw [strL_len, List.length_append]; exact Nat.le_of_lt (small5 (by show _ + 1 ≤ _; omega))), ?_⟩⟩
      · rcases List.mem_append.mp hc with hc | hc
        · exact row_cp g c hc
        · rw [List.mem_singleton.mp hc]; decide
      · show (!decide _ && signsS _) = false
        rw [show signsS (strL (rowSg g ++ [50])) = false from List.all_eq_false.mpr ⟨50, List.mem_append_right _ List.mem_cons_self, by decide +kernel⟩, Bool.and_false]
    · exact ⟨⟨_, _, th_word (by decide +kernel), by decide⟩, .inr ⟨⟨_, fun _ => .str _⟩, (fun z e => by cases e; decide), by decide +kernel⟩⟩
    · exact ⟨⟨_, _, .non, by decide⟩, .inr ⟨⟨_, fun _ => .non⟩, (fun z e => by cases e), rfl⟩⟩
    · exact ⟨⟨_, _, .int (w := 1) (by decide) (by decide +kernel), by decide⟩, .inr ⟨⟨_, fun _ => .int _⟩, (fun z e => by cases e), rfl⟩⟩
    · exact ⟨⟨_, _, .lst (.cons (.str (x := strL (rowSg g)) (row_cp g)) .nil), by rw [strL_len]; omega⟩, .inr ⟨⟨_, fun _ => .lst .v⟩, (fun z e => by cases e), rfl⟩⟩
    · refine ⟨thc_l (fun c hc => by rw [List.eq_of_mem_replicate hc]; decide) (by rw [List.length_replicate]; decide), .inr ⟨⟨_, fun _ => .str _⟩, (fun z e => by cases e; rw [strL_len, List.length_replicate]; decide), ?_⟩⟩
      rw [signsB_str, strL_len, List.length_replicate, decide_eq_true (by decide)]
      rfl
    · exact ⟨⟨_, _, .bl true, by decide⟩, .inr ⟨⟨_, fun _ => .bl _⟩, (fun z e => by cases e), rfl⟩⟩
  have h9 : ([rowD1 h, rowD1 (h + t), .str (strL (rowSg g ++ [50])), .str "a", .non, .int 0, .lst [rowD1 g], .str (strL (List.replicate 1501 48)), .bl true] : List D).length = 9 := rfl
  have eSL : ([.str (strL (rowSg h)), .str (strL (rowSg (h + t))), .str (strL (rowSg g ++ [50])), .str "a", .non, .int 0, .lst [.str (strL (rowSg g))], .str (strL (List.replicate 1501 48)), .bl true] : List D) = [rowD1 h, rowD1 (h + t), .str (strL (rowSg g ++ [50])), .str "a", .non, .int 0, .lst [rowD1 g], .str (strL (List.replicate 1501 48)), .bl true] := rfl
  rw [eSL]
  generalize ([rowD1 h, rowD1 (h + t), .str (strL (rowSg g ++ [50])), .str "a", .non, .int 0, .lst [rowD1 g], .str (strL (List.replicate 1501 48)), .bl true] : List D) = SL at hall h9 ⊢
  have hk' : notKind (.str "paths") := ⟨⟨_, fun _ => .str _⟩, fun z e => by cases e; decide +kernel⟩
  keq_hits
  refine take_i hb2 (by omega) (by decide) (by decide) fun u o3 u0 u1 hb3 => ?_
  obtain ⟨u, rfl⟩ := Int.eq_ofNat_of_zero_le u0
  obtain ⟨bad, hbad⟩ : ∃ d, SL[u]? = some d := ⟨_, List.getElem?_eq_getElem (show u < SL.length by omega)⟩
  obtain ⟨⟨p, c, th, hc⟩, hB⟩ := hall bad (List.mem_of_getElem? hbad)
  refine dop_ixL (d := bad) .v (atI_nat' hbad) ?_
  keq_hits
  refine take_i hb3 (by omega) (by decide) (by decide) fun v o4 v0 v1 hb4 => ?_
  obtain ⟨v, rfl⟩ := Int.eq_ofNat_of_zero_le v0
  obtain ⟨lst, hlst⟩ : ∃ d, SL[v]? = some d := ⟨_, List.getElem?_eq_getElem (show v < SL.length by omega)⟩
  refine dop_ixL (d := lst) .v (atI_nat' hlst) ?_
  have big : ∀ {q c : Nat}, q ≤ 10 → c ≤ 50000 → (10 * q + 2) + 2 + (c + 2 + 0) + 3 ≤ sizeLine := fun h1 h2 => Nat.le_of_lt (Nat.lt_of_le_of_lt (show _ ≤ 60000 by omega) (by decide))
  keq_hits
  refine ⟨rfl, _, _, _, _, bad, "signs", rfl, ⟨3, p, c, th, by decide, by omega, .keep ?_⟩, .inr (.inr ⟨rfl, z, n, h, gk, hR, .inl ⟨hB, rfl⟩⟩)⟩
  keq_hits
  refine ⟨by show 2 ≤ sizeLine; decide, ?_⟩
  keq_hits
  refine dc_reprTh (.cons (th_word (n := 3) (z := "signs") (by decide +kernel)) (.cons th .nil)) (by decide) (big (q := 5) (by decide) hc) ?_
  keq_hits
  refine w_ifnd (fun e => absurd rfl e) (fun _ => ?_)
  keq_hits
  refine ⟨rfl, _, _, _, _, .str "paths", "kind", rfl, ⟨3, _, _, th_word (by decide +kernel), by decide, by decide, .keep ?_⟩, .inl ⟨rfl, hk', rfl⟩⟩
  keq_hits
  refine ⟨by show 2 ≤ sizeLine; decide, ?_⟩
  keq_hits
  refine dc_reprTh (.cons (th_word (n := 3) (z := "kind") (by decide +kernel)) (.cons (th_word (z := "paths") (by decide +kernel)) .nil)) (by decide) (by decide) ?_
  keq_hits
  refine w_ifnd (fun e => absurd rfl e) (fun _ => ?_)
  keq_hits
  refine ⟨rfl, _, _, _, _, bad, "signs", rfl, ⟨3, p, c, th, by decide, by omega, .keep ?_⟩, .inr (.inr ⟨rfl, z, n, h, gk, hR, .inr ⟨g, rfl, by omega, hB, rfl⟩⟩)⟩
  keq_hits
  refine ⟨by show 2 ≤ sizeLine; decide, ?_⟩
  keq_hits
  refine dc_reprTh (.cons (th_word (n := 3) (z := "signs") (by decide +kernel)) (.cons th .nil)) (by decide) (big (q := 5) (by decide) hc) ?_
  keq_hits
  refine w_ifnd (fun e => absurd rfl e) (fun _ => ?_)
  keq_hits
  have t1001 : Th 3 (.int 1001) (.int 1001) 4 := .int (by decide) (by decide +kernel)
  refine ⟨rfl, _, _, _, _, .int 1001, "number", rfl, ⟨3, _, _, t1001, by decide, by decide, .keep ?_⟩, .inr (.inl ⟨rfl, ⟨z, rfl, hz, ?_⟩, rfl⟩)⟩
  rotate_left
  · show (decide _ && decide _) = false
    rw [decide_eq_false (p := (1001 : Int) ≤ 1000) (by decide), Bool.and_false]
  keq_hits
  refine ⟨by show 2 ≤ sizeLine; decide, ?_⟩
  keq_hits
  refine dc_reprTh (.cons (th_word (n := 3) (z := "number") (by decide +kernel)) (.cons t1001 .nil)) (by decide) (by decide) ?_
  keq_hits
  rw [decide_eq_true rfl]
  exact .keep (k o4 (hb4.le (by omega)))
end

def sizeK (z : Str) (n : Nat) : Nat := if z = "pair" then 2 else n
theorem kwN_l (z : Str) (n : Nat) : kwN z n = lettersL (sizeK z n) := by
  unfold kwN sizeK
  split <;> rfl
def dueK (z : Str) (n i j : Nat) : Nat := if z = "pair" then n * (if i = j then 0 else 1) else stepK z n i j
theorem kw_far {z : Str} {n i j : Nat} (hlo : loK z ≤ n) (hn : z = "pair" ∨ n ≤ 12) (hn2 : n ≤ 1000) (hi : i < sizeK z n) (hj : j < sizeK z n) : dist (kwN z n) (kwT z n) (nmL i) (nmL j) = some ((dueK z n i j : Nat) : Int) := by
  have h0 := loK_one z
  by_cases hp : z = "pair"
  · have e1 : kwN z n = [nmL 0, nmL 1] := if_pos hp
    have e2 : kwT z n = [(nmL 0, nmL 1, (n : Int))] := if_pos hp
    have e3 : sizeK z n = 2 := if_pos hp
    have e4 : dueK z n i j = n * (if i = j then 0 else 1) := if_pos hp
    rw [e1, e2, e4]
    exact pair_dist (by omega) hn2 (by omega) (by omega)
  · have e1 : kwN z n = lettersL n := if_neg hp
    have e3 : sizeK z n = n := if_neg hp
    have e4 : dueK z n i j = stepK z n i j := if_neg hp
    rw [e1, e4]
    exact kw_dist hlo (hn.resolve_left hp) hp (by omega) (by omega)
theorem kwT_len {z : Str} {n : Nat} (h : 1 ≤ n) : (kwT z n).length + 1 = sizeK z n + (if z = "ring" then 1 else 0) := by
  unfold kwT sizeK
  by_cases hp : z = "pair"
  · rw [if_pos hp, if_pos hp, if_neg fun q => by rw [q] at hp; exact absurd hp (by decide +kernel)]; rfl
  · rw [if_neg hp, if_neg hp, List.length_append, List.length_map, List.length_range]
    split <;> simp <;> omega
/-- the rows' numbers -/
structure RowsAt (z : Str) (n h : Nat) (rn : Nat → Nat) : Prop where
  lt : ∀ i, i < sizeK z n → rn i < h
  far : ∀ i j, i < sizeK z n → j < sizeK z n → farK z n (rn i) (rn j) = some (dueK z n i j)
theorem rows_at {z : Str} {n : Nat} (hp : z ≠ "pair") : RowsAt z n n id := ⟨fun i hi => by rw [show sizeK z n = n from if_neg hp] at hi; exact hi, fun i j _ _ => by
  rw [show dueK z n i j = stepK z n i j from if_neg hp]; exact farK_step hp n i j⟩
theorem rows_at_pair {z : Str} {n h l : Nat} (hp : z = "pair") (hh : HPair n h) (hl : ((pairsTo h).take n)[n - 1]? = some (l, h - 1)) (h1 : 1 ≤ n) : RowsAt z n h (fun i => if i = 0 then l else h - 1) := by
  rw [List.getElem?_take, if_pos (by omega)] at hl
  have h2 := pairsTo_lt h _ (List.mem_of_getElem? hl)
  have h3 := pairsTo_ix hl
  simp only at h2 h3
  have e3 : sizeK z n = 2 := if_pos hp
  refine ⟨fun i hi => ?_, fun i j hi hj => ?_⟩
  · show (if i = 0 then l else h - 1) < h
    split <;> omega
  · rw [e3] at hi hj
    have e4 : dueK z n i j = n * (if i = j then 0 else 1) := if_pos hp
    rw [e4]
    have hpf : pairFar n l (h - 1) = some n := by
      unfold pairFar
      rw [if_pos (by omega)]
      exact congrArg some (by omega)
    have hc : (i = j) ∨ (i = 0 ∧ j = 1) ∨ (i = 1 ∧ j = 0) := by omega
    show farK z n (if i = 0 then l else h - 1) (if j = 0 then l else h - 1) = _
    rcases hc with rfl | ⟨rfl, rfl⟩ | ⟨rfl, rfl⟩
    · rw [if_pos rfl, Nat.mul_zero]; exact if_pos rfl
    · have ne : l ≠ h - 1 := by omega
      have e5 : farK z n l (h - 1) = pairFar n (min l (h - 1)) (max l (h - 1)) := by unfold farK; rw [if_neg ne, if_pos hp]
      show farK z n l (h - 1) = some (n * 1)
      rw [e5, Nat.mul_one, show min l (h - 1) = l by omega, show max l (h - 1) = h - 1 by omega, hpf]
    · have ne : h - 1 ≠ l := by omega
      have e5 : farK z n (h - 1) l = pairFar n (min (h - 1) l) (max (h - 1) l) := by unfold farK; rw [if_neg ne, if_pos hp]
      show farK z n (h - 1) l = some (n * 1)
      rw [e5, Nat.mul_one, show min (h - 1) l = l by omega, show max (h - 1) l = h - 1 by omega, hpf]
theorem letters_okD {m : Nat} (h : m ≤ 12) : ((lettersL m).map D.str).all (okD 0) = true := List.all_eq_true.mpr fun d hd => by
  obtain ⟨a, ha, rfl⟩ := List.mem_map.mp hd
  obtain ⟨i, hi, rfl⟩ := List.mem_map.mp ha
  have hi := List.mem_range.mp hi
  refine List.all_eq_true.mpr fun c hc => decide_eq_true ?_
  have : c ∈ [97 + i] := hc
  rw [List.mem_singleton.mp this]
  omega
def sp_w_web_right {K : PySem.W.Frag} {mg : Str → Option Value} (_ : Tx K mg) : DSp := fun ds M P _ => ds.length = 2 ∧ ∃ (z : Str) (n : Nat), ds = [.str z, .int n] ∧ z ∈ kindsL ∧ loK z ≤ n ∧ n ≤ 1000 ∧ P (.bl true) M
section
variable {P : Program} {w : World} {K : PySem.W.Frag} {mg : Str → Option Value} {base : Heap}
theorem ok_w_web_right (T : Tx K mg) : FnOk P w K mg base CX0 7 T.a_w_web_right T.fd_w_web_right ["_law_word", "_law_many_here"] (up K (sp_w_web_right T)) := by
  refine Fun.okD0 T.F_w_web_right sc_w_web_right (fun ds M P X' h => h.1) (fun cdv A outer s H E hr => ?_)
  have hu := hu_of hr
  refine ⟨_, (pss_cons (ps_if (PW.pt (pw_and (pt_cmpR op_ne (pv 0) pe_str (nomark _)) (pw_and1 (pt_cmpR op_gt (pv 1) pe_int (nomark _))))) (pss_cons (ps_set (i := 5) sc_w_web_right.nd rfl (Or.inl rfl) pe_non)
      (pss_cons (ps_try_asD (K := K) (i := 6) rfl rfl rfl sc_w_web_right.nd rfl rfl ⟨by rfl, by decide, .inl T.m_NoNumber⟩ takes_none5 (fun W pn xe tk po => (pss_one (ps_expr (pe_callS (ok_kind_web T) (hr.mono (by decide)) (by rfl) T.m_kind_web T.F_kind_web.kp T.b_kind_web (fun σ => passAt tk σ) (pa_cons (pv 0) (pa_cons (pv 1) pa_nil)))))) (fun a oe cls dd pn hz hf => (pss_one (ps_set (i := 5) sc_w_web_right.nd rfl (Or.inl rfl) (pe_xf T.xf_NoNumber T.no_NoNumber_found hz hf (pv 6))))))
      (pss_one (ps_ret (pe_cmpR op_eq (pv 5) (pv 1) (nomark _)))))) pss_nil)
      (pss_cons (ps_set (i := 2) sc_w_web_right.nd rfl (Or.inl rfl) (pe_call (ok_kind_web T) (hr.mono (by decide)) (by rfl) T.m_kind_web T.F_kind_web.kp T.b_kind_web .nil passF (pa_cons (pv 0) (pa_cons (pv 1) pa_nil))))
      (pss_cons (ps_set (i := 3) sc_w_web_right.nd rfl (Or.inl rfl) (pe_callTy (call_list_strK rfl) (by rfl) T.z_list (by decide +kernel) (pa_cons (pe_slice sl_str pe_str po_none (po_some (pe_ifExp (pt_cmpR op_eq (pv 0) pe_str (nomark _)) pe_int (pv 1)))) pa_nil)))
      (pss_cons (ps_if (pt_cmpR (op_neDK (K := K) rfl hr.units) (pe_meth0 (pv 2) T.cl_Web T.mm_Web_places (ok_Web_places T) (hr.mono (by decide)) T.b_Web_places .nil pass0) (pv 3) (nomark _)) (pss_one (ps_ret pe_bl)) pss_nil)
      (pss_cons (ps_set (i := 4) sc_w_web_right.nd rfl (Or.inl rfl) (pe_call (ok_kind_rows T) (hr.mono (by decide)) (by rfl) T.m_kind_rows T.F_kind_rows.kp T.b_kind_rows .nil passF (pa_cons (pv 0) (pa_cons (pv 1) pa_nil))))
      (pss_cons (ps_if (pt_cmpR op_eq (pv 0) pe_str (nomark _)) (pss_one (ps_set (i := 4) sc_w_web_right.nd rfl (Or.inl rfl) (pe_callTy (call_list_ofK (K := K) rfl) (by rfl) T.z_list (by decide +kernel) (pa_cons (pe_ix (ix_listK (K := K) rfl) (pv 4) (pe_op op_sub (pv 1) pe_int) (fun _ _ => rfl)) pa_nil)))) pss_nil)
      (pss_cons (ps_for PassesOwn.never rfl (pi_enumK (K := K) rfl (by rfl) T.z_enumerate (pa_cons (pv 3) pa_nil)) (pg_tupK (K := K) rfl rfl (pgs_cons (pg_name (i := 7) sc_w_web_right.nd rfl (Or.inl rfl)) (pgs_cons (pg_name (i := 8) sc_w_web_right.nd rfl (Or.inl rfl)) pgs_nil))) (pss_one (ps_for PassesOwn.never rfl (pi_enumK (K := K) rfl (by rfl) T.z_enumerate (pa_cons (pv 3) pa_nil)) (pg_tupK (K := K) rfl rfl (pgs_cons (pg_name (i := 9) sc_w_web_right.nd rfl (Or.inl rfl)) (pgs_cons (pg_name (i := 10) sc_w_web_right.nd rfl (Or.inl rfl)) pgs_nil))) (pss_cons (ps_set (i := 11) sc_w_web_right.nd rfl (Or.inl rfl) (pe_ifExp (pt_cmpR op_ne (pv 0) pe_str (nomark _)) (pe_call (ok_w_due T) (hr.mono (by decide)) (by rfl) T.m_w_due T.F_w_due.kp T.b_w_due .nil pass0 (pa_cons (pv 0) (pa_cons (pv 1) (pa_cons (pv 7) (pa_cons (pv 9) pa_nil))))) (pe_op op_mul (pv 1) (pe_callTy call_int1 (by rfl) T.z_int (by decide +kernel) (pa_cons (pe_cmpR op_ne (pv 7) (pv 9) (nomark _)) pa_nil)))))
      (pss_one (ps_if (PW.pt (pw_or (pt_cmpR op_ne (pe_call (ok_far T) (hr.mono (by decide)) (by rfl) T.m_far T.F_far.kp T.b_far .nil pass0 (pa_cons (pv 2) (pa_cons (pv 8) (pa_cons (pv 10) pa_nil)))) (pv 11) (nomark _)) (pw_or1 (pt_cmpR op_ne (pe_call (ok_kind_far T) (hr.mono (by decide)) (by rfl) T.m_kind_far T.F_kind_far.kp T.b_kind_far .nil passF (pa_cons (pv 0) (pa_cons (pv 1) (pa_cons (pe_ix (ix_listK (K := K) rfl) (pv 4) (pv 7) (fun _ _ => rfl)) (pa_cons (pe_ix (ix_listK (K := K) rfl) (pv 4) (pv 9) (fun _ _ => rfl)) pa_nil))))) (pv 11) (nomark _))))) (pss_one (ps_ret pe_bl)) pss_nil))))))
      (pss_one (ps_ret (pe_cmpR op_eq (pe_callB (call_len_seqK (K := K) rfl) (by rfl) T.z_len (by decide +kernel) (pa_cons (pe_meth0 (pv 2) T.cl_Web T.mm_Web_ties (ok_Web_ties T) (hr.mono (by decide)) T.b_Web_ties .nil pass0) pa_nil)) (pe_op op_add (pe_op op_sub (pe_callB (call_len_seqK (K := K) rfl) (by rfl) T.z_len (by decide +kernel) (pa_cons (pv 3) pa_nil)) pe_int) (pe_callTy call_int1 (by rfl) T.z_int (by decide +kernel) (pa_cons (pe_cmpR op_eq (pv 0) pe_str (nomark _)) pa_nil))) (nomark _))))))))))), fun ds M P X' h => ?_⟩
  obtain ⟨_, z, n, rfl, hz, hlo, hn, k⟩ := h
  have hl1 := loK_one z
  refine ds_fz ?_
  by_cases hbig : z ≠ "pair" ∧ 12 < n
  · obtain ⟨hp, hgt⟩ := hbig
    keq_hits
    rw [decide_eq_false hp]
    keq_hits
    rw [show decide ((12 : Int) < (n : Nat)) = true from decide_eq_true (by omega)]
    keq_hits
    refine ds_try_as fun W' => ?_
    keq_hits
    refine ⟨rfl, z, n, rfl, hz, hlo, hn, .inr ⟨hp, hgt, true, exm_of T.ox_NoNumber T.sx_NoNumber_NoNumber, fun _ a dd => ?_, fun e => by cases e⟩⟩
    keq_hits
    refine de_xf ?_
    keq_hits
    refine ⟨rfl, _, _, rfl, rfl, ?_⟩
    keq_hits
    rw [decide_eq_true rfl]
    exact .keep k
  have h12 : z = "pair" ∨ n ≤ 12 := by
    by_cases hp : z = "pair"
    · exact .inl hp
    · exact .inr (Nat.le_of_not_lt fun q => hbig ⟨hp, q⟩)
  have hsz : sizeK z n ≤ 12 := by
    unfold sizeK
    split
    · decide
    · rename_i q; exact h12.resolve_left q
  have gk : GoodK (.str z) (.int (n : Nat)) z n := ⟨rfl, hz, rfl, hlo, hn⟩
  have okN := kwN_ok (z := z) (n := n) (by omega) h12
  have okT := kwT_ok hlo h12 hn
  refine ds_seq (ds_cut (fun e m => e = startD slots_w_web_right [.str z, .int (n : Nat)] ∧ M = m) ?_ ?_)
  · keq_hits
    by_cases hp : z = "pair"
    · rw [decide_eq_true hp]
      keq_hits
      exact ⟨rfl, rfl⟩
    · rw [decide_eq_false hp]
      keq_hits
      have h12' := h12.resolve_left hp
      rw [show decide ((12 : Int) < (n : Nat)) = false from decide_eq_false (by omega)]
      keq_hits
      exact ⟨rfl, rfl⟩
  rintro e m ⟨rfl, rfl⟩
  keq_hits
  refine ⟨rfl, z, n, rfl, hz, hlo, hn, .inl ⟨h12, .keep ?_⟩⟩
  refine dg_name ?_
  refine ds_seq (ds_cut (fun e mm => ∃ a, e = [some (.str z), some (.int (n : Nat)), some (webD T.C_Web (kwN z n) (kwT z n)), some (.loc a), none, none, none, none, none, none, none, none] ∧ mm = (a, .lst ((lettersL (sizeK z n)).map D.str)) :: M) ?_ ?_)
  · keq_hits
    by_cases hp : z = "pair"
    · rw [decide_eq_true hp]
      keq_hits
      refine dsl_s (by decide) ?_
      keq_hits
      refine dc_listS (Nat.le_trans (cutS_len _ _ _) (by decide)) fun a => ?_
      keq_hits
      refine ⟨a, rfl, ?_⟩
      rw [show sizeK z n = 2 from if_pos hp, ← letters_cut (by decide)]
      rfl
    · rw [decide_eq_false hp]
      keq_hits
      refine dsl_s (by decide) ?_
      keq_hits
      refine dc_listS (Nat.le_trans (cutS_len _ _ _) (by decide)) fun a => ?_
      keq_hits
      refine ⟨a, rfl, ?_⟩
      rw [show sizeK z n = n from if_neg hp, ← letters_cut (h12.resolve_left hp)]
  rintro e mm ⟨a, rfl, rfl⟩
  refine ds_frz (i := 3) rfl (.lst (M1 := []) (.keep ?_))
  keq_hits
  refine ⟨_, .v, rfl, ?_⟩
  keq_hits
  refine ⟨rfl, kwN z n, kwT z n, rfl, fun b => .lst (M1 := []) (.keep ?_)⟩
  rw [kwN_l]
  keq_hits
  refine dop_neL (n := 0) .v .v (letters_okD hsz) (letters_okD hsz) (by decide) ?_
  rw [eqv_selfL (letters_okD hsz)]
  keq_hits
  refine ⟨rfl, _, _, rfl, .inl ⟨z, n, gk, fun h a hR => .lst (M1 := []) (.keep ?_)⟩⟩
  obtain ⟨hh1, hh2⟩ := hR.le (by omega) hn
  refine dg_name ?_
  refine ds_seq (ds_cut (fun e mm => ∃ rn : Nat → Nat, RowsAt z n h rn ∧ e = [some (.str z), some (.int (n : Nat)), some (webD T.C_Web (lettersL (sizeK z n)) (kwT z n)), some (.lst ((lettersL (sizeK z n)).map D.str)), some (.lst ((List.range (sizeK z n)).map fun i => rowD1 (rn i))), none, none, none, none, none, none, none] ∧ M = mm) ?_ ?_)
  · keq_hits
    by_cases hp : z = "pair"
    · rw [decide_eq_true hp]
      have hh : HPair n h := hR.elim (fun r => r.2) fun r => absurd hp r.1
      obtain ⟨l, hl, hlen⟩ := pairs_last hh
      have e1 : rowsK z n h = ((pairsTo h).take n).map pairRD := if_pos hp
      rw [e1]
      refine ds_asg (de_fz ?_)
      keq_hits
      rw [show (n : Int) - 1 = ((n - 1 : Nat) : Int) by omega]
      refine dop_ixL (d := pairRD (l, h - 1)) .v (atI_nat' (by rw [List.getElem?_map, hl]; rfl)) ?_
      keq_hits
      refine dc_listT fun q => .lst (M1 := []) (.keep ?_)
      keq_hits
      refine ⟨_, rows_at_pair hp hh hl (by omega), ?_, rfl⟩
      rw [show sizeK z n = 2 from if_pos hp]
      rfl
    · rw [decide_eq_false hp]
      have e1 : rowsK z n h = (List.range n).map rowD1 := if_neg hp
      have e2 : h = n := hR.elim (fun q => absurd q.1 hp) fun q => q.2
      rw [e1]
      keq_hits
      refine ⟨id, by rw [e2]; exact rows_at hp, ?_, rfl⟩
      rw [show sizeK z n = n from if_neg hp]
      rfl
  rintro e mm ⟨rn, hrn, rfl, rfl⟩
  have okN' := okN
  have okT' := okT
  rw [kwN_l] at okN' okT'
  keq_hits
  refine ds_for (di_enum ?_)
  keq_hits
  refine ⟨_, (lettersL (sizeK z n)).map D.str, rfl, .v, fun i e mm' => ∃ e7 e8 e9 e10 e11, e = [some (.str z), some (.int (n : Nat)), some (webD T.C_Web (lettersL (sizeK z n)) (kwT z n)), some (.lst ((lettersL (sizeK z n)).map D.str)), some (.lst ((List.range (sizeK z n)).map fun i => rowD1 (rn i))), none, none, e7, e8, e9, e10, e11] ∧ M = mm', ⟨_, _, _, _, _, rfl, rfl⟩, fun _ _ _ _ _ => .v, ?_, ?_⟩
  · rintro i x e mm' hx ⟨e7, e8, e9, e10, e11, rfl, rfl⟩
    rw [enumD_get, List.getElem?_map] at hx
    have hi : i < sizeK z n := by
      refine Nat.lt_of_not_le fun q => ?_
      rw [List.getElem?_eq_none (by rw [lettersL_len]; exact q)] at hx
      cases hx
    rw [lettersL_get hi] at hx
    obtain rfl := (Option.some.inj hx).symm
    refine dg_tup rfl ?_
    keq_hits
    refine ds_for (di_enum ?_)
    keq_hits
    refine ⟨_, (lettersL (sizeK z n)).map D.str, rfl, .v, fun j e mm' => ∃ e9 e10 e11, e = [some (.str z), some (.int (n : Nat)), some (webD T.C_Web (lettersL (sizeK z n)) (kwT z n)), some (.lst ((lettersL (sizeK z n)).map D.str)), some (.lst ((List.range (sizeK z n)).map fun i => rowD1 (rn i))), none, none, some (.int (i : Nat)), some (.str (nmL i)), e9, e10, e11] ∧ M = mm', ⟨_, _, _, rfl, rfl⟩, fun _ _ _ _ _ => .v, ?_, ?_⟩
    rotate_left
    · rintro e mm' ⟨e9, e10, e11, rfl, rfl⟩
      exact ⟨_, _, _, _, _, rfl, rfl⟩
    rintro j x e mm' hx ⟨e9, e10, e11, rfl, rfl⟩
    rw [enumD_get, List.getElem?_map] at hx
    have hj : j < sizeK z n := by
      refine Nat.lt_of_not_le fun q => ?_
      rw [List.getElem?_eq_none (by rw [lettersL_len]; exact q)] at hx
      cases hx
    rw [lettersL_get hj] at hx
    obtain rfl := (Option.some.inj hx).symm
    have hfar := kw_far hlo h12 hn hi hj
    rw [kwN_l] at hfar
    refine dg_tup rfl ?_
    refine dgs_cons (dg_name (dgs_cons (dg_name (dgs_nil ?_))))
    refine ds_seq (ds_cut (fun e m2 => e = [some (.str z), some (.int (n : Nat)), some (webD T.C_Web (lettersL (sizeK z n)) (kwT z n)), some (.lst ((lettersL (sizeK z n)).map D.str)), some (.lst ((List.range (sizeK z n)).map fun i => rowD1 (rn i))), none, none, some (.int (i : Nat)), some (.str (nmL i)), some (.int (j : Nat)), some (.str (nmL j)), some (.int (dueK z n i j : Nat))] ∧ M = m2) ?_ ?_)
    · keq_hits
      by_cases hp : z = "pair"
      · rw [decide_eq_true hp]
        keq_hits
        refine dop_rI (.inl ⟨by omega, by omega⟩) ?_
        keq_hits
        refine ⟨?_, rfl⟩
        have e4 : dueK z n i j = n * (if i = j then 0 else 1) := if_pos hp
        rw [e4]
        by_cases hij : i = j
        · have e5 : decide (((i : Nat) : Int) = ((j : Nat) : Int)) = true := decide_eq_true (by omega)
          rw [e5, if_pos hij]
          simp
        · have e5 : decide (((i : Nat) : Int) = ((j : Nat) : Int)) = false := decide_eq_false (by omega)
          rw [e5, if_neg hij]
          simp
      · rw [decide_eq_false hp]
        have e2 : h = n := hR.elim (fun q => absurd q.1 hp) fun q => q.2
        have e3 : sizeK z n = n := if_neg hp
        keq_hits
        refine ⟨rfl, z, n, n, i, j, rfl, hz, hlo, hn, .inr ⟨hp, rfl⟩, by omega, by omega, .keep ?_⟩
        rw [farK_step hp]
        keq_hits
        refine ⟨?_, rfl⟩
        rw [show dueK z n i j = stepK z n i j from if_neg hp]
        rfl
    rintro e m2 ⟨rfl, rfl⟩
    keq_hits
    refine ⟨rfl, _, _, nmL i, nmL j, rfl, okN', okT', lettersL_mem hi, lettersL_mem hj, .keep ?_⟩
    rw [hfar]
    keq_hits
    refine dop_neI (i := ((dueK z n i j : Nat) : Int)) ?_
    rw [decide_eq_true rfl]
    keq_hits
    refine dop_ixL (d := rowD1 (rn i)) .v (atI_nat' (by rw [List.getElem?_map, List.getElem?_range hi]; rfl)) ?_
    keq_hits
    refine dop_ixL (d := rowD1 (rn j)) .v (atI_nat' (by rw [List.getElem?_map, List.getElem?_range hj]; rfl)) ?_
    keq_hits
    refine ⟨rfl, _, _, _, _, rfl, .inl ⟨z, n, h, rn i, rn j, gk, hR, rfl, hrn.lt i hi, rfl, hrn.lt j hj, .keep ?_⟩⟩
    rw [hrn.far i j hi hj]
    keq_hits
    refine dop_neI (i := ((dueK z n i j : Nat) : Int)) ?_
    rw [decide_eq_true rfl]
    keq_hits
    exact ⟨_, _, _, rfl, rfl⟩
  · rintro e mm' ⟨e7, e8, e9, e10, e11, rfl, rfl⟩
    keq_hits
    refine ⟨_, .v, rfl, ?_⟩
    keq_hits
    refine ⟨rfl, _, _, rfl, okT', fun zs q hp hs => .lst (M1 := []) (.keep ?_)⟩
    keq_hits
    refine dc_lenL .v ?_
    have hlz : (zs.map (tiK (lettersL (sizeK z n)) (kwT z n))).length = (kwT z n).length := by rw [List.length_map, hp.length_eq]; unfold pairsZ; rw [List.length_map]
    rw [hlz]
    keq_hits
    refine dc_lenL .v ?_
    rw [List.length_map, lettersL_len]
    keq_hits
    have hk := kwT_len (z := z) (n := n) (by omega)
    rw [show decide (((kwT z n).length : Int) = (sizeK z n : Int) - 1 + (if decide (z = "ring") = true then 1 else 0)) = true from decide_eq_true (by
      by_cases hr : z = "ring"
      · rw [decide_eq_true hr, if_pos rfl]; rw [if_pos hr] at hk; omega
      · rw [decide_eq_false hr, if_neg (by decide)]; rw [if_neg hr] at hk; omega)]
    exact .keep k
end

def sp_law {K : PySem.W.Frag} {mg : Str → Option Value} (_ : Tx K mg) : DSp := fun ds _ P _ => ds.length = 1 ∧ ∃ ns : List Int, ds = [.scr ns] ∧ ∀ m, P (.bl true) m
section
variable {P : Program} {w : World} {K : PySem.W.Frag} {mg : Str → Option Value} {base : Heap}
theorem ok_law (T : Tx K mg) : FnG P w K mg base CX0 8 T.a_law T.fd_law ["_law_script"] (up K (sp_law T)) := by
  refine FnG.okD T.F_law sc_law (fun ds M P X' h => h.1) (fun cdv A outer s H E hG hr => ?_)
  have hu := hu_of hr
  refine ⟨_, (pss_cons (ps_for PassesOwn.never rfl (pi_range1 rfl T.z_range (pa_cons (pe_callB (call_max2 rfl) (by rfl) T.z_max (by decide +kernel) (pa_cons pe_int (pa_cons (pe_callB (call_min2 rfl) (by rfl) T.z_min (by decide +kernel) (pa_cons pe_int (pa_cons (pe_callB (call_len_seqK (K := K) rfl) (by rfl) T.z_len (by decide +kernel) (pa_cons (pv 0) pa_nil)) pa_nil))) pa_nil))) pa_nil)) (pg_name (i := 1) sc_law.nd rfl (Or.inl rfl)) (pss_cons (ps_set (i := 2) sc_law.nd rfl (Or.inl rfl) (pe_call (ok_w_box T) (hr.mono (by decide)) (by rfl) T.m_w_box T.F_w_box.kp T.b_w_box .nil pass0 (pa_cons (pe_call (ok_w_cell T) (hr.mono (by decide)) (by rfl) T.m_w_cell T.F_w_cell.kp T.b_w_cell .nil pass0 (pa_cons (pv 0) (pa_cons (pv 1) pa_nil))) pa_nil)))
      (pss_cons (ps_set (i := 3) sc_law.nd rfl (Or.inl rfl) (pe_ix (ix_listK (K := K) rfl) (pe_lst (pa_cons pe_str (pa_cons pe_str (pa_cons pe_str (pa_cons pe_str pa_nil))))) (pe_call (ok_w_take T) (hr.mono (by decide)) (by rfl) T.m_w_take T.F_w_take.kp T.b_w_take .nil pass0 (pa_cons (pv 2) (pa_cons pe_int pa_nil))) (fun _ _ => rfl)))
      (pss_cons (ps_set (i := 4) sc_law.nd rfl (Or.inl rfl) (pe_call (ok_w_take T) (hr.mono (by decide)) (by rfl) T.m_w_take T.F_w_take.kp T.b_w_take .nil pass0 (pa_cons (pv 2) (pa_cons pe_int pa_nil))))
      (pss_cons (ps_set (i := 5) sc_law.nd rfl (Or.inl rfl) (pe_call (ok_w_many T) (hr.mono (by decide)) (by rfl) T.m_w_many T.F_w_many.kp T.b_w_many .nil pass0 (pa_cons (pv 2) (pa_cons (pv 3) pa_nil))))
      (pss_cons (ps_if (pt_cmpR op_eq (pv 4) pe_int (nomark _)) (pss_one (ps_set (i := 5) sc_law.nd rfl (Or.inl rfl) (pe_op op_add (pe_ix (ix_listK (K := K) rfl) (pe_lst (pa_cons pe_int (pa_cons pe_int pa_nil))) (pe_callTy call_int1 (by rfl) T.z_int (by decide +kernel) (pa_cons (pe_cmpR op_ne (pv 3) pe_str (nomark _)) pa_nil)) (fun _ _ => rfl)) (pe_call (ok_w_take T) (hr.mono (by decide)) (by rfl) T.m_w_take T.F_w_take.kp T.b_w_take .nil pass0 (pa_cons (pv 2) (pa_cons pe_int pa_nil)))))) pss_nil)
      (pss_cons (ps_set (i := 6) sc_law.nd rfl (Or.inl rfl) (pe_ifExp (pt_cmpR op_eq (pv 3) pe_str (nomark _)) (pe_op op_add (pe_ix (ix_tupK (K := K) rfl) (pe_ix (ix_listK (K := K) rfl) (pe_call (ok_w_pairs T) (hr.mono (by decide)) (by rfl) T.m_w_pairs T.F_w_pairs.kp T.b_w_pairs .nil pass0 (pa_cons (pv 5) pa_nil)) (pe_un un_neg pe_int) (fun _ _ => rfl)) pe_int (fun _ _ => rfl)) pe_int) (pv 5)))
      (pss_cons (ps_if (PW.pt (pw_or (pt_not (pt_val (pe_callG (ok_w_asked_right T) hG (hr.mono (by decide)) (by rfl) T.m_w_asked_right T.F_w_asked_right.kp T.b_w_asked_right .nil pass0 (pa_cons (pv 2) (pa_cons (pv 3) (pa_cons (pv 5) (pa_cons (pv 6) pa_nil))))))) (pw_or1 (pt_not (pt_val (pe_callG (ok_w_refusals_right T) hG (hr.mono (by decide)) (by rfl) T.m_w_refusals_right T.F_w_refusals_right.kp T.b_w_refusals_right .nil pass0 (pa_cons (pv 2) (pa_cons (pv 3) (pa_cons (pv 5) (pa_cons (pv 6) pa_nil)))))))))) (pss_one (ps_ret pe_bl)) pss_nil)
      (pss_one (ps_if (pt_not (pt_val (pe_call (ok_w_web_right T) (hr.mono (by decide)) (by rfl) T.m_w_web_right T.F_w_web_right.kp T.b_w_web_right .nil pass0 (pa_cons (pv 3) (pa_cons (pv 5) pa_nil))))) (pss_one (ps_ret pe_bl)) pss_nil))))))))))
      (pss_one (ps_ret pe_bl))), fun ds M P X' h => ?_⟩
  obtain ⟨_, ns, rfl, k⟩ := h
  keq_hits
  refine ds_for (di_rng1 ?_)
  keq_hits
  refine dc_lenC ?_
  keq_hits
  refine ⟨_, rfl, by split <;> (try split) <;> omega, by split <;> (try split) <;> omega, fun i e _ => i ≤ 6 ∧ ∃ e1 e2 e3 e4 e5 e6, e = [some (.scr ns), e1, e2, e3, e4, e5, e6], ⟨by omega, _, _, _, _, _, _, rfl⟩, fun _ _ _ _ _ => trivial, ?_, ?_⟩
  rotate_left
  · rintro e mm ⟨_, e1, e2, e3, e4, e5, e6, rfl⟩
    keq_hits
    exact k _
  rintro i x e mm hx ⟨hi8, e1, e2, e3, e4, e5, e6, rfl⟩
  obtain ⟨hi, rfl⟩ := rngD_get hx
  have hi : i < 6 := by
    revert hi
    split <;> (try split) <;> omega
  keq_hits
  refine ⟨rfl, ns, _, rfl, by omega, by omega, fun c => .keep ?_⟩
  keq_hits
  refine ⟨rfl, c, rfl, fun b o hb => .keep ?_⟩
  refine dg_name ?_
  refine ds_seq (ds_asg (de_op (de_lstV ?_)))
  keq_hits
  refine ⟨by show 4 ≤ sizeLine; decide, ?_⟩
  keq_hits
  refine ⟨rfl, b, 4, [], mm, o, 0, rfl, rfl, hb, by decide, by decide, by decide, fun w o1 w0 w1 hb1 => .keep ?_⟩
  obtain ⟨w, rfl⟩ := Int.eq_ofNat_of_zero_le w0
  obtain ⟨z, hz⟩ : ∃ z, kindsL[w]? = some z := ⟨_, List.getElem?_eq_getElem (show w < 4 by omega)⟩
  have hzm := List.mem_of_getElem? hz
  refine dop_ixL (ds := kindsL.map D.str) (d := .str z) .v (atI_nat' (by rw [List.getElem?_map, hz]; rfl)) ?_
  keq_hits
  refine ⟨rfl, b, 2, [], mm, o1, _, rfl, rfl, hb1, by decide, by decide, by decide, fun f o2 f0 f1 hb2 => .keep ?_⟩
  keq_hits
  refine ⟨rfl, b, z, [], mm, o2, _, rfl, rfl, hb2, by decide, fun r o3 r0 r1 hb3 => .keep ?_⟩
  refine dg_name ?_
  refine ds_seq (ds_cut (fun e m2 => ∃ (n : Nat) (o4 : MO) (s : Nat), loK z ≤ n ∧ n ≤ 1000 ∧ s ≤ 100 ∧ BoxO s o4 ∧ e = [some (.scr ns), some (.int (0 + (i : Nat))), some (.loc b), some (.str z), some (.int f), some (.int (n : Nat)), e6] ∧ m2 = (b, o4) :: mm) ?_ ?_)
  · keq_hits
    refine w_ifd (fun e0 => ?_) (fun e0 => ?_)
    · keq_hits
      refine de_lstV ?_
      keq_hits
      refine ⟨by show 2 ≤ sizeLine; decide, ?_⟩
      keq_hits
      by_cases hr : z = "ring"
      · rw [decide_eq_true hr]
        refine dop_ixL (d := .int 3) .v rfl ?_
        keq_hits
        refine ⟨rfl, b, 10, [], mm, o3, _, rfl, rfl, hb3, by decide, by decide, by decide, fun g o4 g0 g1 hb4 => .keep ?_⟩
        keq_hits
        obtain ⟨g, rfl⟩ := Int.eq_ofNat_of_zero_le g0
        refine ⟨3 + g, o4, _, by rw [show loK z = 3 from if_pos hr]; omega, by omega, ?_, hb4, ?_, rfl⟩
        · decide
        · rw [show (3 : Int) + ((g : Nat) : Int) = ((3 + g : Nat) : Int) by omega]
          rfl
      · rw [decide_eq_false hr]
        refine dop_ixL (d := .int 1) .v rfl ?_
        keq_hits
        refine ⟨rfl, b, 10, [], mm, o3, _, rfl, rfl, hb3, by decide, by decide, by decide, fun g o4 g0 g1 hb4 => .keep ?_⟩
        keq_hits
        obtain ⟨g, rfl⟩ := Int.eq_ofNat_of_zero_le g0
        refine ⟨1 + g, o4, _, by rw [show loK z = 1 from if_neg hr]; omega, by omega, ?_, hb4, ?_, rfl⟩
        · decide
        · rw [show (1 : Int) + ((g : Nat) : Int) = ((1 + g : Nat) : Int) by omega]
          rfl
    · keq_hits
      exact ⟨r, o3, _, r0, r1, by decide, hb3, rfl, rfl⟩
  rintro e m2 ⟨n, o4, s, hlo, hn, hs, hb4, rfl, rfl⟩
  have hl1 := loK_one z
  refine ds_seq (ds_cut (fun e m2 => ∃ (h : Nat), RowsOf z n h ∧ e = [some (.scr ns), some (.int (0 + (i : Nat))), some (.loc b), some (.str z), some (.int f), some (.int (n : Nat)), some (.int (h : Nat))] ∧ m2 = (b, o4) :: mm) ?_ ?_)
  · keq_hits
    by_cases hp : z = "pair"
    · rw [decide_eq_true hp]
      keq_hits
      refine ⟨rfl, n, rfl, by omega, hn, fun h a hh => .lst (M1 := []) (.keep ?_)⟩
      obtain ⟨l, hl, hlen⟩ := pairs_last hh
      keq_hits
      refine dop_ixL (d := prI (l, h - 1)) .v (atI_last (by rw [List.length_map, hlen, List.getElem?_map, hl]; rfl)) ?_
      keq_hits
      refine dop_ixT (d := .int ((h - 1 : Nat) : Int)) rfl ?_
      keq_hits
      have h1 : 1 ≤ h := (RowsOf.le (.inl ⟨hp, hh⟩) (by omega) hn).1
      refine ⟨h, .inl ⟨hp, hh⟩, ?_, rfl⟩
      rw [show ((h - 1 : Nat) : Int) + 1 = ((h : Nat) : Int) by omega]
      rfl
    · rw [decide_eq_false hp]
      keq_hits
      exact ⟨n, .inr ⟨hp, rfl⟩, rfl, rfl⟩
  rintro e m2 ⟨h, hR, rfl, rfl⟩
  keq_hits
  refine ⟨rfl, b, z, n, h, [], mm, o4, s, rfl, rfl, hb4, by omega, hzm, hlo, hn, hR, fun o5 hb5 => .keep ?_⟩
  keq_hits
  refine ⟨rfl, b, z, n, h, [], mm, o5, _, rfl, rfl, hb5, by omega, hzm, hlo, hn, hR, fun o6 hb6 => .keep ?_⟩
  keq_hits
  refine ⟨rfl, z, n, rfl, hzm, hlo, hn, .keep ?_⟩
  keq_hits
  exact ⟨by omega, _, _, _, _, _, _, rfl⟩
end

def sp_law0 (K : PySem.W.Frag) : Sp := fun vs H Q _ => ∃ (a : Addr) (ns : List Int), vs = [.ref a] ∧ SqL K H a (ns.map V.int) ∧ ∀ H', Q (.bl true) H'
section
variable {P : Program} {w : World} {K : PySem.W.Frag} {mg : Str → Option Value} {base : Heap}
theorem FnG.imp {CX : CXT} {k : Nat} {f : Addr} {fd : FuncData} {ps : List Str} {sp sp' : Sp} (i : ∀ vs H Q E, sp' vs H Q E → sp vs H Q E) (h : FnG P w K mg base CX k f fd ps sp) : FnG P w K mg base CX k f fd ps sp' :=
  ⟨fun vs H Q E z => h.len vs H Q E (i _ _ _ _ z), fun A outer s H args us vs Q E hG hr e0 hb r z => h.run A outer s H args us vs Q E hG hr e0 hb r (i _ _ _ _ z)⟩
theorem up_law {K : PySem.W.Frag} {mg : Str → Option Value} (T : Tx K mg) : ∀ vs H Q E, sp_law0 K vs H Q E → up K (sp_law T) vs H Q E := fun vs H Q E ⟨a, ns, e, hs, q⟩ => by
  subst e
  refine ⟨H, [], [.scr ns], fun d _ => d = .bl true, fun _ _ _ => False, ⟨Same.refl H, .nil, fun p hp => by cases hp⟩, .cons (.scr hs) .nil, ⟨rfl, ns, rfl, fun _ => rfl⟩, fun F' v d H' M' s hr hv e => ?_, fun _ _ _ _ _ _ _ _ _ _ _ z => z.elim⟩
  subst e
  rw [hv.bl_inv]
  exact q H'
end

end Fm
namespace Fm
open PySem PySem.Spec PyProof.Rows L2 LiI
/-! ### the law's own call, where no guard is set -/
theorem law_callG {P : Program} {w : World} {K : PySem.W.Frag} {mg mb : Str → Option Value} {k : Nat} {fa a : Addr} {fd : FuncData} {x : Str} {sp : Sp} {s₁ : Shared} {vs : List Value} {ns : List Int}
    (KX : K.In s₁.heap) (hns : s₁.heap.Ns mainGlobals mg) (hb : s₁.heap.Ns builtinsNs mb) (hbb : ∀ x : Str, x ≠ "__name__" → mb x = bootBuiltins x) (hlim : s₁.heap.NoLimit) (hg : s₁.gens = #[])
    (ha : s₁.heap.get? a = some { cls := .type "list", data := .seq vs.toArray }) (hi : IntsAre vs ns) (hl : ns.length ≤ sizeLine) (hr : Room k callerA)
    (F : ∀ base : Heap, K.In base → base.Ns mainGlobals mg → FnG P w K mg base CX0 k fa fd [x] sp) (hbind : ∀ (s : Shared) (u : Value), BindsTo s fd ⟨[u], []⟩ [(x, u)])
    (hsp : ∀ H : Hp, SqL K H a (ns.map V.int) → sp [.ref a] H (fun v _ => v = .bl true) fun _ _ _ => False) :
    codeAny (model P w) callerA (.call (.ref fa) ⟨[.ref a], []⟩) (fun r s' => r = .ok (.ret (.bool true)) ∧ OldK s₁.heap s'.heap ∧ s'.os = s₁.os ∧ AllBare s'.gens) s₁ := by
  have rv := vals_ints hi
  -- the script stands alone in the abstract heap, or it is one of the module's own objects
  obtain ⟨H, hS, hok, hA, hF, hK⟩ : ∃ H : Hp, SqL K H a (ns.map V.int) ∧ HOk P w H s₁.heap ∧ (∀ b, H b ≠ none → b = a) ∧ (∀ b, H b = none ∨ ∃ o xs, H b = some (.frz o (.lst xs))) ∧ (H a ≠ none → K.lookup a = none) := by
    cases hk : K.lookup a with
    | some o =>
      have e := KX a o hk
      rw [ha] at e
      cases e
      exact ⟨fun _ => none, .inr ⟨_, vs.toArray, _, hk, rfl, rfl, rfl, by rw [List.size_toArray, hi.length]; exact hl, by simpa using rv⟩, fun _ _ z => (nomatch (show (none : Option HO) = some _ from z)), fun b z => absurd rfl z, fun _ => .inl rfl, fun z => absurd rfl z⟩
    | none =>
      refine ⟨upd (fun _ => none) a (.frz { cls := .type "list", data := .seq vs.toArray } (.lst (ns.map V.int))), .inl (.inr ⟨_, upd_same⟩), fun b u z => ?_, fun b z => ?_, fun b => ?_, fun _ => rfl⟩
      · by_cases q : b = a
        · subst q
          rw [upd_same] at z
          cases z
          exact ⟨ha, by rw [List.length_map]; exact hl, vs, _, rv, ha⟩
        · rw [upd_ne q] at z; cases z
      · by_cases q : b = a
        · exact q
        · exact absurd (upd_ne q) z
      · by_cases q : b = a
        · subst q; exact .inr ⟨_, _, upd_same⟩
        · exact .inl (upd_ne q)
  have dicts : ∀ {b : Addr} {o : Obj} {es : Array DictEntry} {ep : Nat}, s₁.heap.get? b = some o → o.data = .dict es ep → H b = none := fun {b o es ep} e d => by
    cases q : H b with
    | none => rfl
    | some u =>
      obtain rfl : b = a := hA b (by rw [q]; exact fun z => nomatch z)
      rw [ha] at e; cases e
      exact nomatch (show Data.seq vs.toArray _ = Data.dict es ep from d)
  have nsB : ∀ {b : Addr} {m : Str → Option Value}, s₁.heap.Ns b m → (hidT s₁.heap H).Ns b m := fun ⟨o, es, ep, e, d, r⟩ => ⟨o, es, ep, hidT_get e (dicts e d), d, r⟩
  have KB : K.In (hidT s₁.heap H) := fun b o e => hidT_get (KX b o e) (by
    cases q : H b with
    | none => rfl
    | some u =>
      obtain rfl : b = a := hA b (by rw [q]; exact fun z => nomatch z)
      rw [hK (by rw [q]; exact fun z => nomatch z)] at e; cases e)
  have e0 : Env0 P w K mg (hidT s₁.heap H) callerA [] s₁ H := ⟨rfl, ⟨KB, nsB hns, ⟨mb, nsB hb, hbb⟩, let ⟨mc, h1, h2⟩ := hlim; ⟨mc, nsB h1, h2⟩⟩, fun b o e => of_hidT e, Nat.le_of_eq (hidT_size _ _), trivial, fun b hb => absurd (show b ∈ ([] : List Addr) from hb) (by simp), hok, .of_eq hg⟩
  refine codeAny_mono ((F _ KB (nsB hns)).run callerA [] s₁ H ⟨[.ref a], []⟩ [.ref a] [.ref a] _ _ rfl hr e0 (hbind s₁ (.ref a)) (.cons rfl .nil) (hsp H hS)) fun r s' h => ?_
  cases r with
  | error e => exact False.elim h
  | ok fl =>
    cases fl with
    | next => exact False.elim h
    | brk => exact False.elim h
    | cont => exact False.elim h
    | ret u =>
      obtain ⟨v, H', os, bare, un, hok', r', q⟩ := h
      obtain rfl : v = .bl true := q
      obtain rfl : u = Value.bool true := r'
      refine ⟨rfl, OldK.of_keep fun b o e => ?_, os, bare⟩
      rcases hF b with z | ⟨ob, xs, z⟩
      · exact un.keep b o e z (fun z => absurd (show b ∈ ([] : List Addr) from z) (by simp)) (by simp)
      · obtain ⟨e1, _⟩ := hok b _ z
        obtain ⟨e2, _⟩ := hok' b _ (un.frzs b ob _ z)
        rw [e] at e1; cases e1
        exact e2
theorem walkG {l : PySem.W.OpenLaw} {q : Program} {loose : List Str} {XP : (Str → Option Value) → Heap → Prop} {YP : World → Heap → Prop} {d : DefRec} {K : Params → PySem.W.Frag} {k : Nat} {x : Str} {sp : PySem.W.Frag → Sp}
    (hr : Room k callerA) (hsp : ∀ (K : PySem.W.Frag) (H : Hp) (a : Addr) (ns : List Int), SqL K H a (ns.map V.int) → sp K [.ref a] H (fun v _ => v = .bl true) fun _ _ _ => False)
    (hn : l.most = some 63) (hdf : d.params.defaults = []) (hY : ∀ (w : World) (h : Heap), YP w h → (K w.params).In h)
    (F : ∀ (w : World) (mg : Str → Option Value) (fa : Addr) (h : Heap), (K w.params).In h → h.Ns mainGlobals mg → mg d.name = some (.ref fa) →
      ∃ fd : FuncData, (∀ (s : Shared) (u : Value), BindsTo s fd ⟨[u], []⟩ [(x, u)]) ∧ ∀ base : Heap, (K w.params).In base → base.Ns mainGlobals mg → FnG l.prog w (K w.params) mg base CX0 k fa fd [x] (sp (K w.params))) :
    PySem.W.WalkO q loose XP YP l.row.toRowW d [] (fun f vs => PySem.call f vs) := by
  refine Att.attach_call hn hdf fun w s₀ s₁ mg mb fa o pm cd doc a vs ns G Y ho hd hcd hmg hobj hints hlen hg => ?_
  obtain ⟨fd, hb, hF⟩ := F w mg fa _ (hY w _ Y) G.T.g hmg
  exact law_callG (hY w _ Y) G.T.g G.T.b G.T.builtins G.T.nolimit hg hobj hints (Nat.le_trans hlen (by decide)) hr hF hb (fun H hS => hsp (K w.params) H a ns hS)

theorem all_mk {l : PySem.W.OpenLaw} {w : World} {K : PySem.W.Frag} {h : Heap} {mg : Str → Option Value} {fa f_NoNumber___init__ f_NoSigns___init__ f_NoKind___init__ f_is_whole f_is_name f_is_signs f_need_signs f_need_number f_row_number f_row_by f_spots_of f_spot_of f_pair_of f_lengths_of f_Web___init__ f_Web_places f_Web_ties f_Web_number f_Web_beside f_need_kind f_rows_for_pairs f_why_many f_kind_rows f_number_of_row f_pair_far f_kind_far f_kind_web f_need_place f_nearest_of f_reached_from f_far f_w_cell f_w_box f_w_take f_w_signs f_w_pairs f_w_many f_w_due f_w_refused f_w_asked_right f_w_refusals_right f_w_web_right f_law C_Web C_NoKind C_NoNumber C_NoSigns C_MarkError : Addr} (X : K.In h) (G : h.Ns mainGlobals mg) (hfa : mg "law" = some (.ref fa))
    {od_NoNumber___init__ od_NoSigns___init__ od_NoKind___init__ od_is_whole od_is_name od_is_signs od_need_signs od_need_number od_row_number od_row_by od_spots_of od_spot_of od_pair_of od_lengths_of od_Web___init__ od_Web_places od_Web_ties od_Web_number od_Web_beside od_need_kind od_rows_for_pairs od_why_many od_kind_rows od_number_of_row od_pair_far od_kind_far od_kind_web od_need_place od_nearest_of od_reached_from od_far od_w_cell od_w_box od_w_take od_w_signs od_w_pairs od_w_many od_w_due od_w_refused od_w_asked_right od_w_refusals_right od_w_web_right od_law an_NoNumber___init__ an_NoSigns___init__ an_NoKind___init__ an_is_whole an_is_name an_is_signs an_need_signs an_need_number an_row_number an_row_by an_spots_of an_spot_of an_pair_of an_lengths_of an_Web___init__ an_Web_places an_Web_ties an_Web_number an_Web_beside an_need_kind an_rows_for_pairs an_why_many an_kind_rows an_number_of_row an_pair_far an_kind_far an_kind_web an_need_place an_nearest_of an_reached_from an_far an_w_cell an_w_box an_w_take an_w_signs an_w_pairs an_w_many an_w_due an_w_refused an_w_asked_right an_w_refusals_right an_w_web_right an_law : Option Addr} {sl_NoNumber___init__ sl_NoSigns___init__ sl_NoKind___init__ sl_is_whole sl_is_name sl_is_signs sl_need_signs sl_need_number sl_row_number sl_row_by sl_spots_of sl_spot_of sl_pair_of sl_lengths_of sl_Web___init__ sl_Web_places sl_Web_ties sl_Web_number sl_Web_beside sl_need_kind sl_rows_for_pairs sl_why_many sl_kind_rows sl_number_of_row sl_pair_far sl_kind_far sl_kind_web sl_need_place sl_nearest_of sl_reached_from sl_far sl_w_cell sl_w_box sl_w_take sl_w_signs sl_w_pairs sl_w_many sl_w_due sl_w_refused sl_w_asked_right sl_w_refusals_right sl_w_web_right sl_law : Array (Option Value)} {oc_NoNumber___init__ oc_NoSigns___init__ oc_NoKind___init__ oc_is_whole oc_is_name oc_is_signs oc_need_signs oc_need_number oc_row_number oc_row_by oc_spots_of oc_spot_of oc_pair_of oc_lengths_of oc_Web___init__ oc_Web_places oc_Web_ties oc_Web_number oc_Web_beside oc_need_kind oc_rows_for_pairs oc_why_many oc_kind_rows oc_number_of_row oc_pair_far oc_kind_far oc_kind_web oc_need_place oc_nearest_of oc_reached_from oc_far oc_w_cell oc_w_box oc_w_take oc_w_signs oc_w_pairs oc_w_many oc_w_due oc_w_refused oc_w_asked_right oc_w_refusals_right oc_w_web_right oc_law kV_NoNumber___init__ kV_NoSigns___init__ kV_NoKind___init__ kV_is_whole kV_is_name kV_is_signs kV_need_signs kV_need_number kV_row_number kV_row_by kV_spots_of kV_spot_of kV_pair_of kV_lengths_of kV_Web___init__ kV_Web_places kV_Web_ties kV_Web_number kV_Web_beside kV_need_kind kV_rows_for_pairs kV_why_many kV_kind_rows kV_number_of_row kV_pair_far kV_kind_far kV_kind_web kV_need_place kV_nearest_of kV_reached_from kV_far kV_w_cell kV_w_box kV_w_take kV_w_signs kV_w_pairs kV_w_many kV_w_due kV_w_refused kV_w_asked_right kV_w_refusals_right kV_w_web_right kV_law dc_NoNumber___init__ dc_NoSigns___init__ dc_NoKind___init__ dc_is_whole dc_is_name dc_is_signs dc_need_signs dc_need_number dc_row_number dc_row_by dc_spots_of dc_spot_of dc_pair_of dc_lengths_of dc_Web___init__ dc_Web_places dc_Web_ties dc_Web_number dc_Web_beside dc_need_kind dc_rows_for_pairs dc_why_many dc_kind_rows dc_number_of_row dc_pair_far dc_kind_far dc_kind_web dc_need_place dc_nearest_of dc_reached_from dc_far dc_w_cell dc_w_box dc_w_take dc_w_signs dc_w_pairs dc_w_many dc_w_due dc_w_refused dc_w_asked_right dc_w_refusals_right dc_w_web_right dc_law pm_NoNumber___init__ pm_NoSigns___init__ pm_NoKind___init__ pm_is_whole pm_is_name pm_is_signs pm_need_signs pm_need_number pm_row_number pm_row_by pm_spots_of pm_spot_of pm_pair_of pm_lengths_of pm_Web___init__ pm_Web_places pm_Web_ties pm_Web_number pm_Web_beside pm_need_kind pm_rows_for_pairs pm_why_many pm_kind_rows pm_number_of_row pm_pair_far pm_kind_far pm_kind_web pm_need_place pm_nearest_of pm_reached_from pm_far pm_w_cell pm_w_box pm_w_take pm_w_signs pm_w_pairs pm_w_many pm_w_due pm_w_refused pm_w_asked_right pm_w_refusals_right pm_w_web_right pm_law cd_NoNumber___init__ cd_NoSigns___init__ cd_NoKind___init__ cd_is_whole cd_is_name cd_is_signs cd_need_signs cd_need_number cd_row_number cd_row_by cd_spots_of cd_spot_of cd_pair_of cd_lengths_of cd_Web___init__ cd_Web_places cd_Web_ties cd_Web_number cd_Web_beside cd_need_kind cd_rows_for_pairs cd_why_many cd_kind_rows cd_number_of_row cd_pair_far cd_kind_far cd_kind_web cd_need_place cd_nearest_of cd_reached_from cd_far cd_w_cell cd_w_box cd_w_take cd_w_signs cd_w_pairs cd_w_many cd_w_due cd_w_refused cd_w_asked_right cd_w_refusals_right cd_w_web_right cd_law ct_NoNumber___init__ ct_NoSigns___init__ ct_NoKind___init__ ct_is_whole ct_is_name ct_is_signs ct_need_signs ct_need_number ct_row_number ct_row_by ct_spots_of ct_spot_of ct_pair_of ct_lengths_of ct_Web___init__ ct_Web_places ct_Web_ties ct_Web_number ct_Web_beside ct_need_kind ct_rows_for_pairs ct_why_many ct_kind_rows ct_number_of_row ct_pair_far ct_kind_far ct_kind_web ct_need_place ct_nearest_of ct_reached_from ct_far ct_w_cell ct_w_box ct_w_take ct_w_signs ct_w_pairs ct_w_many ct_w_due ct_w_refused ct_w_asked_right ct_w_refusals_right ct_w_web_right ct_law : Value} {t_LETTERS_kinds t_LETTERS_words t_MOST_LENGTH t_MOST_PLACES_kinds t_MOST_PLACES_webs t_MOST_SIGNS t_MOST_TIES t_MOST_kinds t_MOST_signs : Tok}
    {o_NoKind o_NoNumber o_NoSigns o_KINDS : Obj} {t_KINDS : Addr}
    (aNoNumber___init__ : PySem.W.findIn K (.ref C_NoNumber) "__init__" = some (some (.ref f_NoNumber___init__))) (iNoNumber___init__ : PySem.W.isFn K (.ref f_NoNumber___init__) = true) (lNoNumber___init__ : K.lookup f_NoNumber___init__ = some ⟨oc_NoNumber___init__, od_NoNumber___init__, .func (PySem.W.fnOf "__init__" "NoNumber.__init__" (defArgs s_NoNumber___init__) (defBody s_NoNumber___init__) (defScope s_NoNumber___init__) .none kV_NoNumber___init__ dc_NoNumber___init__ pm_NoNumber___init__ an_NoNumber___init__ cd_NoNumber___init__ ct_NoNumber___init__), sl_NoNumber___init__⟩) (cNoNumber___init__ : PySem.W.codeIn K cd_NoNumber___init__ "NoNumber.__init__" = true) (kNoNumber___init__ : PySem.W.keepIn K (.ref f_NoNumber___init__) = true)
    (aNoSigns___init__ : PySem.W.findIn K (.ref C_NoSigns) "__init__" = some (some (.ref f_NoSigns___init__))) (iNoSigns___init__ : PySem.W.isFn K (.ref f_NoSigns___init__) = true) (lNoSigns___init__ : K.lookup f_NoSigns___init__ = some ⟨oc_NoSigns___init__, od_NoSigns___init__, .func (PySem.W.fnOf "__init__" "NoSigns.__init__" (defArgs s_NoSigns___init__) (defBody s_NoSigns___init__) (defScope s_NoSigns___init__) .none kV_NoSigns___init__ dc_NoSigns___init__ pm_NoSigns___init__ an_NoSigns___init__ cd_NoSigns___init__ ct_NoSigns___init__), sl_NoSigns___init__⟩) (cNoSigns___init__ : PySem.W.codeIn K cd_NoSigns___init__ "NoSigns.__init__" = true) (kNoSigns___init__ : PySem.W.keepIn K (.ref f_NoSigns___init__) = true)
    (aNoKind___init__ : PySem.W.findIn K (.ref C_NoKind) "__init__" = some (some (.ref f_NoKind___init__))) (iNoKind___init__ : PySem.W.isFn K (.ref f_NoKind___init__) = true) (lNoKind___init__ : K.lookup f_NoKind___init__ = some ⟨oc_NoKind___init__, od_NoKind___init__, .func (PySem.W.fnOf "__init__" "NoKind.__init__" (defArgs s_NoKind___init__) (defBody s_NoKind___init__) (defScope s_NoKind___init__) .none kV_NoKind___init__ dc_NoKind___init__ pm_NoKind___init__ an_NoKind___init__ cd_NoKind___init__ ct_NoKind___init__), sl_NoKind___init__⟩) (cNoKind___init__ : PySem.W.codeIn K cd_NoKind___init__ "NoKind.__init__" = true) (kNoKind___init__ : PySem.W.keepIn K (.ref f_NoKind___init__) = true)
    (ais_whole : PySem.W.nsIn K mainGlobals "is_whole" = some (some (.ref f_is_whole))) (lis_whole : K.lookup f_is_whole = some ⟨oc_is_whole, od_is_whole, .func (PySem.W.fnOf "is_whole" "is_whole" (defArgs s_is_whole) (defBody s_is_whole) (defScope s_is_whole) .none kV_is_whole dc_is_whole pm_is_whole an_is_whole cd_is_whole ct_is_whole), sl_is_whole⟩) (cis_whole : PySem.W.codeIn K cd_is_whole "is_whole" = true) (kis_whole : PySem.W.keepIn K (.ref f_is_whole) = true)
    (ais_name : PySem.W.nsIn K mainGlobals "is_name" = some (some (.ref f_is_name))) (lis_name : K.lookup f_is_name = some ⟨oc_is_name, od_is_name, .func (PySem.W.fnOf "is_name" "is_name" (defArgs s_is_name) (defBody s_is_name) (defScope s_is_name) .none kV_is_name dc_is_name pm_is_name an_is_name cd_is_name ct_is_name), sl_is_name⟩) (cis_name : PySem.W.codeIn K cd_is_name "is_name" = true) (kis_name : PySem.W.keepIn K (.ref f_is_name) = true)
    (ais_signs : PySem.W.nsIn K mainGlobals "is_signs" = some (some (.ref f_is_signs))) (lis_signs : K.lookup f_is_signs = some ⟨oc_is_signs, od_is_signs, .func (PySem.W.fnOf "is_signs" "is_signs" (defArgs s_is_signs) (defBody s_is_signs) (defScope s_is_signs) .none kV_is_signs dc_is_signs pm_is_signs an_is_signs cd_is_signs ct_is_signs), sl_is_signs⟩) (cis_signs : PySem.W.codeIn K cd_is_signs "is_signs" = true) (kis_signs : PySem.W.keepIn K (.ref f_is_signs) = true)
    (aneed_signs : PySem.W.nsIn K mainGlobals "need_signs" = some (some (.ref f_need_signs))) (lneed_signs : K.lookup f_need_signs = some ⟨oc_need_signs, od_need_signs, .func (PySem.W.fnOf "need_signs" "need_signs" (defArgs s_need_signs) (defBody s_need_signs) (defScope s_need_signs) .none kV_need_signs dc_need_signs pm_need_signs an_need_signs cd_need_signs ct_need_signs), sl_need_signs⟩) (cneed_signs : PySem.W.codeIn K cd_need_signs "need_signs" = true) (kneed_signs : PySem.W.keepIn K (.ref f_need_signs) = true)
    (aneed_number : PySem.W.nsIn K mainGlobals "need_number" = some (some (.ref f_need_number))) (lneed_number : K.lookup f_need_number = some ⟨oc_need_number, od_need_number, .func (PySem.W.fnOf "need_number" "need_number" (defArgs s_need_number) (defBody s_need_number) (defScope s_need_number) .none kV_need_number dc_need_number pm_need_number an_need_number cd_need_number ct_need_number), sl_need_number⟩) (cneed_number : PySem.W.codeIn K cd_need_number "need_number" = true) (kneed_number : PySem.W.keepIn K (.ref f_need_number) = true)
    (arow_number : PySem.W.nsIn K mainGlobals "row_number" = some (some (.ref f_row_number))) (lrow_number : K.lookup f_row_number = some ⟨oc_row_number, od_row_number, .func (PySem.W.fnOf "row_number" "row_number" (defArgs s_row_number) (defBody s_row_number) (defScope s_row_number) .none kV_row_number dc_row_number pm_row_number an_row_number cd_row_number ct_row_number), sl_row_number⟩) (crow_number : PySem.W.codeIn K cd_row_number "row_number" = true) (krow_number : PySem.W.keepIn K (.ref f_row_number) = true)
    (arow_by : PySem.W.nsIn K mainGlobals "row_by" = some (some (.ref f_row_by))) (lrow_by : K.lookup f_row_by = some ⟨oc_row_by, od_row_by, .func (PySem.W.fnOf "row_by" "row_by" (defArgs s_row_by) (defBody s_row_by) (defScope s_row_by) .none kV_row_by dc_row_by pm_row_by an_row_by cd_row_by ct_row_by), sl_row_by⟩) (crow_by : PySem.W.codeIn K cd_row_by "row_by" = true) (krow_by : PySem.W.keepIn K (.ref f_row_by) = true)
    (aspots_of : PySem.W.nsIn K mainGlobals "spots_of" = some (some (.ref f_spots_of))) (lspots_of : K.lookup f_spots_of = some ⟨oc_spots_of, od_spots_of, .func (PySem.W.fnOf "spots_of" "spots_of" (defArgs s_spots_of) (defBody s_spots_of) (defScope s_spots_of) .none kV_spots_of dc_spots_of pm_spots_of an_spots_of cd_spots_of ct_spots_of), sl_spots_of⟩) (cspots_of : PySem.W.codeIn K cd_spots_of "spots_of" = true) (kspots_of : PySem.W.keepIn K (.ref f_spots_of) = true)
    (aspot_of : PySem.W.nsIn K mainGlobals "spot_of" = some (some (.ref f_spot_of))) (lspot_of : K.lookup f_spot_of = some ⟨oc_spot_of, od_spot_of, .func (PySem.W.fnOf "spot_of" "spot_of" (defArgs s_spot_of) (defBody s_spot_of) (defScope s_spot_of) .none kV_spot_of dc_spot_of pm_spot_of an_spot_of cd_spot_of ct_spot_of), sl_spot_of⟩) (cspot_of : PySem.W.codeIn K cd_spot_of "spot_of" = true) (kspot_of : PySem.W.keepIn K (.ref f_spot_of) = true)
    (apair_of : PySem.W.nsIn K mainGlobals "pair_of" = some (some (.ref f_pair_of))) (lpair_of : K.lookup f_pair_of = some ⟨oc_pair_of, od_pair_of, .func (PySem.W.fnOf "pair_of" "pair_of" (defArgs s_pair_of) (defBody s_pair_of) (defScope s_pair_of) .none kV_pair_of dc_pair_of pm_pair_of an_pair_of cd_pair_of ct_pair_of), sl_pair_of⟩) (cpair_of : PySem.W.codeIn K cd_pair_of "pair_of" = true) (kpair_of : PySem.W.keepIn K (.ref f_pair_of) = true)
    (alengths_of : PySem.W.nsIn K mainGlobals "lengths_of" = some (some (.ref f_lengths_of))) (llengths_of : K.lookup f_lengths_of = some ⟨oc_lengths_of, od_lengths_of, .func (PySem.W.fnOf "lengths_of" "lengths_of" (defArgs s_lengths_of) (defBody s_lengths_of) (defScope s_lengths_of) .none kV_lengths_of dc_lengths_of pm_lengths_of an_lengths_of cd_lengths_of ct_lengths_of), sl_lengths_of⟩) (clengths_of : PySem.W.codeIn K cd_lengths_of "lengths_of" = true) (klengths_of : PySem.W.keepIn K (.ref f_lengths_of) = true)
    (aWeb___init__ : PySem.W.findIn K (.ref C_Web) "__init__" = some (some (.ref f_Web___init__))) (iWeb___init__ : PySem.W.isFn K (.ref f_Web___init__) = true) (lWeb___init__ : K.lookup f_Web___init__ = some ⟨oc_Web___init__, od_Web___init__, .func (PySem.W.fnOf "__init__" "Web.__init__" (defArgs s_Web___init__) (defBody s_Web___init__) (defScope s_Web___init__) .none kV_Web___init__ dc_Web___init__ pm_Web___init__ an_Web___init__ cd_Web___init__ ct_Web___init__), sl_Web___init__⟩) (cWeb___init__ : PySem.W.codeIn K cd_Web___init__ "Web.__init__" = true) (kWeb___init__ : PySem.W.keepIn K (.ref f_Web___init__) = true)
    (aWeb_places : PySem.W.findIn K (.ref C_Web) "places" = some (some (.ref f_Web_places))) (iWeb_places : PySem.W.isFn K (.ref f_Web_places) = true) (lWeb_places : K.lookup f_Web_places = some ⟨oc_Web_places, od_Web_places, .func (PySem.W.fnOf "places" "Web.places" (defArgs s_Web_places) (defBody s_Web_places) (defScope s_Web_places) .none kV_Web_places dc_Web_places pm_Web_places an_Web_places cd_Web_places ct_Web_places), sl_Web_places⟩) (cWeb_places : PySem.W.codeIn K cd_Web_places "Web.places" = true) (kWeb_places : PySem.W.keepIn K (.ref f_Web_places) = true)
    (aWeb_ties : PySem.W.findIn K (.ref C_Web) "ties" = some (some (.ref f_Web_ties))) (iWeb_ties : PySem.W.isFn K (.ref f_Web_ties) = true) (lWeb_ties : K.lookup f_Web_ties = some ⟨oc_Web_ties, od_Web_ties, .func (PySem.W.fnOf "ties" "Web.ties" (defArgs s_Web_ties) (defBody s_Web_ties) (defScope s_Web_ties) .none kV_Web_ties dc_Web_ties pm_Web_ties an_Web_ties cd_Web_ties ct_Web_ties), sl_Web_ties⟩) (cWeb_ties : PySem.W.codeIn K cd_Web_ties "Web.ties" = true) (kWeb_ties : PySem.W.keepIn K (.ref f_Web_ties) = true)
    (aWeb_number : PySem.W.findIn K (.ref C_Web) "number" = some (some (.ref f_Web_number))) (iWeb_number : PySem.W.isFn K (.ref f_Web_number) = true) (lWeb_number : K.lookup f_Web_number = some ⟨oc_Web_number, od_Web_number, .func (PySem.W.fnOf "number" "Web.number" (defArgs s_Web_number) (defBody s_Web_number) (defScope s_Web_number) .none kV_Web_number dc_Web_number pm_Web_number an_Web_number cd_Web_number ct_Web_number), sl_Web_number⟩) (cWeb_number : PySem.W.codeIn K cd_Web_number "Web.number" = true) (kWeb_number : PySem.W.keepIn K (.ref f_Web_number) = true)
    (aWeb_beside : PySem.W.findIn K (.ref C_Web) "beside" = some (some (.ref f_Web_beside))) (iWeb_beside : PySem.W.isFn K (.ref f_Web_beside) = true) (lWeb_beside : K.lookup f_Web_beside = some ⟨oc_Web_beside, od_Web_beside, .func (PySem.W.fnOf "beside" "Web.beside" (defArgs s_Web_beside) (defBody s_Web_beside) (defScope s_Web_beside) .none kV_Web_beside dc_Web_beside pm_Web_beside an_Web_beside cd_Web_beside ct_Web_beside), sl_Web_beside⟩) (cWeb_beside : PySem.W.codeIn K cd_Web_beside "Web.beside" = true) (kWeb_beside : PySem.W.keepIn K (.ref f_Web_beside) = true)
    (aneed_kind : PySem.W.nsIn K mainGlobals "need_kind" = some (some (.ref f_need_kind))) (lneed_kind : K.lookup f_need_kind = some ⟨oc_need_kind, od_need_kind, .func (PySem.W.fnOf "need_kind" "need_kind" (defArgs s_need_kind) (defBody s_need_kind) (defScope s_need_kind) .none kV_need_kind dc_need_kind pm_need_kind an_need_kind cd_need_kind ct_need_kind), sl_need_kind⟩) (cneed_kind : PySem.W.codeIn K cd_need_kind "need_kind" = true) (kneed_kind : PySem.W.keepIn K (.ref f_need_kind) = true)
    (arows_for_pairs : PySem.W.nsIn K mainGlobals "rows_for_pairs" = some (some (.ref f_rows_for_pairs))) (lrows_for_pairs : K.lookup f_rows_for_pairs = some ⟨oc_rows_for_pairs, od_rows_for_pairs, .func (PySem.W.fnOf "rows_for_pairs" "rows_for_pairs" (defArgs s_rows_for_pairs) (defBody s_rows_for_pairs) (defScope s_rows_for_pairs) .none kV_rows_for_pairs dc_rows_for_pairs pm_rows_for_pairs an_rows_for_pairs cd_rows_for_pairs ct_rows_for_pairs), sl_rows_for_pairs⟩) (crows_for_pairs : PySem.W.codeIn K cd_rows_for_pairs "rows_for_pairs" = true) (krows_for_pairs : PySem.W.keepIn K (.ref f_rows_for_pairs) = true)
    (awhy_many : PySem.W.nsIn K mainGlobals "why_many" = some (some (.ref f_why_many))) (lwhy_many : K.lookup f_why_many = some ⟨oc_why_many, od_why_many, .func (PySem.W.fnOf "why_many" "why_many" (defArgs s_why_many) (defBody s_why_many) (defScope s_why_many) .none kV_why_many dc_why_many pm_why_many an_why_many cd_why_many ct_why_many), sl_why_many⟩) (cwhy_many : PySem.W.codeIn K cd_why_many "why_many" = true) (kwhy_many : PySem.W.keepIn K (.ref f_why_many) = true)
    (akind_rows : PySem.W.nsIn K mainGlobals "kind_rows" = some (some (.ref f_kind_rows))) (lkind_rows : K.lookup f_kind_rows = some ⟨oc_kind_rows, od_kind_rows, .func (PySem.W.fnOf "kind_rows" "kind_rows" (defArgs s_kind_rows) (defBody s_kind_rows) (defScope s_kind_rows) .none kV_kind_rows dc_kind_rows pm_kind_rows an_kind_rows cd_kind_rows ct_kind_rows), sl_kind_rows⟩) (ckind_rows : PySem.W.codeIn K cd_kind_rows "kind_rows" = true) (kkind_rows : PySem.W.keepIn K (.ref f_kind_rows) = true)
    (anumber_of_row : PySem.W.nsIn K mainGlobals "number_of_row" = some (some (.ref f_number_of_row))) (lnumber_of_row : K.lookup f_number_of_row = some ⟨oc_number_of_row, od_number_of_row, .func (PySem.W.fnOf "number_of_row" "number_of_row" (defArgs s_number_of_row) (defBody s_number_of_row) (defScope s_number_of_row) .none kV_number_of_row dc_number_of_row pm_number_of_row an_number_of_row cd_number_of_row ct_number_of_row), sl_number_of_row⟩) (cnumber_of_row : PySem.W.codeIn K cd_number_of_row "number_of_row" = true) (knumber_of_row : PySem.W.keepIn K (.ref f_number_of_row) = true)
    (apair_far : PySem.W.nsIn K mainGlobals "pair_far" = some (some (.ref f_pair_far))) (lpair_far : K.lookup f_pair_far = some ⟨oc_pair_far, od_pair_far, .func (PySem.W.fnOf "pair_far" "pair_far" (defArgs s_pair_far) (defBody s_pair_far) (defScope s_pair_far) .none kV_pair_far dc_pair_far pm_pair_far an_pair_far cd_pair_far ct_pair_far), sl_pair_far⟩) (cpair_far : PySem.W.codeIn K cd_pair_far "pair_far" = true) (kpair_far : PySem.W.keepIn K (.ref f_pair_far) = true)
    (akind_far : PySem.W.nsIn K mainGlobals "kind_far" = some (some (.ref f_kind_far))) (lkind_far : K.lookup f_kind_far = some ⟨oc_kind_far, od_kind_far, .func (PySem.W.fnOf "kind_far" "kind_far" (defArgs s_kind_far) (defBody s_kind_far) (defScope s_kind_far) .none kV_kind_far dc_kind_far pm_kind_far an_kind_far cd_kind_far ct_kind_far), sl_kind_far⟩) (ckind_far : PySem.W.codeIn K cd_kind_far "kind_far" = true) (kkind_far : PySem.W.keepIn K (.ref f_kind_far) = true)
    (akind_web : PySem.W.nsIn K mainGlobals "kind_web" = some (some (.ref f_kind_web))) (lkind_web : K.lookup f_kind_web = some ⟨oc_kind_web, od_kind_web, .func (PySem.W.fnOf "kind_web" "kind_web" (defArgs s_kind_web) (defBody s_kind_web) (defScope s_kind_web) .none kV_kind_web dc_kind_web pm_kind_web an_kind_web cd_kind_web ct_kind_web), sl_kind_web⟩) (ckind_web : PySem.W.codeIn K cd_kind_web "kind_web" = true) (kkind_web : PySem.W.keepIn K (.ref f_kind_web) = true)
    (aneed_place : PySem.W.nsIn K mainGlobals "need_place" = some (some (.ref f_need_place))) (lneed_place : K.lookup f_need_place = some ⟨oc_need_place, od_need_place, .func (PySem.W.fnOf "need_place" "need_place" (defArgs s_need_place) (defBody s_need_place) (defScope s_need_place) .none kV_need_place dc_need_place pm_need_place an_need_place cd_need_place ct_need_place), sl_need_place⟩) (cneed_place : PySem.W.codeIn K cd_need_place "need_place" = true) (kneed_place : PySem.W.keepIn K (.ref f_need_place) = true)
    (anearest_of : PySem.W.nsIn K mainGlobals "nearest_of" = some (some (.ref f_nearest_of))) (lnearest_of : K.lookup f_nearest_of = some ⟨oc_nearest_of, od_nearest_of, .func (PySem.W.fnOf "nearest_of" "nearest_of" (defArgs s_nearest_of) (defBody s_nearest_of) (defScope s_nearest_of) .none kV_nearest_of dc_nearest_of pm_nearest_of an_nearest_of cd_nearest_of ct_nearest_of), sl_nearest_of⟩) (cnearest_of : PySem.W.codeIn K cd_nearest_of "nearest_of" = true) (knearest_of : PySem.W.keepIn K (.ref f_nearest_of) = true)
    (areached_from : PySem.W.nsIn K mainGlobals "reached_from" = some (some (.ref f_reached_from))) (lreached_from : K.lookup f_reached_from = some ⟨oc_reached_from, od_reached_from, .func (PySem.W.fnOf "reached_from" "reached_from" (defArgs s_reached_from) (defBody s_reached_from) (defScope s_reached_from) .none kV_reached_from dc_reached_from pm_reached_from an_reached_from cd_reached_from ct_reached_from), sl_reached_from⟩) (creached_from : PySem.W.codeIn K cd_reached_from "reached_from" = true) (kreached_from : PySem.W.keepIn K (.ref f_reached_from) = true)
    (afar : PySem.W.nsIn K mainGlobals "far" = some (some (.ref f_far))) (lfar : K.lookup f_far = some ⟨oc_far, od_far, .func (PySem.W.fnOf "far" "far" (defArgs s_far) (defBody s_far) (defScope s_far) .none kV_far dc_far pm_far an_far cd_far ct_far), sl_far⟩) (cfar : PySem.W.codeIn K cd_far "far" = true) (kfar : PySem.W.keepIn K (.ref f_far) = true)
    (aw_cell : PySem.W.nsIn K mainGlobals "_law_cell" = some (some (.ref f_w_cell))) (lw_cell : K.lookup f_w_cell = some ⟨oc_w_cell, od_w_cell, .func (PySem.W.fnOf "_law_cell" "_law_cell" (defArgs s_w_cell) (defBody s_w_cell) (defScope s_w_cell) .none kV_w_cell dc_w_cell pm_w_cell an_w_cell cd_w_cell ct_w_cell), sl_w_cell⟩) (cw_cell : PySem.W.codeIn K cd_w_cell "_law_cell" = true) (kw_cell : PySem.W.keepIn K (.ref f_w_cell) = true)
    (aw_box : PySem.W.nsIn K mainGlobals "_law_box" = some (some (.ref f_w_box))) (lw_box : K.lookup f_w_box = some ⟨oc_w_box, od_w_box, .func (PySem.W.fnOf "_law_box" "_law_box" (defArgs s_w_box) (defBody s_w_box) (defScope s_w_box) .none kV_w_box dc_w_box pm_w_box an_w_box cd_w_box ct_w_box), sl_w_box⟩) (cw_box : PySem.W.codeIn K cd_w_box "_law_box" = true) (kw_box : PySem.W.keepIn K (.ref f_w_box) = true)
    (aw_take : PySem.W.nsIn K mainGlobals "_law_take" = some (some (.ref f_w_take))) (lw_take : K.lookup f_w_take = some ⟨oc_w_take, od_w_take, .func (PySem.W.fnOf "_law_take" "_law_take" (defArgs s_w_take) (defBody s_w_take) (defScope s_w_take) .none kV_w_take dc_w_take pm_w_take an_w_take cd_w_take ct_w_take), sl_w_take⟩) (cw_take : PySem.W.codeIn K cd_w_take "_law_take" = true) (kw_take : PySem.W.keepIn K (.ref f_w_take) = true)
    (aw_signs : PySem.W.nsIn K mainGlobals "_law_signs" = some (some (.ref f_w_signs))) (lw_signs : K.lookup f_w_signs = some ⟨oc_w_signs, od_w_signs, .func (PySem.W.fnOf "_law_signs" "_law_signs" (defArgs s_w_signs) (defBody s_w_signs) (defScope s_w_signs) .none kV_w_signs dc_w_signs pm_w_signs an_w_signs cd_w_signs ct_w_signs), sl_w_signs⟩) (cw_signs : PySem.W.codeIn K cd_w_signs "_law_signs" = true) (kw_signs : PySem.W.keepIn K (.ref f_w_signs) = true)
    (aw_pairs : PySem.W.nsIn K mainGlobals "_law_pairs" = some (some (.ref f_w_pairs))) (lw_pairs : K.lookup f_w_pairs = some ⟨oc_w_pairs, od_w_pairs, .func (PySem.W.fnOf "_law_pairs" "_law_pairs" (defArgs s_w_pairs) (defBody s_w_pairs) (defScope s_w_pairs) .none kV_w_pairs dc_w_pairs pm_w_pairs an_w_pairs cd_w_pairs ct_w_pairs), sl_w_pairs⟩) (cw_pairs : PySem.W.codeIn K cd_w_pairs "_law_pairs" = true) (kw_pairs : PySem.W.keepIn K (.ref f_w_pairs) = true)
    (aw_many : PySem.W.nsIn K mainGlobals "_law_many" = some (some (.ref f_w_many))) (lw_many : K.lookup f_w_many = some ⟨oc_w_many, od_w_many, .func (PySem.W.fnOf "_law_many" "_law_many" (defArgs s_w_many) (defBody s_w_many) (defScope s_w_many) .none kV_w_many dc_w_many pm_w_many an_w_many cd_w_many ct_w_many), sl_w_many⟩) (cw_many : PySem.W.codeIn K cd_w_many "_law_many" = true) (kw_many : PySem.W.keepIn K (.ref f_w_many) = true)
    (aw_due : PySem.W.nsIn K mainGlobals "_law_due" = some (some (.ref f_w_due))) (lw_due : K.lookup f_w_due = some ⟨oc_w_due, od_w_due, .func (PySem.W.fnOf "_law_due" "_law_due" (defArgs s_w_due) (defBody s_w_due) (defScope s_w_due) .none kV_w_due dc_w_due pm_w_due an_w_due cd_w_due ct_w_due), sl_w_due⟩) (cw_due : PySem.W.codeIn K cd_w_due "_law_due" = true) (kw_due : PySem.W.keepIn K (.ref f_w_due) = true)
    (aw_refused : PySem.W.nsIn K mainGlobals "_law_refused" = some (some (.ref f_w_refused))) (lw_refused : K.lookup f_w_refused = some ⟨oc_w_refused, od_w_refused, .func (PySem.W.fnOf "_law_refused" "_law_refused" (defArgs s_w_refused) (defBody s_w_refused) (defScope s_w_refused) .none kV_w_refused dc_w_refused pm_w_refused an_w_refused cd_w_refused ct_w_refused), sl_w_refused⟩) (cw_refused : PySem.W.codeIn K cd_w_refused "_law_refused" = true) (kw_refused : PySem.W.keepIn K (.ref f_w_refused) = true)
    (aw_asked_right : PySem.W.nsIn K mainGlobals "_law_asked_right" = some (some (.ref f_w_asked_right))) (lw_asked_right : K.lookup f_w_asked_right = some ⟨oc_w_asked_right, od_w_asked_right, .func (PySem.W.fnOf "_law_asked_right" "_law_asked_right" (defArgs s_w_asked_right) (defBody s_w_asked_right) (defScope s_w_asked_right) .none kV_w_asked_right dc_w_asked_right pm_w_asked_right an_w_asked_right cd_w_asked_right ct_w_asked_right), sl_w_asked_right⟩) (cw_asked_right : PySem.W.codeIn K cd_w_asked_right "_law_asked_right" = true) (kw_asked_right : PySem.W.keepIn K (.ref f_w_asked_right) = true)
    (aw_refusals_right : PySem.W.nsIn K mainGlobals "_law_refusals_right" = some (some (.ref f_w_refusals_right))) (lw_refusals_right : K.lookup f_w_refusals_right = some ⟨oc_w_refusals_right, od_w_refusals_right, .func (PySem.W.fnOf "_law_refusals_right" "_law_refusals_right" (defArgs s_w_refusals_right) (defBody s_w_refusals_right) (defScope s_w_refusals_right) .none kV_w_refusals_right dc_w_refusals_right pm_w_refusals_right an_w_refusals_right cd_w_refusals_right ct_w_refusals_right), sl_w_refusals_right⟩) (cw_refusals_right : PySem.W.codeIn K cd_w_refusals_right "_law_refusals_right" = true) (kw_refusals_right : PySem.W.keepIn K (.ref f_w_refusals_right) = true)
    (aw_web_right : PySem.W.nsIn K mainGlobals "_law_web_right" = some (some (.ref f_w_web_right))) (lw_web_right : K.lookup f_w_web_right = some ⟨oc_w_web_right, od_w_web_right, .func (PySem.W.fnOf "_law_web_right" "_law_web_right" (defArgs s_w_web_right) (defBody s_w_web_right) (defScope s_w_web_right) .none kV_w_web_right dc_w_web_right pm_w_web_right an_w_web_right cd_w_web_right ct_w_web_right), sl_w_web_right⟩) (cw_web_right : PySem.W.codeIn K cd_w_web_right "_law_web_right" = true) (kw_web_right : PySem.W.keepIn K (.ref f_w_web_right) = true)
    (alaw : PySem.W.nsIn K mainGlobals "law" = some (some (.ref f_law))) (llaw : K.lookup f_law = some ⟨oc_law, od_law, .func (PySem.W.fnOf "law" "law" (defArgs s_law) (defBody s_law) (defScope s_law) .none kV_law dc_law pm_law an_law cd_law ct_law), sl_law⟩) (claw : PySem.W.codeIn K cd_law "law" = true) (klaw : PySem.W.keepIn K (.ref f_law) = true)
    (A_Web : PySem.W.nsIn K mainGlobals "Web" = some (some (.ref C_Web)))
    (pg_Web : PySem.W.plainGet K C_Web Str.empty = true)
    (hd_Web : PySem.W.hasDictIn K C_Web = true)
    (po_Web : PySem.W.plainOver K C_Web = true)
    (sa_Web : PySem.W.findIn K (.ref C_Web) "__setattr__" = some (some (.builtin "object.__setattr__")))
    (mk_Web : PySem.W.makesIn K C_Web = true)
    (kc_Web : PySem.W.keepIn K (.ref C_Web) = true)
    (nspots_Web : PySem.W.findIn K (.ref C_Web) "spots" = some none)
    (nnames_Web : PySem.W.findIn K (.ref C_Web) "names" = some none)
    (nlengths_Web : PySem.W.findIn K (.ref C_Web) "lengths" = some none)
    (A_NoKind : PySem.W.nsIn K mainGlobals "NoKind" = some (some (.ref C_NoKind)))
    (L_NoKind : K.lookup C_NoKind = some o_NoKind)
    (O_NoKind : oexObj C_NoKind o_NoKind = true)
    (sa_NoKind : PySem.W.findIn K (.ref C_NoKind) "__setattr__" = some (some (.builtin "object.__setattr__")))
    (be_NoKind : PySem.W.subIn K (.ref C_NoKind) (.type "BaseException") = some true)
    (ty_NoKind : PySem.W.typeIn K (.ref C_NoKind) = some (.type "type"))
    (kc_NoKind : PySem.W.keepIn K (.ref C_NoKind) = true)
    (ti_NoKind : PySem.W.typeIn K (.ref f_NoKind___init__) = some (.type "function"))
    (ga_NoKind : PySem.W.findIn K (.ref C_NoKind) "__getattribute__" = some (some (.builtin "BaseException.__getattribute__")))
    (gg_NoKind : PySem.W.findIn K (.ref C_NoKind) "__getattr__" = some none)
    (hd_NoKind : PySem.W.hasDictIn K C_NoKind = true)
    (nfound_NoKind : PySem.W.findIn K (.ref C_NoKind) "found" = some none)
    (A_NoNumber : PySem.W.nsIn K mainGlobals "NoNumber" = some (some (.ref C_NoNumber)))
    (L_NoNumber : K.lookup C_NoNumber = some o_NoNumber)
    (O_NoNumber : oexObj C_NoNumber o_NoNumber = true)
    (sa_NoNumber : PySem.W.findIn K (.ref C_NoNumber) "__setattr__" = some (some (.builtin "object.__setattr__")))
    (be_NoNumber : PySem.W.subIn K (.ref C_NoNumber) (.type "BaseException") = some true)
    (ty_NoNumber : PySem.W.typeIn K (.ref C_NoNumber) = some (.type "type"))
    (kc_NoNumber : PySem.W.keepIn K (.ref C_NoNumber) = true)
    (ti_NoNumber : PySem.W.typeIn K (.ref f_NoNumber___init__) = some (.type "function"))
    (ga_NoNumber : PySem.W.findIn K (.ref C_NoNumber) "__getattribute__" = some (some (.builtin "BaseException.__getattribute__")))
    (gg_NoNumber : PySem.W.findIn K (.ref C_NoNumber) "__getattr__" = some none)
    (hd_NoNumber : PySem.W.hasDictIn K C_NoNumber = true)
    (nfound_NoNumber : PySem.W.findIn K (.ref C_NoNumber) "found" = some none)
    (A_NoSigns : PySem.W.nsIn K mainGlobals "NoSigns" = some (some (.ref C_NoSigns)))
    (L_NoSigns : K.lookup C_NoSigns = some o_NoSigns)
    (O_NoSigns : oexObj C_NoSigns o_NoSigns = true)
    (sa_NoSigns : PySem.W.findIn K (.ref C_NoSigns) "__setattr__" = some (some (.builtin "object.__setattr__")))
    (be_NoSigns : PySem.W.subIn K (.ref C_NoSigns) (.type "BaseException") = some true)
    (ty_NoSigns : PySem.W.typeIn K (.ref C_NoSigns) = some (.type "type"))
    (kc_NoSigns : PySem.W.keepIn K (.ref C_NoSigns) = true)
    (ti_NoSigns : PySem.W.typeIn K (.ref f_NoSigns___init__) = some (.type "function"))
    (ga_NoSigns : PySem.W.findIn K (.ref C_NoSigns) "__getattribute__" = some (some (.builtin "BaseException.__getattribute__")))
    (gg_NoSigns : PySem.W.findIn K (.ref C_NoSigns) "__getattr__" = some none)
    (hd_NoSigns : PySem.W.hasDictIn K C_NoSigns = true)
    (nfound_NoSigns : PySem.W.findIn K (.ref C_NoSigns) "found" = some none)
    (s_NoSigns_NoSigns : PySem.W.subIn K (.ref C_NoSigns) (.ref C_NoSigns) = some true)
    (s_NoKind_NoSigns : PySem.W.subIn K (.ref C_NoKind) (.ref C_NoSigns) = some false)
    (s_NoKind_NoKind : PySem.W.subIn K (.ref C_NoKind) (.ref C_NoKind) = some true)
    (s_NoNumber_NoSigns : PySem.W.subIn K (.ref C_NoNumber) (.ref C_NoSigns) = some false)
    (s_NoNumber_NoKind : PySem.W.subIn K (.ref C_NoNumber) (.ref C_NoKind) = some false)
    (s_NoNumber_NoNumber : PySem.W.subIn K (.ref C_NoNumber) (.ref C_NoNumber) = some true)
    (A_MarkError : PySem.W.nsIn K mainGlobals "MarkError" = some (some (.ref C_MarkError)))
    (rd_MarkError : PySem.W.readsIn K C_MarkError (.type "type") = true)
    (ga_MarkError : PySem.W.specialIn K (.ref C_MarkError) "__getattribute__" = some (some (.builtin "type.__getattribute__")))
    (in_MarkError : PySem.W.findCls K (.ref C_MarkError) (.type "type") "__init__" = some (.val (.builtin "ValueError.__init__")))
    (zabs : PySem.W.nsIn K mainGlobals "abs" = some none)
    (zall : PySem.W.nsIn K mainGlobals "all" = some none)
    (zbool : PySem.W.nsIn K mainGlobals "bool" = some none)
    (zdivmod : PySem.W.nsIn K mainGlobals "divmod" = some none)
    (zenumerate : PySem.W.nsIn K mainGlobals "enumerate" = some none)
    (zint : PySem.W.nsIn K mainGlobals "int" = some none)
    (zisinstance : PySem.W.nsIn K mainGlobals "isinstance" = some none)
    (zlen : PySem.W.nsIn K mainGlobals "len" = some none)
    (zlist : PySem.W.nsIn K mainGlobals "list" = some none)
    (zmax : PySem.W.nsIn K mainGlobals "max" = some none)
    (zmin : PySem.W.nsIn K mainGlobals "min" = some none)
    (zrange : PySem.W.nsIn K mainGlobals "range" = some none)
    (zrepr : PySem.W.nsIn K mainGlobals "repr" = some none)
    (zsorted : PySem.W.nsIn K mainGlobals "sorted" = some none)
    (zstr : PySem.W.nsIn K mainGlobals "str" = some none)
    (ztuple : PySem.W.nsIn K mainGlobals "tuple" = some none)
    (yKINDS : PySem.W.nsIn K mainGlobals "KINDS" = some (some (.ref t_KINDS))) (LKINDS : K.lookup t_KINDS = some o_KINDS) (OKINDS : tupObj o_KINDS ["path", "star", "ring", "pair"] = true)
    (yLETTERS_kinds : PySem.W.nsIn K mainGlobals "LETTERS_kinds" = some (some (.str "abcdefghijkl" t_LETTERS_kinds)))
    (yLETTERS_words : PySem.W.nsIn K mainGlobals "LETTERS_words" = some (some (.str "abcdefghijklmnopqrstuvwxyz" t_LETTERS_words)))
    (yMOST_LENGTH : PySem.W.nsIn K mainGlobals "MOST_LENGTH" = some (some (.int 1000000 t_MOST_LENGTH)))
    (yMOST_PLACES_kinds : PySem.W.nsIn K mainGlobals "MOST_PLACES_kinds" = some (some (.int 12 t_MOST_PLACES_kinds)))
    (yMOST_PLACES_webs : PySem.W.nsIn K mainGlobals "MOST_PLACES_webs" = some (some (.int 12 t_MOST_PLACES_webs)))
    (yMOST_SIGNS : PySem.W.nsIn K mainGlobals "MOST_SIGNS" = some (some (.int 1500 t_MOST_SIGNS)))
    (yMOST_TIES : PySem.W.nsIn K mainGlobals "MOST_TIES" = some (some (.int 40 t_MOST_TIES)))
    (yMOST_kinds : PySem.W.nsIn K mainGlobals "MOST_kinds" = some (some (.int 1000 t_MOST_kinds)))
    (yMOST_signs : PySem.W.nsIn K mainGlobals "MOST_signs" = some (some (.int 999999999999999999999999999999 t_MOST_signs)))
    : ∃ fd : FuncData, (∀ (s : Shared) (v : Value), BindsTo s fd ⟨[v], []⟩ [("_law_script", v)]) ∧ ∀ base : Heap, K.In base → base.Ns mainGlobals mg → FnG l.prog w K mg base CX0 8 fa fd ["_law_script"] (sp_law0 K) := by
  have e := hfa.symm.trans (PySem.W.mg_of X G alaw)
  cases e
  have FNoNumber___init__ := fun_mk (st := s_NoNumber___init__) lNoNumber___init__ cNoNumber___init__ kNoNumber___init__
  have bNoNumber___init__ := FNoNumber___init__.binds (ps := ["self", "found"]) fun _ _ _ _ _ _ us hl => match us, hl with | [_, _], _ => rfl
  have FNoSigns___init__ := fun_mk (st := s_NoSigns___init__) lNoSigns___init__ cNoSigns___init__ kNoSigns___init__
  have bNoSigns___init__ := FNoSigns___init__.binds (ps := ["self", "found"]) fun _ _ _ _ _ _ us hl => match us, hl with | [_, _], _ => rfl
  have FNoKind___init__ := fun_mk (st := s_NoKind___init__) lNoKind___init__ cNoKind___init__ kNoKind___init__
  have bNoKind___init__ := FNoKind___init__.binds (ps := ["self", "found"]) fun _ _ _ _ _ _ us hl => match us, hl with | [_, _], _ => rfl
  have Fis_whole := fun_mk (st := s_is_whole) lis_whole cis_whole kis_whole
  have bis_whole := Fis_whole.binds (ps := ["thing", "low", "high"]) fun _ _ _ _ _ _ us hl => match us, hl with | [_, _, _], _ => rfl
  have Fis_name := fun_mk (st := s_is_name) lis_name cis_name kis_name
  have bis_name := Fis_name.binds (ps := ["thing"]) fun _ _ _ _ _ _ us hl => match us, hl with | [_], _ => rfl
  have Fis_signs := fun_mk (st := s_is_signs) lis_signs cis_signs kis_signs
  have bis_signs := Fis_signs.binds (ps := ["thing"]) fun _ _ _ _ _ _ us hl => match us, hl with | [_], _ => rfl
  have Fneed_signs := fun_mk (st := s_need_signs) lneed_signs cneed_signs kneed_signs
  have bneed_signs := Fneed_signs.binds (ps := ["thing"]) fun _ _ _ _ _ _ us hl => match us, hl with | [_], _ => rfl
  have Fneed_number := fun_mk (st := s_need_number) lneed_number cneed_number kneed_number
  have bneed_number := Fneed_number.binds (ps := ["thing", "low"]) fun _ _ _ _ _ _ us hl => match us, hl with | [_, _], _ => rfl
  have Frow_number := fun_mk (st := s_row_number) lrow_number crow_number krow_number
  have brow_number := Frow_number.binds (ps := ["signs"]) fun _ _ _ _ _ _ us hl => match us, hl with | [_], _ => rfl
  have Frow_by := fun_mk (st := s_row_by) lrow_by crow_by krow_by
  have brow_by := Frow_by.binds (ps := ["number"]) fun _ _ _ _ _ _ us hl => match us, hl with | [_], _ => rfl
  have Fspots_of := fun_mk (st := s_spots_of) lspots_of cspots_of kspots_of
  have bspots_of := Fspots_of.binds (ps := ["places"]) fun _ _ _ _ _ _ us hl => match us, hl with | [_], _ => rfl
  have Fspot_of := fun_mk (st := s_spot_of) lspot_of cspot_of kspot_of
  have bspot_of := Fspot_of.binds (ps := ["spots", "place"]) fun _ _ _ _ _ _ us hl => match us, hl with | [_, _], _ => rfl
  have Fpair_of := fun_mk (st := s_pair_of) lpair_of cpair_of kpair_of
  have bpair_of := Fpair_of.binds (ps := ["here", "there"]) fun _ _ _ _ _ _ us hl => match us, hl with | [_, _], _ => rfl
  have Flengths_of := fun_mk (st := s_lengths_of) llengths_of clengths_of klengths_of
  have blengths_of := Flengths_of.binds (ps := ["spots", "ties"]) fun _ _ _ _ _ _ us hl => match us, hl with | [_, _], _ => rfl
  have FWeb___init__ := fun_mk (st := s_Web___init__) lWeb___init__ cWeb___init__ kWeb___init__
  have bWeb___init__ := FWeb___init__.binds (ps := ["self", "places", "ties"]) fun _ _ _ _ _ _ us hl => match us, hl with | [_, _, _], _ => rfl
  have FWeb_places := fun_mk (st := s_Web_places) lWeb_places cWeb_places kWeb_places
  have bWeb_places := FWeb_places.binds (ps := ["self"]) fun _ _ _ _ _ _ us hl => match us, hl with | [_], _ => rfl
  have FWeb_ties := fun_mk (st := s_Web_ties) lWeb_ties cWeb_ties kWeb_ties
  have bWeb_ties := FWeb_ties.binds (ps := ["self"]) fun _ _ _ _ _ _ us hl => match us, hl with | [_], _ => rfl
  have FWeb_number := fun_mk (st := s_Web_number) lWeb_number cWeb_number kWeb_number
  have bWeb_number := FWeb_number.binds (ps := ["self", "place"]) fun _ _ _ _ _ _ us hl => match us, hl with | [_, _], _ => rfl
  have FWeb_beside := fun_mk (st := s_Web_beside) lWeb_beside cWeb_beside kWeb_beside
  have bWeb_beside := FWeb_beside.binds (ps := ["self", "place"]) fun _ _ _ _ _ _ us hl => match us, hl with | [_, _], _ => rfl
  have Fneed_kind := fun_mk (st := s_need_kind) lneed_kind cneed_kind kneed_kind
  have bneed_kind := Fneed_kind.binds (ps := ["word", "many", "most"]) fun _ _ _ _ _ _ us hl => match us, hl with | [_, _, _], _ => rfl
  have Frows_for_pairs := fun_mk (st := s_rows_for_pairs) lrows_for_pairs crows_for_pairs krows_for_pairs
  have brows_for_pairs := Frows_for_pairs.binds (ps := ["many"]) fun _ _ _ _ _ _ us hl => match us, hl with | [_], _ => rfl
  have Fwhy_many := fun_mk (st := s_why_many) lwhy_many cwhy_many kwhy_many
  have bwhy_many := Fwhy_many.binds (ps := ["word", "many"]) fun _ _ _ _ _ _ us hl => match us, hl with | [_, _], _ => rfl
  have Fkind_rows := fun_mk (st := s_kind_rows) lkind_rows ckind_rows kkind_rows
  have bkind_rows := Fkind_rows.binds (ps := ["word", "many"]) fun _ _ _ _ _ _ us hl => match us, hl with | [_, _], _ => rfl
  have Fnumber_of_row := fun_mk (st := s_number_of_row) lnumber_of_row cnumber_of_row knumber_of_row
  have bnumber_of_row := Fnumber_of_row.binds (ps := ["thing", "least"]) fun _ _ _ _ _ _ us hl => match us, hl with | [_, _], _ => rfl
  have Fpair_far := fun_mk (st := s_pair_far) lpair_far cpair_far kpair_far
  have bpair_far := Fpair_far.binds (ps := ["many", "low", "high"]) fun _ _ _ _ _ _ us hl => match us, hl with | [_, _, _], _ => rfl
  have Fkind_far := fun_mk (st := s_kind_far) lkind_far ckind_far kkind_far
  have bkind_far := Fkind_far.binds (ps := ["word", "many", "one", "other"]) fun _ _ _ _ _ _ us hl => match us, hl with | [_, _, _, _], _ => rfl
  have Fkind_web := fun_mk (st := s_kind_web) lkind_web ckind_web kkind_web
  have bkind_web := Fkind_web.binds (ps := ["word", "many"]) fun _ _ _ _ _ _ us hl => match us, hl with | [_, _], _ => rfl
  have Fneed_place := fun_mk (st := s_need_place) lneed_place cneed_place kneed_place
  have bneed_place := Fneed_place.binds (ps := ["web", "thing"]) fun _ _ _ _ _ _ us hl => match us, hl with | [_, _], _ => rfl
  have Fnearest_of := fun_mk (st := s_nearest_of) lnearest_of cnearest_of knearest_of
  have bnearest_of := Fnearest_of.binds (ps := ["reached", "done"]) fun _ _ _ _ _ _ us hl => match us, hl with | [_, _], _ => rfl
  have Freached_from := fun_mk (st := s_reached_from) lreached_from creached_from kreached_from
  have breached_from := Freached_from.binds (ps := ["web", "place"]) fun _ _ _ _ _ _ us hl => match us, hl with | [_, _], _ => rfl
  have Ffar := fun_mk (st := s_far) lfar cfar kfar
  have bfar := Ffar.binds (ps := ["web", "one", "other"]) fun _ _ _ _ _ _ us hl => match us, hl with | [_, _, _], _ => rfl
  have Fw_cell := fun_mk (st := s_w_cell) lw_cell cw_cell kw_cell
  have bw_cell := Fw_cell.binds (ps := ["_law_script", "_law_k"]) fun _ _ _ _ _ _ us hl => match us, hl with | [_, _], _ => rfl
  have Fw_box := fun_mk (st := s_w_box) lw_box cw_box kw_box
  have bw_box := Fw_box.binds (ps := ["_law_cell_here"]) fun _ _ _ _ _ _ us hl => match us, hl with | [_], _ => rfl
  have Fw_take := fun_mk (st := s_w_take) lw_take cw_take kw_take
  have bw_take := Fw_take.binds (ps := ["_law_box_here", "_law_many_here"]) fun _ _ _ _ _ _ us hl => match us, hl with | [_, _], _ => rfl
  have Fw_signs := fun_mk (st := s_w_signs) lw_signs cw_signs kw_signs
  have bw_signs := Fw_signs.binds (ps := ["_law_number"]) fun _ _ _ _ _ _ us hl => match us, hl with | [_], _ => rfl
  have Fw_pairs := fun_mk (st := s_w_pairs) lw_pairs cw_pairs kw_pairs
  have bw_pairs := Fw_pairs.binds (ps := ["_law_many_here"]) fun _ _ _ _ _ _ us hl => match us, hl with | [_], _ => rfl
  have Fw_many := fun_mk (st := s_w_many) lw_many cw_many kw_many
  have bw_many := Fw_many.binds (ps := ["_law_box_here", "_law_word"]) fun _ _ _ _ _ _ us hl => match us, hl with | [_, _], _ => rfl
  have Fw_due := fun_mk (st := s_w_due) lw_due cw_due kw_due
  have bw_due := Fw_due.binds (ps := ["_law_word", "_law_many_here", "_law_here", "_law_there"]) fun _ _ _ _ _ _ us hl => match us, hl with | [_, _, _, _], _ => rfl
  have Fw_refused := fun_mk (st := s_w_refused) lw_refused cw_refused kw_refused
  have bw_refused := Fw_refused.binds (ps := ["_law_word", "_law_many_here", "_law_one", "_law_other"]) fun _ _ _ _ _ _ us hl => match us, hl with | [_, _, _, _], _ => rfl
  have Fw_asked_right := fun_mk (st := s_w_asked_right) lw_asked_right cw_asked_right kw_asked_right
  have bw_asked_right := Fw_asked_right.binds (ps := ["_law_box_here", "_law_word", "_law_many_here", "_law_rows"]) fun _ _ _ _ _ _ us hl => match us, hl with | [_, _, _, _], _ => rfl
  have Fw_refusals_right := fun_mk (st := s_w_refusals_right) lw_refusals_right cw_refusals_right kw_refusals_right
  have bw_refusals_right := Fw_refusals_right.binds (ps := ["_law_box_here", "_law_word", "_law_many_here", "_law_rows"]) fun _ _ _ _ _ _ us hl => match us, hl with | [_, _, _, _], _ => rfl
  have Fw_web_right := fun_mk (st := s_w_web_right) lw_web_right cw_web_right kw_web_right
  have bw_web_right := Fw_web_right.binds (ps := ["_law_word", "_law_many_here"]) fun _ _ _ _ _ _ us hl => match us, hl with | [_, _], _ => rfl
  have Flaw := fun_mk (st := s_law) llaw claw klaw
  have blaw := Flaw.binds (ps := ["_law_script"]) fun _ _ _ _ _ _ us hl => match us, hl with | [_], _ => rfl
  let T : Tx K mg := { a_NoNumber___init__ := f_NoNumber___init__, fd_NoNumber___init__ := PySem.W.fnOf "__init__" "NoNumber.__init__" (defArgs s_NoNumber___init__) (defBody s_NoNumber___init__) (defScope s_NoNumber___init__) .none kV_NoNumber___init__ dc_NoNumber___init__ pm_NoNumber___init__ an_NoNumber___init__ cd_NoNumber___init__ ct_NoNumber___init__, F_NoNumber___init__ := FNoNumber___init__, b_NoNumber___init__ := bNoNumber___init__, a_NoSigns___init__ := f_NoSigns___init__, fd_NoSigns___init__ := PySem.W.fnOf "__init__" "NoSigns.__init__" (defArgs s_NoSigns___init__) (defBody s_NoSigns___init__) (defScope s_NoSigns___init__) .none kV_NoSigns___init__ dc_NoSigns___init__ pm_NoSigns___init__ an_NoSigns___init__ cd_NoSigns___init__ ct_NoSigns___init__, F_NoSigns___init__ := FNoSigns___init__, b_NoSigns___init__ := bNoSigns___init__, a_NoKind___init__ := f_NoKind___init__, fd_NoKind___init__ := PySem.W.fnOf "__init__" "NoKind.__init__" (defArgs s_NoKind___init__) (defBody s_NoKind___init__) (defScope s_NoKind___init__) .none kV_NoKind___init__ dc_NoKind___init__ pm_NoKind___init__ an_NoKind___init__ cd_NoKind___init__ ct_NoKind___init__, F_NoKind___init__ := FNoKind___init__, b_NoKind___init__ := bNoKind___init__, a_is_whole := f_is_whole, fd_is_whole := PySem.W.fnOf "is_whole" "is_whole" (defArgs s_is_whole) (defBody s_is_whole) (defScope s_is_whole) .none kV_is_whole dc_is_whole pm_is_whole an_is_whole cd_is_whole ct_is_whole, F_is_whole := Fis_whole, b_is_whole := bis_whole, m_is_whole := PySem.W.mg_of X G ais_whole, a_is_name := f_is_name, fd_is_name := PySem.W.fnOf "is_name" "is_name" (defArgs s_is_name) (defBody s_is_name) (defScope s_is_name) .none kV_is_name dc_is_name pm_is_name an_is_name cd_is_name ct_is_name, F_is_name := Fis_name, b_is_name := bis_name, m_is_name := PySem.W.mg_of X G ais_name, a_is_signs := f_is_signs, fd_is_signs := PySem.W.fnOf "is_signs" "is_signs" (defArgs s_is_signs) (defBody s_is_signs) (defScope s_is_signs) .none kV_is_signs dc_is_signs pm_is_signs an_is_signs cd_is_signs ct_is_signs, F_is_signs := Fis_signs, b_is_signs := bis_signs, m_is_signs := PySem.W.mg_of X G ais_signs, a_need_signs := f_need_signs, fd_need_signs := PySem.W.fnOf "need_signs" "need_signs" (defArgs s_need_signs) (defBody s_need_signs) (defScope s_need_signs) .none kV_need_signs dc_need_signs pm_need_signs an_need_signs cd_need_signs ct_need_signs, F_need_signs := Fneed_signs, b_need_signs := bneed_signs, m_need_signs := PySem.W.mg_of X G aneed_signs, a_need_number := f_need_number, fd_need_number := PySem.W.fnOf "need_number" "need_number" (defArgs s_need_number) (defBody s_need_number) (defScope s_need_number) .none kV_need_number dc_need_number pm_need_number an_need_number cd_need_number ct_need_number, F_need_number := Fneed_number, b_need_number := bneed_number, m_need_number := PySem.W.mg_of X G aneed_number, a_row_number := f_row_number, fd_row_number := PySem.W.fnOf "row_number" "row_number" (defArgs s_row_number) (defBody s_row_number) (defScope s_row_number) .none kV_row_number dc_row_number pm_row_number an_row_number cd_row_number ct_row_number, F_row_number := Frow_number, b_row_number := brow_number, m_row_number := PySem.W.mg_of X G arow_number, a_row_by := f_row_by, fd_row_by := PySem.W.fnOf "row_by" "row_by" (defArgs s_row_by) (defBody s_row_by) (defScope s_row_by) .none kV_row_by dc_row_by pm_row_by an_row_by cd_row_by ct_row_by, F_row_by := Frow_by, b_row_by := brow_by, m_row_by := PySem.W.mg_of X G arow_by, a_spots_of := f_spots_of, fd_spots_of := PySem.W.fnOf "spots_of" "spots_of" (defArgs s_spots_of) (defBody s_spots_of) (defScope s_spots_of) .none kV_spots_of dc_spots_of pm_spots_of an_spots_of cd_spots_of ct_spots_of, F_spots_of := Fspots_of, b_spots_of := bspots_of, m_spots_of := PySem.W.mg_of X G aspots_of, a_spot_of := f_spot_of, fd_spot_of := PySem.W.fnOf "spot_of" "spot_of" (defArgs s_spot_of) (defBody s_spot_of) (defScope s_spot_of) .none kV_spot_of dc_spot_of pm_spot_of an_spot_of cd_spot_of ct_spot_of, F_spot_of := Fspot_of, b_spot_of := bspot_of, m_spot_of := PySem.W.mg_of X G aspot_of, a_pair_of := f_pair_of, fd_pair_of := PySem.W.fnOf "pair_of" "pair_of" (defArgs s_pair_of) (defBody s_pair_of) (defScope s_pair_of) .none kV_pair_of dc_pair_of pm_pair_of an_pair_of cd_pair_of ct_pair_of, F_pair_of := Fpair_of, b_pair_of := bpair_of, m_pair_of := PySem.W.mg_of X G apair_of, a_lengths_of := f_lengths_of, fd_lengths_of := PySem.W.fnOf "lengths_of" "lengths_of" (defArgs s_lengths_of) (defBody s_lengths_of) (defScope s_lengths_of) .none kV_lengths_of dc_lengths_of pm_lengths_of an_lengths_of cd_lengths_of ct_lengths_of, F_lengths_of := Flengths_of, b_lengths_of := blengths_of, m_lengths_of := PySem.W.mg_of X G alengths_of, a_Web___init__ := f_Web___init__, fd_Web___init__ := PySem.W.fnOf "__init__" "Web.__init__" (defArgs s_Web___init__) (defBody s_Web___init__) (defScope s_Web___init__) .none kV_Web___init__ dc_Web___init__ pm_Web___init__ an_Web___init__ cd_Web___init__ ct_Web___init__, F_Web___init__ := FWeb___init__, b_Web___init__ := bWeb___init__, a_Web_places := f_Web_places, fd_Web_places := PySem.W.fnOf "places" "Web.places" (defArgs s_Web_places) (defBody s_Web_places) (defScope s_Web_places) .none kV_Web_places dc_Web_places pm_Web_places an_Web_places cd_Web_places ct_Web_places, F_Web_places := FWeb_places, b_Web_places := bWeb_places, a_Web_ties := f_Web_ties, fd_Web_ties := PySem.W.fnOf "ties" "Web.ties" (defArgs s_Web_ties) (defBody s_Web_ties) (defScope s_Web_ties) .none kV_Web_ties dc_Web_ties pm_Web_ties an_Web_ties cd_Web_ties ct_Web_ties, F_Web_ties := FWeb_ties, b_Web_ties := bWeb_ties, a_Web_number := f_Web_number, fd_Web_number := PySem.W.fnOf "number" "Web.number" (defArgs s_Web_number) (defBody s_Web_number) (defScope s_Web_number) .none kV_Web_number dc_Web_number pm_Web_number an_Web_number cd_Web_number ct_Web_number, F_Web_number := FWeb_number, b_Web_number := bWeb_number, a_Web_beside := f_Web_beside, fd_Web_beside := PySem.W.fnOf "beside" "Web.beside" (defArgs s_Web_beside) (defBody s_Web_beside) (defScope s_Web_beside) .none kV_Web_beside dc_Web_beside pm_Web_beside an_Web_beside cd_Web_beside ct_Web_beside, F_Web_beside := FWeb_beside, b_Web_beside := bWeb_beside, a_need_kind := f_need_kind, fd_need_kind := PySem.W.fnOf "need_kind" "need_kind" (defArgs s_need_kind) (defBody s_need_kind) (defScope s_need_kind) .none kV_need_kind dc_need_kind pm_need_kind an_need_kind cd_need_kind ct_need_kind, F_need_kind := Fneed_kind, b_need_kind := bneed_kind, m_need_kind := PySem.W.mg_of X G aneed_kind, a_rows_for_pairs := f_rows_for_pairs, fd_rows_for_pairs := PySem.W.fnOf "rows_for_pairs" "rows_for_pairs" (defArgs s_rows_for_pairs) (defBody s_rows_for_pairs) (defScope s_rows_for_pairs) .none kV_rows_for_pairs dc_rows_for_pairs pm_rows_for_pairs an_rows_for_pairs cd_rows_for_pairs ct_rows_for_pairs, F_rows_for_pairs := Frows_for_pairs, b_rows_for_pairs := brows_for_pairs, m_rows_for_pairs := PySem.W.mg_of X G arows_for_pairs, a_why_many := f_why_many, fd_why_many := PySem.W.fnOf "why_many" "why_many" (defArgs s_why_many) (defBody s_why_many) (defScope s_why_many) .none kV_why_many dc_why_many pm_why_many an_why_many cd_why_many ct_why_many, F_why_many := Fwhy_many, b_why_many := bwhy_many, m_why_many := PySem.W.mg_of X G awhy_many, a_kind_rows := f_kind_rows, fd_kind_rows := PySem.W.fnOf "kind_rows" "kind_rows" (defArgs s_kind_rows) (defBody s_kind_rows) (defScope s_kind_rows) .none kV_kind_rows dc_kind_rows pm_kind_rows an_kind_rows cd_kind_rows ct_kind_rows, F_kind_rows := Fkind_rows, b_kind_rows := bkind_rows, m_kind_rows := PySem.W.mg_of X G akind_rows, a_number_of_row := f_number_of_row, fd_number_of_row := PySem.W.fnOf "number_of_row" "number_of_row" (defArgs s_number_of_row) (defBody s_number_of_row) (defScope s_number_of_row) .none kV_number_of_row dc_number_of_row pm_number_of_row an_number_of_row cd_number_of_row ct_number_of_row, F_number_of_row := Fnumber_of_row, b_number_of_row := bnumber_of_row, m_number_of_row := PySem.W.mg_of X G anumber_of_row, a_pair_far := f_pair_far, fd_pair_far := PySem.W.fnOf "pair_far" "pair_far" (defArgs s_pair_far) (defBody s_pair_far) (defScope s_pair_far) .none kV_pair_far dc_pair_far pm_pair_far an_pair_far cd_pair_far ct_pair_far, F_pair_far := Fpair_far, b_pair_far := bpair_far, m_pair_far := PySem.W.mg_of X G apair_far, a_kind_far := f_kind_far, fd_kind_far := PySem.W.fnOf "kind_far" "kind_far" (defArgs s_kind_far) (defBody s_kind_far) (defScope s_kind_far) .none kV_kind_far dc_kind_far pm_kind_far an_kind_far cd_kind_far ct_kind_far, F_kind_far := Fkind_far, b_kind_far := bkind_far, m_kind_far := PySem.W.mg_of X G akind_far, a_kind_web := f_kind_web, fd_kind_web := PySem.W.fnOf "kind_web" "kind_web" (defArgs s_kind_web) (defBody s_kind_web) (defScope s_kind_web) .none kV_kind_web dc_kind_web pm_kind_web an_kind_web cd_kind_web ct_kind_web, F_kind_web := Fkind_web, b_kind_web := bkind_web, m_kind_web := PySem.W.mg_of X G akind_web, a_need_place := f_need_place, fd_need_place := PySem.W.fnOf "need_place" "need_place" (defArgs s_need_place) (defBody s_need_place) (defScope s_need_place) .none kV_need_place dc_need_place pm_need_place an_need_place cd_need_place ct_need_place, F_need_place := Fneed_place, b_need_place := bneed_place, m_need_place := PySem.W.mg_of X G aneed_place, a_nearest_of := f_nearest_of, fd_nearest_of := PySem.W.fnOf "nearest_of" "nearest_of" (defArgs s_nearest_of) (defBody s_nearest_of) (defScope s_nearest_of) .none kV_nearest_of dc_nearest_of pm_nearest_of an_nearest_of cd_nearest_of ct_nearest_of, F_nearest_of := Fnearest_of, b_nearest_of := bnearest_of, m_nearest_of := PySem.W.mg_of X G anearest_of, a_reached_from := f_reached_from, fd_reached_from := PySem.W.fnOf "reached_from" "reached_from" (defArgs s_reached_from) (defBody s_reached_from) (defScope s_reached_from) .none kV_reached_from dc_reached_from pm_reached_from an_reached_from cd_reached_from ct_reached_from, F_reached_from := Freached_from, b_reached_from := breached_from, m_reached_from := PySem.W.mg_of X G areached_from, a_far := f_far, fd_far := PySem.W.fnOf "far" "far" (defArgs s_far) (defBody s_far) (defScope s_far) .none kV_far dc_far pm_far an_far cd_far ct_far, F_far := Ffar, b_far := bfar, m_far := PySem.W.mg_of X G afar, a_w_cell := f_w_cell, fd_w_cell := PySem.W.fnOf "_law_cell" "_law_cell" (defArgs s_w_cell) (defBody s_w_cell) (defScope s_w_cell) .none kV_w_cell dc_w_cell pm_w_cell an_w_cell cd_w_cell ct_w_cell, F_w_cell := Fw_cell, b_w_cell := bw_cell, m_w_cell := PySem.W.mg_of X G aw_cell, a_w_box := f_w_box, fd_w_box := PySem.W.fnOf "_law_box" "_law_box" (defArgs s_w_box) (defBody s_w_box) (defScope s_w_box) .none kV_w_box dc_w_box pm_w_box an_w_box cd_w_box ct_w_box, F_w_box := Fw_box, b_w_box := bw_box, m_w_box := PySem.W.mg_of X G aw_box, a_w_take := f_w_take, fd_w_take := PySem.W.fnOf "_law_take" "_law_take" (defArgs s_w_take) (defBody s_w_take) (defScope s_w_take) .none kV_w_take dc_w_take pm_w_take an_w_take cd_w_take ct_w_take, F_w_take := Fw_take, b_w_take := bw_take, m_w_take := PySem.W.mg_of X G aw_take, a_w_signs := f_w_signs, fd_w_signs := PySem.W.fnOf "_law_signs" "_law_signs" (defArgs s_w_signs) (defBody s_w_signs) (defScope s_w_signs) .none kV_w_signs dc_w_signs pm_w_signs an_w_signs cd_w_signs ct_w_signs, F_w_signs := Fw_signs, b_w_signs := bw_signs, m_w_signs := PySem.W.mg_of X G aw_signs, a_w_pairs := f_w_pairs, fd_w_pairs := PySem.W.fnOf "_law_pairs" "_law_pairs" (defArgs s_w_pairs) (defBody s_w_pairs) (defScope s_w_pairs) .none kV_w_pairs dc_w_pairs pm_w_pairs an_w_pairs cd_w_pairs ct_w_pairs, F_w_pairs := Fw_pairs, b_w_pairs := bw_pairs, m_w_pairs := PySem.W.mg_of X G aw_pairs, a_w_many := f_w_many, fd_w_many := PySem.W.fnOf "_law_many" "_law_many" (defArgs s_w_many) (defBody s_w_many) (defScope s_w_many) .none kV_w_many dc_w_many pm_w_many an_w_many cd_w_many ct_w_many, F_w_many := Fw_many, b_w_many := bw_many, m_w_many := PySem.W.mg_of X G aw_many, a_w_due := f_w_due, fd_w_due := PySem.W.fnOf "_law_due" "_law_due" (defArgs s_w_due) (defBody s_w_due) (defScope s_w_due) .none kV_w_due dc_w_due pm_w_due an_w_due cd_w_due ct_w_due, F_w_due := Fw_due, b_w_due := bw_due, m_w_due := PySem.W.mg_of X G aw_due, a_w_refused := f_w_refused, fd_w_refused := PySem.W.fnOf "_law_refused" "_law_refused" (defArgs s_w_refused) (defBody s_w_refused) (defScope s_w_refused) .none kV_w_refused dc_w_refused pm_w_refused an_w_refused cd_w_refused ct_w_refused, F_w_refused := Fw_refused, b_w_refused := bw_refused, m_w_refused := PySem.W.mg_of X G aw_refused, a_w_asked_right := f_w_asked_right, fd_w_asked_right := PySem.W.fnOf "_law_asked_right" "_law_asked_right" (defArgs s_w_asked_right) (defBody s_w_asked_right) (defScope s_w_asked_right) .none kV_w_asked_right dc_w_asked_right pm_w_asked_right an_w_asked_right cd_w_asked_right ct_w_asked_right, F_w_asked_right := Fw_asked_right, b_w_asked_right := bw_asked_right, m_w_asked_right := PySem.W.mg_of X G aw_asked_right, a_w_refusals_right := f_w_refusals_right, fd_w_refusals_right := PySem.W.fnOf "_law_refusals_right" "_law_refusals_right" (defArgs s_w_refusals_right) (defBody s_w_refusals_right) (defScope s_w_refusals_right) .none kV_w_refusals_right dc_w_refusals_right pm_w_refusals_right an_w_refusals_right cd_w_refusals_right ct_w_refusals_right, F_w_refusals_right := Fw_refusals_right, b_w_refusals_right := bw_refusals_right, m_w_refusals_right := PySem.W.mg_of X G aw_refusals_right, a_w_web_right := f_w_web_right, fd_w_web_right := PySem.W.fnOf "_law_web_right" "_law_web_right" (defArgs s_w_web_right) (defBody s_w_web_right) (defScope s_w_web_right) .none kV_w_web_right dc_w_web_right pm_w_web_right an_w_web_right cd_w_web_right ct_w_web_right, F_w_web_right := Fw_web_right, b_w_web_right := bw_web_right, m_w_web_right := PySem.W.mg_of X G aw_web_right, a_law := fa, fd_law := PySem.W.fnOf "law" "law" (defArgs s_law) (defBody s_law) (defScope s_law) .none kV_law dc_law pm_law an_law cd_law ct_law, F_law := Flaw, b_law := blaw, m_law := PySem.W.mg_of X G alaw, C_Web := C_Web, cl_Web := ⟨pg_Web, hd_Web, po_Web, sa_Web⟩, M_Web := ⟨mk_Web, aWeb___init__, iWeb___init__, kc_Web⟩, m_Web := PySem.W.mg_of X G A_Web, mm_Web_places := ⟨aWeb_places, iWeb_places, kWeb_places⟩, mm_Web_number := ⟨aWeb_number, iWeb_number, kWeb_number⟩, mm_Web_beside := ⟨aWeb_beside, iWeb_beside, kWeb_beside⟩, mm_Web_ties := ⟨aWeb_ties, iWeb_ties, kWeb_ties⟩, n_Web_spots := nspots_Web, n_Web_names := nnames_Web, n_Web_lengths := nlengths_Web, C_NoKind := C_NoKind, m_NoKind := PySem.W.mg_of X G A_NoKind, ox_NoKind := oexC_of L_NoKind O_NoKind sa_NoKind be_NoKind ty_NoKind kc_NoKind, xi_NoKind := aNoKind___init__, xt_NoKind := ti_NoKind, xf_NoKind := ⟨ga_NoKind, gg_NoKind, be_NoKind, hd_NoKind⟩, no_NoKind_found := nfound_NoKind, C_NoNumber := C_NoNumber, m_NoNumber := PySem.W.mg_of X G A_NoNumber, ox_NoNumber := oexC_of L_NoNumber O_NoNumber sa_NoNumber be_NoNumber ty_NoNumber kc_NoNumber, xi_NoNumber := aNoNumber___init__, xt_NoNumber := ti_NoNumber, xf_NoNumber := ⟨ga_NoNumber, gg_NoNumber, be_NoNumber, hd_NoNumber⟩, no_NoNumber_found := nfound_NoNumber, C_NoSigns := C_NoSigns, m_NoSigns := PySem.W.mg_of X G A_NoSigns, ox_NoSigns := oexC_of L_NoSigns O_NoSigns sa_NoSigns be_NoSigns ty_NoSigns kc_NoSigns, xi_NoSigns := aNoSigns___init__, xt_NoSigns := ti_NoSigns, xf_NoSigns := ⟨ga_NoSigns, gg_NoSigns, be_NoSigns, hd_NoSigns⟩, no_NoSigns_found := nfound_NoSigns, sx_NoSigns_NoSigns := s_NoSigns_NoSigns, sx_NoKind_NoSigns := s_NoKind_NoSigns, sx_NoKind_NoKind := s_NoKind_NoKind, sx_NoNumber_NoSigns := s_NoNumber_NoSigns, sx_NoNumber_NoKind := s_NoNumber_NoKind, sx_NoNumber_NoNumber := s_NoNumber_NoNumber, C_MarkError := C_MarkError, m_MarkError := PySem.W.mg_of X G A_MarkError, mid_MarkError := ⟨rd_MarkError, ga_MarkError, in_MarkError⟩, z_abs := PySem.W.mg_none_of X G zabs, z_all := PySem.W.mg_none_of X G zall, z_bool := PySem.W.mg_none_of X G zbool, z_divmod := PySem.W.mg_none_of X G zdivmod, z_enumerate := PySem.W.mg_none_of X G zenumerate, z_int := PySem.W.mg_none_of X G zint, z_isinstance := PySem.W.mg_none_of X G zisinstance, z_len := PySem.W.mg_none_of X G zlen, z_list := PySem.W.mg_none_of X G zlist, z_max := PySem.W.mg_none_of X G zmax, z_min := PySem.W.mg_none_of X G zmin, z_range := PySem.W.mg_none_of X G zrange, z_repr := PySem.W.mg_none_of X G zrepr, z_sorted := PySem.W.mg_none_of X G zsorted, z_str := PySem.W.mg_none_of X G zstr, z_tuple := PySem.W.mg_none_of X G ztuple, t_KINDS := t_KINDS, c_KINDS := PySem.W.mg_of X G yKINDS, k_KINDS := tupK_of LKINDS OKINDS, t_LETTERS_kinds := t_LETTERS_kinds, c_LETTERS_kinds := PySem.W.mg_of X G yLETTERS_kinds, t_LETTERS_words := t_LETTERS_words, c_LETTERS_words := PySem.W.mg_of X G yLETTERS_words, t_MOST_LENGTH := t_MOST_LENGTH, c_MOST_LENGTH := PySem.W.mg_of X G yMOST_LENGTH, t_MOST_PLACES_kinds := t_MOST_PLACES_kinds, c_MOST_PLACES_kinds := PySem.W.mg_of X G yMOST_PLACES_kinds, t_MOST_PLACES_webs := t_MOST_PLACES_webs, c_MOST_PLACES_webs := PySem.W.mg_of X G yMOST_PLACES_webs, t_MOST_SIGNS := t_MOST_SIGNS, c_MOST_SIGNS := PySem.W.mg_of X G yMOST_SIGNS, t_MOST_TIES := t_MOST_TIES, c_MOST_TIES := PySem.W.mg_of X G yMOST_TIES, t_MOST_kinds := t_MOST_kinds, c_MOST_kinds := PySem.W.mg_of X G yMOST_kinds, t_MOST_signs := t_MOST_signs, c_MOST_signs := PySem.W.mg_of X G yMOST_signs }
  exact ⟨PySem.W.fnOf "law" "law" (defArgs s_law) (defBody s_law) (defScope s_law) .none kV_law dc_law pm_law an_law cd_law ct_law, fun s v => .of_eq rfl, fun base _ _ => FnG.imp (up_law T) (ok_law T)⟩
end Fm
open PySem PySem.W PyProof.Rows
set_option maxRecDepth 100000 in
set_option maxHeartbeats 0 in
theorem PySem.Challenge.cw_farmarks_k87_whole_kinds_tell_holds : PySem.Challenge.rw_farmarks_k87_whole_kinds_tell.Holds := by
  w_on; o_law; k_head; (case hw => w_witness2)
  k_fill
  refine Fm.walkG (l := PySem.Challenge.rw_farmarks_k87_whole_kinds_tell) (k := 8) (x := "_law_script") (sp := Fm.sp_law0) ⟨rfl, by decide, by decide⟩ (fun K H a ns hS => ⟨a, ns, rfl, hS, fun _ => rfl⟩) rfl rfl (fun w h Y => PySem.W.kIn_of Y) ?F
  case F =>
    intro w mg fa h KX G hmg
    refine' Fm.all_mk KX G hmg ?aNoNumber___init__ ?iNoNumber___init__ ?lNoNumber___init__ ?cNoNumber___init__ ?kNoNumber___init__ ?aNoSigns___init__ ?iNoSigns___init__ ?lNoSigns___init__ ?cNoSigns___init__ ?kNoSigns___init__ ?aNoKind___init__ ?iNoKind___init__ ?lNoKind___init__ ?cNoKind___init__ ?kNoKind___init__ ?ais_whole ?lis_whole ?cis_whole ?kis_whole ?ais_name ?lis_name ?cis_name ?kis_name ?ais_signs ?lis_signs ?cis_signs ?kis_signs ?aneed_signs ?lneed_signs ?cneed_signs ?kneed_signs ?aneed_number ?lneed_number ?cneed_number ?kneed_number ?arow_number ?lrow_number ?crow_number ?krow_number ?arow_by ?lrow_by ?crow_by ?krow_by ?aspots_of ?lspots_of ?cspots_of ?kspots_of ?aspot_of ?lspot_of ?cspot_of ?kspot_of ?apair_of ?lpair_of ?cpair_of ?kpair_of ?alengths_of ?llengths_of ?clengths_of ?klengths_of ?aWeb___init__ ?iWeb___init__ ?lWeb___init__ ?cWeb___init__ ?kWeb___init__ ?aWeb_places ?iWeb_places ?lWeb_places ?cWeb_places ?kWeb_places ?aWeb_ties ?iWeb_ties ?lWeb_ties ?cWeb_ties ?kWeb_ties ?aWeb_number ?iWeb_number ?lWeb_number ?cWeb_number ?kWeb_number ?aWeb_beside ?iWeb_beside ?lWeb_beside ?cWeb_beside ?kWeb_beside ?aneed_kind ?lneed_kind ?cneed_kind ?kneed_kind ?arows_for_pairs ?lrows_for_pairs ?crows_for_pairs ?krows_for_pairs ?awhy_many ?lwhy_many ?cwhy_many ?kwhy_many ?akind_rows ?lkind_rows ?ckind_rows ?kkind_rows ?anumber_of_row ?lnumber_of_row ?cnumber_of_row ?knumber_of_row ?apair_far ?lpair_far ?cpair_far ?kpair_far ?akind_far ?lkind_far ?ckind_far ?kkind_far ?akind_web ?lkind_web ?ckind_web ?kkind_web ?aneed_place ?lneed_place ?cneed_place ?kneed_place ?anearest_of ?lnearest_of ?cnearest_of ?knearest_of ?areached_from ?lreached_from ?creached_from ?kreached_from ?afar ?lfar ?cfar ?kfar ?aw_cell ?lw_cell ?cw_cell ?kw_cell ?aw_box ?lw_box ?cw_box ?kw_box ?aw_take ?lw_take ?cw_take ?kw_take ?aw_signs ?lw_signs ?cw_signs ?kw_signs ?aw_pairs ?lw_pairs ?cw_pairs ?kw_pairs ?aw_many ?lw_many ?cw_many ?kw_many ?aw_due ?lw_due ?cw_due ?kw_due ?aw_refused ?lw_refused ?cw_refused ?kw_refused ?aw_asked_right ?lw_asked_right ?cw_asked_right ?kw_asked_right ?aw_refusals_right ?lw_refusals_right ?cw_refusals_right ?kw_refusals_right ?aw_web_right ?lw_web_right ?cw_web_right ?kw_web_right ?alaw ?llaw ?claw ?klaw ?A_Web ?pg_Web ?hd_Web ?po_Web ?sa_Web ?mk_Web ?kc_Web ?nspots_Web ?nnames_Web ?nlengths_Web ?A_NoKind ?L_NoKind ?O_NoKind ?sa_NoKind ?be_NoKind ?ty_NoKind ?kc_NoKind ?ti_NoKind ?ga_NoKind ?gg_NoKind ?hd_NoKind ?nfound_NoKind ?A_NoNumber ?L_NoNumber ?O_NoNumber ?sa_NoNumber ?be_NoNumber ?ty_NoNumber ?kc_NoNumber ?ti_NoNumber ?ga_NoNumber ?gg_NoNumber ?hd_NoNumber ?nfound_NoNumber ?A_NoSigns ?L_NoSigns ?O_NoSigns ?sa_NoSigns ?be_NoSigns ?ty_NoSigns ?kc_NoSigns ?ti_NoSigns ?ga_NoSigns ?gg_NoSigns ?hd_NoSigns ?nfound_NoSigns ?s_NoSigns_NoSigns ?s_NoKind_NoSigns ?s_NoKind_NoKind ?s_NoNumber_NoSigns ?s_NoNumber_NoKind ?s_NoNumber_NoNumber ?A_MarkError ?rd_MarkError ?ga_MarkError ?in_MarkError ?zabs ?zall ?zbool ?zdivmod ?zenumerate ?zint ?zisinstance ?zlen ?zlist ?zmax ?zmin ?zrange ?zrepr ?zsorted ?zstr ?ztuple ?yKINDS ?LKINDS ?OKINDS ?yLETTERS_kinds ?yLETTERS_words ?yMOST_LENGTH ?yMOST_PLACES_kinds ?yMOST_PLACES_webs ?yMOST_SIGNS ?yMOST_TIES ?yMOST_kinds ?yMOST_signs
    (case A_Web => k_is)
    (case A_NoKind => k_is)
    (case A_NoNumber => k_is)
    (case A_NoSigns => k_is)
    (case A_MarkError => k_is)
    (case aNoNumber___init__ => k_is)
    (case iNoNumber___init__ => k_is)
    (case lNoNumber___init__ => k_is)
    (case cNoNumber___init__ => k_is)
    (case kNoNumber___init__ => k_is)
    (case aNoSigns___init__ => k_is)
    (case iNoSigns___init__ => k_is)
    (case lNoSigns___init__ => k_is)
    (case cNoSigns___init__ => k_is)
    (case kNoSigns___init__ => k_is)
    (case aNoKind___init__ => k_is)
    (case iNoKind___init__ => k_is)
    (case lNoKind___init__ => k_is)
    (case cNoKind___init__ => k_is)
    (case kNoKind___init__ => k_is)
    (case ais_whole => k_is)
    (case lis_whole => k_is)
    (case cis_whole => k_is)
    (case kis_whole => k_is)
    (case ais_name => k_is)
    (case lis_name => k_is)
    (case cis_name => k_is)
    (case kis_name => k_is)
    (case ais_signs => k_is)
    (case lis_signs => k_is)
    (case cis_signs => k_is)
    (case kis_signs => k_is)
    (case aneed_signs => k_is)
    (case lneed_signs => k_is)
    (case cneed_signs => k_is)
    (case kneed_signs => k_is)
    (case aneed_number => k_is)
    (case lneed_number => k_is)
    (case cneed_number => k_is)
    (case kneed_number => k_is)
    (case arow_number => k_is)
    (case lrow_number => k_is)
    (case crow_number => k_is)
    (case krow_number => k_is)
    (case arow_by => k_is)
    (case lrow_by => k_is)
    (case crow_by => k_is)
    (case krow_by => k_is)
    (case aspots_of => k_is)
    (case lspots_of => k_is)
    (case cspots_of => k_is)
    (case kspots_of => k_is)
    (case aspot_of => k_is)
    (case lspot_of => k_is)
    (case cspot_of => k_is)
    (case kspot_of => k_is)
    (case apair_of => k_is)
    (case lpair_of => k_is)
    (case cpair_of => k_is)
    (case kpair_of => k_is)
    (case alengths_of => k_is)
    (case llengths_of => k_is)
    (case clengths_of => k_is)
    (case klengths_of => k_is)
    (case aWeb___init__ => k_is)
    (case iWeb___init__ => k_is)
    (case lWeb___init__ => k_is)
    (case cWeb___init__ => k_is)
    (case kWeb___init__ => k_is)
    (case aWeb_places => k_is)
    (case iWeb_places => k_is)
    (case lWeb_places => k_is)
    (case cWeb_places => k_is)
    (case kWeb_places => k_is)
    (case aWeb_ties => k_is)
    (case iWeb_ties => k_is)
    (case lWeb_ties => k_is)
    (case cWeb_ties => k_is)
    (case kWeb_ties => k_is)
    (case aWeb_number => k_is)
    (case iWeb_number => k_is)
    (case lWeb_number => k_is)
    (case cWeb_number => k_is)
    (case kWeb_number => k_is)
    (case aWeb_beside => k_is)
    (case iWeb_beside => k_is)
    (case lWeb_beside => k_is)
    (case cWeb_beside => k_is)
    (case kWeb_beside => k_is)
    (case aneed_kind => k_is)
    (case lneed_kind => k_is)
    (case cneed_kind => k_is)
    (case kneed_kind => k_is)
    (case arows_for_pairs => k_is)
    (case lrows_for_pairs => k_is)
    (case crows_for_pairs => k_is)
    (case krows_for_pairs => k_is)
    (case awhy_many => k_is)
    (case lwhy_many => k_is)
    (case cwhy_many => k_is)
    (case kwhy_many => k_is)
    (case akind_rows => k_is)
    (case lkind_rows => k_is)
    (case ckind_rows => k_is)
    (case kkind_rows => k_is)
    (case anumber_of_row => k_is)
    (case lnumber_of_row => k_is)
    (case cnumber_of_row => k_is)
    (case knumber_of_row => k_is)
    (case apair_far => k_is)
    (case lpair_far => k_is)
    (case cpair_far => k_is)
    (case kpair_far => k_is)
    (case akind_far => k_is)
    (case lkind_far => k_is)
    (case ckind_far => k_is)
    (case kkind_far => k_is)
    (case akind_web => k_is)
    (case lkind_web => k_is)
    (case ckind_web => k_is)
    (case kkind_web => k_is)
    (case aneed_place => k_is)
    (case lneed_place => k_is)
    (case cneed_place => k_is)
    (case kneed_place => k_is)
    (case anearest_of => k_is)
    (case lnearest_of => k_is)
    (case cnearest_of => k_is)
    (case knearest_of => k_is)
    (case areached_from => k_is)
    (case lreached_from => k_is)
    (case creached_from => k_is)
    (case kreached_from => k_is)
    (case afar => k_is)
    (case lfar => k_is)
    (case cfar => k_is)
    (case kfar => k_is)
    (case aw_cell => k_is)
    (case lw_cell => k_is)
    (case cw_cell => k_is)
    (case kw_cell => k_is)
    (case aw_box => k_is)
    (case lw_box => k_is)
    (case cw_box => k_is)
    (case kw_box => k_is)
    (case aw_take => k_is)
    (case lw_take => k_is)
    (case cw_take => k_is)
    (case kw_take => k_is)
    (case aw_signs => k_is)
    (case lw_signs => k_is)
    (case cw_signs => k_is)
    (case kw_signs => k_is)
    (case aw_pairs => k_is)
    (case lw_pairs => k_is)
    (case cw_pairs => k_is)
    (case kw_pairs => k_is)
    (case aw_many => k_is)
    (case lw_many => k_is)
    (case cw_many => k_is)
    (case kw_many => k_is)
    (case aw_due => k_is)
    (case lw_due => k_is)
    (case cw_due => k_is)
    (case kw_due => k_is)
    (case aw_refused => k_is)
    (case lw_refused => k_is)
    (case cw_refused => k_is)
    (case kw_refused => k_is)
    (case aw_asked_right => k_is)
    (case lw_asked_right => k_is)
    (case cw_asked_right => k_is)
    (case kw_asked_right => k_is)
    (case aw_refusals_right => k_is)
    (case lw_refusals_right => k_is)
    (case cw_refusals_right => k_is)
    (case kw_refusals_right => k_is)
    (case aw_web_right => k_is)
    (case lw_web_right => k_is)
    (case cw_web_right => k_is)
    (case kw_web_right => k_is)
    (case alaw => k_is)
    (case llaw => k_is)
    (case claw => k_is)
    (case klaw => k_is)
    (case pg_Web => k_is)
    (case hd_Web => k_is)
    (case po_Web => k_is)
    (case sa_Web => k_is)
    (case mk_Web => k_is)
    (case kc_Web => k_is)
    (case nspots_Web => k_is)
    (case nnames_Web => k_is)
    (case nlengths_Web => k_is)
    (case L_NoKind => k_is)
    (case sa_NoKind => k_is)
    (case be_NoKind => k_is)
    (case ty_NoKind => k_is)
    (case kc_NoKind => k_is)
    (case ti_NoKind => k_is)
    (case ga_NoKind => k_is)
    (case gg_NoKind => k_is)
    (case hd_NoKind => k_is)
    (case nfound_NoKind => k_is)
    (case L_NoNumber => k_is)
    (case sa_NoNumber => k_is)
    (case be_NoNumber => k_is)
    (case ty_NoNumber => k_is)
    (case kc_NoNumber => k_is)
    (case ti_NoNumber => k_is)
    (case ga_NoNumber => k_is)
    (case gg_NoNumber => k_is)
    (case hd_NoNumber => k_is)
    (case nfound_NoNumber => k_is)
    (case L_NoSigns => k_is)
    (case sa_NoSigns => k_is)
    (case be_NoSigns => k_is)
    (case ty_NoSigns => k_is)
    (case kc_NoSigns => k_is)
    (case ti_NoSigns => k_is)
    (case ga_NoSigns => k_is)
    (case gg_NoSigns => k_is)
    (case hd_NoSigns => k_is)
    (case nfound_NoSigns => k_is)
    (case s_NoSigns_NoSigns => k_is)
    (case s_NoKind_NoSigns => k_is)
    (case s_NoKind_NoKind => k_is)
    (case s_NoNumber_NoSigns => k_is)
    (case s_NoNumber_NoKind => k_is)
    (case s_NoNumber_NoNumber => k_is)
    (case rd_MarkError => k_is)
    (case ga_MarkError => k_is)
    (case in_MarkError => k_is)
    (case zabs => k_is)
    (case zall => k_is)
    (case zbool => k_is)
    (case zdivmod => k_is)
    (case zenumerate => k_is)
    (case zint => k_is)
    (case zisinstance => k_is)
    (case zlen => k_is)
    (case zlist => k_is)
    (case zmax => k_is)
    (case zmin => k_is)
    (case zrange => k_is)
    (case zrepr => k_is)
    (case zsorted => k_is)
    (case zstr => k_is)
    (case ztuple => k_is)
    (case yKINDS => k_is)
    (case LKINDS => k_is)
    (case yLETTERS_kinds => k_is)
    (case yLETTERS_words => k_is)
    (case yMOST_LENGTH => k_is)
    (case yMOST_PLACES_kinds => k_is)
    (case yMOST_PLACES_webs => k_is)
    (case yMOST_SIGNS => k_is)
    (case yMOST_TIES => k_is)
    (case yMOST_kinds => k_is)
    (case yMOST_signs => k_is)
    (case O_NoKind => decide +kernel)
    (case O_NoNumber => decide +kernel)
    (case O_NoSigns => decide +kernel)
    (case OKINDS => decide +kernel)
