import PyProof.Rows.All
import Wide.All
import OpenK.AllK
import Wide.FinOn
import HandS.ForMost
import HandS.IsInst
import HandS.Gcd
import HandS.Wide
import HandS.Zip
import HandS.Conv
import HandS.Flow
import HandS.Walk
import HandS.Codes
import KE.GoesMore
import KE.GoesEnum
import HandS.TupMul
import HandS.TupAny
import HandS.DictComp
import HandS.Text
import KE.KTupSum
import HandS.Strs
import HandS.IterVal
import HandS.Keys
import HandS.Dict
import HandS.More
import KE.KDictKeyed
import KE.SortData
import KE.DataCmp
import KE.KDictCopyH
import PySem.Challenge.RW_sameontrees_k16_numbers_that_reads_tell
import HandS.ForExc
import HandS.ExcIs
import HandS.TryMany
import PyProof.StrOps2
import HandS.SortRule
import HandS.Style
import HandS.EndBits
import KE.IntBitsLaws
set_option Elab.async false
set_option linter.all false
set_option maxRecDepth 100000
/-! a small layer of our own over HandS: plain data that never changes, defs by name, zip of a list and a tuple -/
namespace Ly
open PySem PySem.Spec PyProof.Rows L2

/-! ### frames -/
/-- every tuple that is tracked stays -/
def TK (H H' : Hp) : Prop := ∀ b xs, H b = some (.tup xs) → H' b = some (.tup xs)
theorem TK.rfl (H : Hp) : TK H H := fun _ _ h => h
theorem TK.trans {H H1 H2 : Hp} (a : TK H H1) (b : TK H1 H2) : TK H H2 := fun c o h => b c o (a c o h)
theorem tk_same {H H' : Hp} (s : Same H H') : TK H H' := fun b _ h => s b _ h
theorem tk_new {H : Hp} {p : Addr} {o : HO} (h : H p = none) : TK H (upd H p o) := fun b xs e => by
  rw [upd_ne (ne_of_none e h)]; exact e
theorem tk_lst {H : Hp} {p : Addr} {o : HO} {xs : List V} (h : H p = some (.lst xs)) : TK H (upd H p o) := fun b ys e => by
  have : b ≠ p := by
    intro z; subst z; rw [h] at e; cases e
  rw [upd_ne this]; exact e
theorem same_new {H : Hp} {p : Addr} {o : HO} (h : H p = none) : Same H (upd H p o) := fun b x e => by
  rw [upd_ne (ne_of_none e h)]; exact e

/-! ### data: none, bools, ints, texts, tuples of such -/
/-- a tuple that stands: tracked, or of the module's own -/
def ITup (K : PySem.W.Frag) (H : Hp) (a : Addr) (xs : List V) : Prop :=
  H a = some (.tup xs) ∨ ∃ (o : Obj) (its : Array Value) (n : Nat), K.lookup a = some o ∧ o.cls = .type "tuple" ∧ o.data = .seq its n ∧ its.size ≤ sizeLine ∧ Vals xs its.toList
theorem ITup.sq {K : PySem.W.Frag} {H : Hp} {a : Addr} {xs : List V} (h : ITup K H a xs) : SqT K H a xs := h.elim (fun e => .inl (.inl e)) .inr
theorem ITup.mono {K : PySem.W.Frag} {H H' : Hp} {a : Addr} {xs : List V} (t : TK H H') (h : ITup K H a xs) : ITup K H' a xs := h.elim (fun e => .inl (t _ _ e)) .inr
mutual
inductive Im (K : PySem.W.Frag) (H : Hp) : V → PyData → Prop
  | non : Im K H .non .none
  | bl (b : Bool) : Im K H (.bl b) (.bool b)
  | int (i : Int) : Im K H (.int i) (.int i)
  | str (x : Str) : Im K H (.str x) (.str x)
  | tup {a : Addr} {xs : List V} {ds : List PyData} : ITup K H a xs → ImAll K H xs ds → Im K H (.ref a) (.tuple ds)
inductive ImAll (K : PySem.W.Frag) (H : Hp) : List V → List PyData → Prop
  | nil : ImAll K H [] []
  | cons {v : V} {vs : List V} {d : PyData} {ds : List PyData} : Im K H v d → ImAll K H vs ds → ImAll K H (v :: vs) (d :: ds)
end
section
variable {K : PySem.W.Frag} {H H' : Hp}
mutual
theorem Im.mono (t : TK H H') : ∀ (d : PyData) {v : V}, Im K H v d → Im K H' v d
  | .none, _, h => by cases h; exact .non
  | .bool _, _, h => by cases h; exact .bl _
  | .int _, _, h => by cases h; exact .int _
  | .str _, _, h => by cases h; exact .str _
  | .tuple ds, _, h => by cases h with | tup e r => exact .tup (e.mono t) (ImAll.mono t ds r)
  | .list _, _, h => by cases h
  | .dict _, _, h => by cases h
theorem ImAll.mono (t : TK H H') : ∀ (ds : List PyData) {vs : List V}, ImAll K H vs ds → ImAll K H' vs ds
  | [], _, h => by cases h; exact .nil
  | d :: ds, _, h => by cases h with | cons a r => exact .cons (Im.mono t d a) (ImAll.mono t ds r)
end
mutual
theorem Im.dp : ∀ (d : PyData) {v : V}, Im K H v d → Dp K H v d
  | .none, _, h => by cases h; exact .non
  | .bool _, _, h => by cases h; exact .bl _
  | .int _, _, h => by cases h; exact .int _
  | .str _, _, h => by cases h; exact .str _
  | .tuple ds, _, h => by cases h with | tup e r => exact .tup e.sq (ImAll.dp ds r)
  | .list _, _, h => by cases h
  | .dict _, _, h => by cases h
theorem ImAll.dp : ∀ (ds : List PyData) {vs : List V}, ImAll K H vs ds → DpAll K H vs ds
  | [], _, h => by cases h; exact .nil
  | d :: ds, _, h => by cases h with | cons a r => exact .cons (Im.dp d a) (ImAll.dp ds r)
end
theorem ImAll.length : ∀ {vs : List V} {ds : List PyData}, ImAll K H vs ds → vs.length = ds.length
  | [], ds, h => by cases h; rfl
  | _ :: _, _, h => by cases h with | cons _ r => rw [List.length_cons, List.length_cons, ImAll.length r]
theorem ImAll.get : ∀ {vs : List V} {ds : List PyData} {i : Nat} {d : PyData}, ImAll K H vs ds → ds[i]? = some d → ∃ v, vs[i]? = some v ∧ Im K H v d
  | _, _, 0, _, .cons a _, e => by
    simp at e; subst e; exact ⟨_, rfl, a⟩
  | _, _, i + 1, _, .cons _ r, e => by
    obtain ⟨v, h1, h2⟩ := ImAll.get (i := i) r (by simpa using e)
    exact ⟨v, by simpa using h1, h2⟩
  | _, _, _, _, .nil, e => by simp at e
theorem ImAll.getV : ∀ {vs : List V} {ds : List PyData} {i : Nat} {v : V}, ImAll K H vs ds → vs[i]? = some v → ∃ d, ds[i]? = some d ∧ Im K H v d
  | _, _, 0, _, .cons a _, e => by
    simp at e; subst e; exact ⟨_, rfl, a⟩
  | _, _, i + 1, _, .cons _ r, e => by
    obtain ⟨v, h1, h2⟩ := ImAll.getV (i := i) r (by simpa using e)
    exact ⟨v, by simpa using h1, h2⟩
  | _, _, _, _, .nil, e => by simp at e
theorem ImAll.snoc : ∀ {vs : List V} {ds : List PyData} {v : V} {d : PyData}, ImAll K H vs ds → Im K H v d → ImAll K H (vs ++ [v]) (ds ++ [d])
  | _, _, _, _, .nil, a => .cons a .nil
  | _, _, _, _, .cons b r, a => .cons b (ImAll.snoc r a)
theorem Im.tuple_inv {v : V} {ds : List PyData} (h : Im K H v (.tuple ds)) : ∃ a xs, v = .ref a ∧ ITup K H a xs ∧ ImAll K H xs ds := by
  cases h with | tup e r => exact ⟨_, _, rfl, e, r⟩
theorem Im.int_inv {v : V} {i : Int} (h : Im K H v (.int i)) : v = .int i := by cases h; rfl
theorem Im.bool_inv {v : V} {i : Bool} (h : Im K H v (.bool i)) : v = .bl i := by cases h; rfl
theorem Im.str_inv {v : V} {i : Str} (h : Im K H v (.str i)) : v = .str i := by cases h; rfl
theorem Im.none_inv {v : V} (h : Im K H v .none) : v = .non := by cases h; rfl
theorem ImAll.cons_inv {vs : List V} {d : PyData} {ds : List PyData} (h : ImAll K H vs (d :: ds)) : ∃ v r, vs = v :: r ∧ Im K H v d ∧ ImAll K H r ds := by
  cases h with | cons a r => exact ⟨_, _, rfl, a, r⟩
theorem ImAll.nil_inv {vs : List V} (h : ImAll K H vs []) : vs = [] := by cases h; rfl
/-- a new tuple of data -/
theorem Im.new {p : Addr} {xs : List V} {ds : List PyData} (n : H p = none) (r : ImAll K H xs ds) : Im K (upd H p (.tup xs)) (.ref p) (.tuple ds) :=
  .tup (.inl upd_same) (ImAll.mono (tk_new n) ds r)
end

/-! ### defs by their names -/
section
variable (P : Program) (w : World) (K : PySem.W.Frag) (mg : Str → Option Value) (base : Heap)
/-- the def st that the name x holds keeps the promise sp, by at most level k; nothing is raised out of it -/
structure Def (k : Nat) (x : Str) (st : Stmt) (ps : List Str) (sp : Sp) : Prop where
  ex : ∃ (f : Addr) (fd : FuncData), FnOk P w K mg base CX0 k f fd ps sp ∧ mg x = some (.ref f) ∧ PySem.W.keepIn K (.ref f) = true ∧ L2.Binds K fd ps [] ∧ Fun K x x st f fd
end
section
variable {X : Cx} {k : Nat} {x : Str} {st : Stmt} {ps ks : List Str} {sp : Sp} {p pos : Pos} {e : Expr} {es : List Expr} {kws : List Keyword} {t tk : TA} {g : List Value → List Value → List Value} {gV : List V → List V → List V}
theorem pe_def (O : Def X.prog X.w X.K X.mg X.base k x st ps sp) (hr : Room k X.A) (hg : Gl X x) (ha : PA X (e :: es) t) (hdb : (x == ("__debug__" : Str)) = false := by decide)
    (he : starEach (e :: es) X.env = (false, eval e X.env) :: starEach es X.env := by rfl) (hpl : (backTo pos (starEach es X.env)).any (·.1) = false := by rfl) :
    PE X (.Call (.Name x p) (e :: es) [] pos) (tCall sp [] E0 t) := by
  obtain ⟨f, fd, F, hm, hk, hb, _⟩ := O.ex
  exact pe_call F hr hg hm hk hb .nil pass0 ha hdb he hpl
/-- all arguments by their names -/
theorem pe_defK (O : Def X.prog X.w X.K X.mg X.base k x st ps sp) (hr : Room k X.A) (hg : Gl X x) (kb : ∀ f fd, Fun X.K x x st f fd → KBinds X.K fd ps ks g gV) (hkw : PK X kws tk)
    (hall : (backToKw pos (keywordEach kws X.env)).all (·.1.isSome) = true := by rfl) (hks : (backToKw pos (keywordEach kws X.env)).filterMap (·.1) = ks := by rfl) (hdb : (x == ("__debug__" : Str)) = false := by decide)
    (hpl : ((backTo pos (starEach [] X.env)).any (·.1) || (backToKw pos (keywordEach kws X.env)).any (·.1.isNone)) = false := by rfl) :
    PE X (.Call (.Name x p) [] kws pos) (tCallK sp gV E0 tNil tk) := by
  obtain ⟨f, fd, F, hm, hk, _, U⟩ := O.ex
  refine ⟨fun pins s σ H Q I h => wpAny_Call_Name_kw (ld_glob I hg hm (PySem.W.callWith_KW0 (h₀ := X.base) I.ok.mod.kin hk hall (thn (hkw.run pos pins s σ H _ I h) ?_) hpl) hdb)⟩
  rintro ws s2 ⟨zs, H2, I2, rz, q2⟩
  refine ⟨I2.kIn, ?_⟩
  rw [hks]
  exact run_fnk F hr (kb f fd U) pass0 I2 .nil rz q2
end
/-- a name of the module that holds a value -/
theorem pe_gv {X : Cx} {x : Str} {v : V} {pos : Pos} (hg : Gl X x) (h : ∃ u, X.mg x = some u ∧ RelV v u) (hd : (x == ("__debug__" : Str)) = false := by decide) : PE X (.Name x pos) (tC v) := by
  obtain ⟨u, h1, h2⟩ := h
  exact pe_glob hg h1 h2 hd
/-! ### zip of a list and a tuple -/
/-- the list at a and the tuple at b, as they stand at each turn, their items in new pairs -/
def ItzM (K : PySem.W.Frag) (a b : Addr) : It where
  go := fun i H => ∃ xs ys x y, SqL K H a xs ∧ SqT K H b ys ∧ xs[i]? = some x ∧ ys[i]? = some y
  yld := fun i H v H' => ∃ T x y, v = .ref T ∧ H T = none ∧ H' = upd H T (.tup [x, y]) ∧ (∀ l, SqL K H a l → l[i]? = some x) ∧ ∀ l, SqT K H b l → l[i]? = some y
  stop := fun i H => ∃ xs ys : List V, SqL K H a xs ∧ SqT K H b ys ∧ i ≤ xs.length ∧ i ≤ ys.length ∧ (i = xs.length ∨ i = ys.length)
theorem in5 {z a b c d e : Addr} (h : z ∈ [a, b, c, d, e]) : z = a ∨ z = b ∨ z = c ∨ z = d ∨ z = e := by simpa using h
theorem turnM {P : Program} {w : World} {K : PySem.W.Frag} {elts : List Expr} {kk : Nat} {tpos : Pos} {a b z TI TO i1 i2 : Addr} (S : ZipSep2 z TI TO i1 i2 [i1, a] [i2, b]) :
    Turn P w K (.Tuple elts kk tpos) (ItzM K a b) [z, TI, TO, i1, i2] z (fun i h => IsZip h z TI TO .none ∧ IsTupOf2 h TI (.ref i1) (.ref i2) ∧ (∃ x y, IsTupOf2 h TO x y) ∧ h.IsListIter i1 a i ∧ h.IsTupleIter i2 b i) := by
  have n12 : i1 ≠ i2 := fun q => S.sep1_2 (by rw [q]; exact List.mem_cons_self ..)
  have z1 := S.zi1
  have z2 := S.zi2
  have t1 := S.Ti1
  have t2 := S.Ti2
  have keep4 : ∀ {h h' : Heap} {c : Addr} {o : Obj}, (∀ c o, c ≠ z → c ≠ TO → c ≠ i1 → c ≠ i2 → h.get? c = some o → h'.get? c = some o) → c ∉ [z, TI, TO, i1, i2] → h.get? c = some o → h'.get? c = some o :=
    fun k hc q => k _ _ (fun e => hc (by simp [e])) (fun e => hc (by simp [e])) (fun e => hc (by simp [e])) (fun e => hc (by simp [e])) q
  have size5 : ∀ {h : Heap} {i : Nat}, IsZip h z TI TO .none → IsTupOf2 h TI (.ref i1) (.ref i2) → (∃ x y, IsTupOf2 h TO x y) → h.IsListIter i1 a i → h.IsTupleIter i2 b i → ∀ c ∈ [z, TI, TO, i1, i2], c < h.objs.size := by
    intro h i hz hT ⟨x, y, hO⟩ ⟨o1, e1, _⟩ ⟨o2, e2, _⟩ c hc
    rcases in5 hc with q | q | q | q | q <;> subst q
    · exact Heap.lt_size hz
    · exact Heap.lt_size hT
    · exact Heap.lt_size hO
    · exact Heap.lt_size e1
    · exact Heap.lt_size e2
  refine { mem := List.mem_cons_self .., obj := ?_, keep := ?_, item := ?_, done := ?_, self := fun A i s Q E st h => wpAny_pyIter_zip st.1 h }
  · rintro i h ⟨hz, hT, ⟨x, y, hO⟩, ⟨o1, e1, _, d1⟩, ⟨o2, e2, _, d2⟩⟩ c hc
    rcases in5 hc with q | q | q | q | q <;> subst q
    · exact ⟨_, hz, fun v q => nomatch q⟩
    · exact ⟨_, hT, fun v q => nomatch q⟩
    · exact ⟨_, hO, fun v q => nomatch q⟩
    · exact ⟨o1, e1, fun v q => by rw [d1] at q; cases q⟩
    · exact ⟨o2, e2, fun v q => by rw [d2] at q; cases q⟩
  · rintro i h h' ⟨hz, hT, ⟨x, y, hO⟩, l1, l2⟩ k
    exact ⟨k z (by simp) _ hz, k TI (by simp) _ hT, ⟨x, y, k TO (by simp) _ hO⟩, l1.at fun o q => k i1 (by simp) o q, l2.at fun o q => k i2 (by simp) o q⟩
  · intro X hP hw hK hc i pins s σ H E I hf st hg
    subst hP hw hK
    obtain ⟨hz, hT, hO, l1, l2⟩ := st
    have lts := size5 hz hT hO l1 l2
    obtain ⟨x0, y0, hO⟩ := hO
    obtain ⟨xs, ys, x, y, qx, qy, hx, hy⟩ := hg
    obtain ⟨its, rv, p, _⟩ := I.list qx
    obtain ⟨its2, rv2, p2, _⟩ := I.tuple qy
    obtain ⟨u, hu, ru⟩ := rv.get hx
    obtain ⟨u2, hu2, ru2⟩ := rv2.get hy
    have a1 : a ≠ i1 := fun q => by
      obtain ⟨o, ho, c, _⟩ := l1
      obtain ⟨o', ho', c', _⟩ := p.isList
      rw [← q, ho'] at ho; cases ho
      rw [c'] at c; simp at c
    have b2 : b ≠ i2 := fun q => by
      obtain ⟨o, ho, c, _⟩ := l2
      obtain ⟨o', ho', c', _⟩ := p2
      rw [← q, ho'] at ho; cases ho
      rw [c'] at c; simp at c
    have hd : X.A.in1.handled = none := I.ok.hd hc
    have D1 := Draws.list (prog := X.prog) (w := X.w) hd i1 a a1 its.toArray
    have D2 := Draws.tuple (prog := X.prog) (w := X.w) hd i2 b b2 its2.toArray
    have s1 : i < its.toArray.size := by
      have := (List.getElem?_eq_some_iff.mp hu).1
      simpa using this
    have s2 : i < its2.toArray.size := by
      have := (List.getElem?_eq_some_iff.mp hu2).1
      simpa using this
    refine wpAny_pyNext_zipD2_item S D1 D2 hz hT hO ⟨l1, p.isList⟩ ⟨l2, p2⟩ s1 s2 fun v1 v2 h' tk e1 e2 z' O' st1 st2 hN hsz hk => ?_
    have ev1 : u = v1 := by
      have : its[i]? = some v1 := by simpa using e1
      rw [hu] at this; exact Option.some.inj this
    have ev2 : u2 = v2 := by
      have : its2[i]? = some v2 := by simpa using e2
      rw [hu2] at this; exact Option.some.inj this
    subst ev1 ev2
    refine ⟨_, rfl, wpAny_letOwnedTupleGo_zip (s := { s with heap := h', toks := tk }) z' fun h2 zz sb => ?_⟩
    have zlt : z < s.heap.objs.size := lts z (by simp)
    have pair : h2.get? s.heap.objs.size = some { cls := .type "tuple", data := .seq #[u, u2] } := (sb.2 _ (Nat.ne_of_gt zlt)).trans hN
    have new : ObjOk X.prog X.w (upd H s.heap.objs.size (.tup [x, y])) h2 s.heap.objs.size (.tup [x, y]) := ⟨by show 2 ≤ sizeLine; decide, [u, u2], .cons ru (.cons ru2 .nil), ⟨_, pair, rfl, _, rfl⟩⟩
    have I2 : Inv X pins σ (upd H s.heap.objs.size (.tup [x, y])) { s with heap := h2, toks := tk } :=
      I.turnedNew (t' := tk) (ch := [z, TI, TO, i1, i2]) (fun c o hb q => (sb.2 c (fun e => hb (by simp [e]))).trans (keep4 hk hb q)) hf (Nat.le_refl _) new
    refine ⟨.ref s.heap.objs.size, _, I2, rfl, ⟨_, x, y, rfl, I.hok.fresh (Nat.le_refl _), rfl, fun l hl => by rw [I.list_inj hl qx]; exact hx, fun l hl => by rw [I.tuple_inj hl qy]; exact hy⟩, ⟨zz, ?_, ⟨u, u2, ?_⟩, ?_, ?_⟩, fun c hc => ?_⟩
    · exact (sb.2 _ S.TIz).trans (hk _ _ S.TIz S.TITO S.TIi1 S.TIi2 hT)
    · exact (sb.2 _ S.TOz).trans O'
    · exact st1.1.at fun o q => (sb.2 _ z1.symm).trans q
    · exact st2.1.at fun o q => (sb.2 _ z2.symm).trans q
    · rw [upd_ne (Nat.ne_of_lt (lts c hc))]
      exact (hf c hc).1
  · intro X hP hw hK hc i pins s σ H E I hf st hg
    subst hP hw hK
    obtain ⟨hz, hT, ⟨x0, y0, hO⟩, l1, l2⟩ := st
    obtain ⟨xs, ys, qx, qy, le1, le2, hend⟩ := hg
    obtain ⟨its, rv, p, _⟩ := I.list qx
    obtain ⟨its2, rv2, p2, _⟩ := I.tuple qy
    have a1 : a ≠ i1 := fun q => by
      obtain ⟨o, ho, c, _⟩ := l1
      obtain ⟨o', ho', c', _⟩ := p.isList
      rw [← q, ho'] at ho; cases ho
      rw [c'] at c; simp at c
    have b2 : b ≠ i2 := fun q => by
      obtain ⟨o, ho, c, _⟩ := l2
      obtain ⟨o', ho', c', _⟩ := p2
      rw [← q, ho'] at ho; cases ho
      rw [c'] at c; simp at c
    have hd : X.A.in1.handled = none := I.ok.hd hc
    have e1 := rv.length
    have e2 := rv2.length
    refine wpAny_pyNext_zipD2_end S (Draws.list (prog := X.prog) (w := X.w) hd i1 a a1 its.toArray) (Draws.tuple (prog := X.prog) (w := X.w) hd i2 b b2 its2.toArray) hz hT hO ⟨l1, p.isList⟩ ⟨l2, p2⟩ (by simp; omega) (by simp; omega) (by simp; omega) fun h' tk hk => ?_
    exact ⟨rfl, I.turnedL (t' := tk) (ch := [z, TI, TO, i1, i2]) (fun c o hb q => keep4 hk hb q) hf⟩
def iZipM (K : PySem.W.Frag) (ta : TA) : TI := fun σ H R => ta σ H fun vs H1 => ∃ a b xs ys, vs = [.ref a, .ref b] ∧ SqL K H1 a xs ∧ SqT K H1 b ys ∧ R (ItzM K a b) H1
theorem pi_zipM {X : Cx} {e e2 : Expr} {ta : TA} {p pos tpos : Pos} {elts : List Expr} {kk : Nat} (hg : Gl X "zip") (hm : X.mg "zip" = none) (ha : PA X [e, e2] ta)
    (hs : starEach [e, e2] X.env = (false, eval e X.env) :: starEach [e2] X.env := by rfl) (hpl : (backTo pos (starEach [e2] X.env)).any (·.1) = false := by rfl) :
    PI X (.Tuple elts kk tpos) (.Call (.Name "zip" p) [e, e2] [] pos) (iZipM X.K ta) := by
  refine ⟨fun pins s σ H R I h => Call_ (ld_blt I hg hm PyProof.Rows.boot_zip (PyProof.Rows.callWith_type1 (thn (ha.run pos pins s σ H _ I h) ?_) hs hpl))⟩
  rintro us s1 ⟨vs, H1, I1, r1, a, b, xs, ys, rfl, qx, qy, q⟩
  cases r1 with | cons r rr => cases rr with | cons r' rr =>
  cases rr
  cases r
  cases r'
  obtain ⟨its, rv, p1, _⟩ := I1.list qx
  obtain ⟨its2, rv2, p2, _⟩ := I1.tuple qy
  obtain ⟨o2, ho2, _⟩ := id p2
  have lb : b < s1.heap.objs.size := Heap.lt_size ho2
  have la : a < s1.heap.objs.size := p1.lt
  have S := zip_sep2 (N := s1.heap.objs.size) (fp1 := [a]) (fp2 := [b]) (fun c hc => by simp at hc; rw [hc]; exact la) (fun c hc => by simp at hc; rw [hc]; exact lb)
  refine zip_begins2 (begins_list a its.toArray) (begins_tuple b its2.toArray) p1.isList p2 fun h' hz hT hO g1 g2 hsz hk => wpAny_pyIter_zip hz ?_
  have I2 : Inv X pins σ H1 { s1 with heap := h' } := I1.kept (t' := s1.toks) hk
  refine ⟨_, [s1.heap.objs.size + 4, s1.heap.objs.size + 2, s1.heap.objs.size + 3, s1.heap.objs.size, s1.heap.objs.size + 1], _, _, H1, rfl, I2, turnM S, ⟨hz, hT, ⟨_, _, hO⟩, ⟨_, g1, rfl, rfl⟩, ⟨_, g2, rfl, rfl⟩⟩, fun c hc => ?_, q⟩
  have le : s1.heap.objs.size ≤ c := by
    rcases in5 hc with z | z | z | z | z <;> rw [z] <;> first | exact Nat.le_refl _ | exact Nat.le_add_right _ _
  exact I1.fpOk le (I1.hok.fresh le)
theorem walk_zipM {K : PySem.W.Frag} {a b : Addr} {xs ys : List V} (e : xs.length = ys.length) : Walk (ItzM K a b) xs.length (fun H => SqL K H a xs ∧ SqT K H b ys) (YPair (fun i => xs[i]?) (fun i => ys[i]?)) := by
  refine ⟨fun i _ hi q => ?_, fun _ q => ⟨xs, ys, q.1, q.2, Nat.le_refl _, Nat.le_of_eq e, .inl rfl⟩, fun i H v H' _ q y => ?_⟩
  · have h2 : i < ys.length := by omega
    exact ⟨xs, ys, xs[i], ys[i], q.1, q.2, by simp [hi], by simp [h2]⟩
  · obtain ⟨T, x, z, h1, h2, h3, h4, h5⟩ := y
    exact ⟨T, x, z, h1, h2, h3, h4 xs q.1, h5 ys q.2⟩
theorem walk_zipT {K : PySem.W.Frag} {a b : Addr} {xs ys : List V} (e : xs.length = ys.length) : Walk (RZ.ItzT K a b) xs.length (fun H => SqT K H a xs ∧ SqT K H b ys) (YPair (fun i => xs[i]?) (fun i => ys[i]?)) := by
  refine ⟨fun i _ hi q => ?_, fun _ q => ⟨xs, ys, q.1, q.2, .inl (Nat.le_refl _)⟩, fun i H v H' _ q y => ?_⟩
  · have h2 : i < ys.length := by omega
    exact ⟨xs, ys, xs[i], ys[i], q.1, q.2, by simp [hi], by simp [h2]⟩
  · obtain ⟨T, x, z, h1, h2, h3, h4, h5⟩ := y
    exact ⟨T, x, z, h1, h2, h3, h4 xs q.1, h5 ys q.2⟩

/-! ### lists of ints as data -/
section
variable {K : PySem.W.Frag} {H : Hp}
theorem dp_ints : ∀ ns : List Int, DpAll K H (ns.map V.int) (ns.map PyData.int)
  | [] => .nil
  | n :: ns => .cons (.int n) (dp_ints ns)
theorem lay_ints : ∀ ns : List Int, PyData.canLayAll0 (ns.map PyData.int) = true
  | [] => by simp [PyData.canLayAll0]
  | n :: ns => by simp [PyData.canLayAll0, PyData.canLay0, lay_ints ns]
theorem deep_ints : ∀ ns : List Int, PyData.depthAll (ns.map PyData.int) ≤ 1
  | [] => by simp [PyData.depthAll]
  | n :: ns => by
    have := deep_ints ns
    simp only [List.map_cons, PyData.depthAll, PyData.depth]
    omega
theorem shaped_ints (ns : List Int) : SeqAt.shaped (.list (ns.map PyData.int)) = true := by
  have h := deep_ints ns
  have h2 : PyData.depth (.list (ns.map PyData.int)) ≤ 64 := by
    simp only [PyData.depth]; omega
  show (PyData.canLay0 (.list (ns.map PyData.int)) && decide (PyData.depth (.list (ns.map PyData.int)) ≤ 64)) = true
  rw [Bool.and_eq_true]
  exact ⟨by simp only [PyData.canLay0]; exact lay_ints ns, decide_eq_true h2⟩
theorem eqv_ints_nil (ns : List Int) : PyData.eqv (.list (ns.map PyData.int)) (.list []) = ns.isEmpty := by
  cases ns <;> simp [PyData.eqv, PyData.eqvAll]
end
/-! ### rules with the written part told: what they ask hangs on no block's own things -/
section
variable {X : Cx} (K : PySem.W.Frag)
theorem kix_tup (e : X.K = K := by rfl) : IxR X (rIxT K) := by subst e; exact ix_tup
theorem kix_list (e : X.K = K := by rfl) : IxR X (rIxL K) := by subst e; exact ix_list
def rLenK : List V → Hp → VK → Prop := fun xs H Q => ∃ p ys, xs = [.ref p] ∧ (SqL K H p ys ∨ SqT K H p ys) ∧ Q (.int ys.length) H
theorem kcall_len (e : X.K = K := by rfl) : CallR X (.builtin "len") (rLenK K) := by subst e; exact call_len_seq
def rTupK : List V → Hp → VK → Prop := fun xs H Q => ∃ p ys, xs = [.ref p] ∧ ((SqL K H p ys ∧ ∀ l, H l = none → Q (.ref l) (upd H l (.tup ys))) ∨ (SqT K H p ys ∧ Q (.ref p) H))
theorem kcall_tuple (e : X.K = K := by rfl) : CallR X (.type "tuple") (rTupK K) := by subst e; exact call_tuple_of
def rLstK : List V → Hp → VK → Prop := fun xs H Q => ∃ p ys, xs = [.ref p] ∧ (SqL K H p ys ∨ SqT K H p ys) ∧ ∀ l, H l = none → Q (.ref l) (upd H l (.lst ys))
theorem kcall_list (e : X.K = K := by rfl) : CallR X (.type "list") (rLstK K) := by subst e; exact call_list_of
theorem kcall_isi (e : X.K = K := by rfl) : CallR X (.builtin "isinstance") (rIsi K) := by subst e; exact call_isi
theorem kcr_all (hc : X.calm = true := by rfl) (e : X.K = K := by rfl) : CallR X (.builtin "all") (rAll K) := by subst e; exact cr_all hc
theorem kop_eqD (hu : X.A.units + 64 < cLine) (e : X.K = K := by rfl) : OpR X (compareOp .Eq) (rEqD K) := by subst e; exact op_eqD hu
theorem kop_neD (hu : X.A.units + 64 < cLine) (e : X.K = K := by rfl) : OpR X (compareOp .NotEq) (rNeD K) := by subst e; exact op_neD hu
theorem kpi_tup {tg l : Expr} {tl : TE} (hl : PE X l tl) (e : X.K = K := by rfl) : PI X tg l (iTup K tl) := by subst e; exact pi_tup hl
theorem kpi_list {tg l : Expr} {tl : TE} (hl : PE X l tl) (e : X.K = K := by rfl) : PI X tg l (iList K tl) := by subst e; exact pi_list hl
theorem kpg_tup {es : List Expr} {k : Nat} {pos : Pos} {t : TGs} {n : Nat} (hc : X.calm = true) (h : PGs X es t) (hn : (assignEach es X.env).length = n := by rfl) (hst : (assignEach es X.env).findIdx? (·.1) = none := by rfl) (e : X.K = K := by rfl) : PG X (.Tuple es k pos) (gTup K n t) := by
  subst e; exact pg_tup hc h hn hst
theorem kpi_zipM {e1 e2 : Expr} {ta : TA} {p pos tpos : Pos} {elts : List Expr} {kk : Nat} (hg : Gl X "zip") (hm : X.mg "zip" = none) (ha : PA X [e1, e2] ta)
    (hs : starEach [e1, e2] X.env = (false, eval e1 X.env) :: starEach [e2] X.env := by rfl) (hpl : (backTo pos (starEach [e2] X.env)).any (·.1) = false := by rfl) (e : X.K = K := by rfl) :
    PI X (.Tuple elts kk tpos) (.Call (.Name "zip" p) [e1, e2] [] pos) (iZipM K ta) := by subst e; exact pi_zipM hg hm ha hs hpl
theorem kpi_zip {e1 e2 : Expr} {ta : TA} {p pos tpos : Pos} {elts : List Expr} {kk : Nat} (hg : Gl X "zip") (hm : X.mg "zip" = none) (ha : PA X [e1, e2] ta)
    (hs : starEach [e1, e2] X.env = (false, eval e1 X.env) :: starEach [e2] X.env := by rfl) (hpl : (backTo pos (starEach [e2] X.env)).any (·.1) = false := by rfl) (e : X.K = K := by rfl) :
    PI X (.Tuple elts kk tpos) (.Call (.Name "zip" p) [e1, e2] [] pos) (RZ.iZipA K ta) := by subst e; exact RZ.pi_zipA hg hm ha hs hpl
end
/-! ### a comprehension without tests -/
theorem lc_all {J : It} {n : Nat} {G : Hp → Prop} {Y : Nat → Hp → V → Hp → Prop} (w : Walk J n G Y) {g : TG} {te : TE} {vs : List Nat} {σ : L2.St} {H1 : Hp} {D : Addr} {Qd : Hp → Prop} (Pv : Nat → Hp → Prop) (h0 : Pv 0 (upd H1 D (.lst []))) (hG : ∀ i H, i ≤ n → Pv i H → G H)
    (hs : ∀ i x H H', i < n → Pv i H → Y i H x H' → g x (wipe σ vs) H' fun σ2 H2 => wipe σ2 vs = wipe σ vs ∧ te σ2 H2 fun y H4 => ∃ acc, H4 D = some (.lst acc) ∧ acc.length < sizeLine ∧ Pv (i + 1) (upd H4 D (.lst (acc ++ [y]))))
    (hd : ∀ H, Pv n H → Qd H) :
    ∃ W : Nat → Nat → Hp → Prop, (∃ m, W 0 m (upd H1 D (.lst []))) ∧ ∀ i m H, W i m H →
      (J.stop i H ∧ Qd H) ∨ (J.go i H ∧ ∃ Nx : Hp → Prop, (∀ H', Nx H' → ∃ m', m' < m ∧ W (i + 1) m' H') ∧ ∀ x H', J.yld i H x H' → g x (wipe σ vs) H' fun σ2 H2 => wipe σ2 vs = wipe σ vs ∧ tYes σ2 H2 fun b H3 =>
        if b = true then te σ2 H3 fun y H4 => ∃ acc, H4 D = some (.lst acc) ∧ acc.length < sizeLine ∧ Nx (upd H4 D (.lst (acc ++ [y]))) else Nx H3) := by
  refine lc_it w Pv h0 hG (fun i x H H' hi p y => ?_) hd
  have h := hs i x H H' hi p y
  refine Eq.mp (congrArg (g x (wipe σ vs) H') ?_) h
  funext σ2 H2
  simp only [tYes, if_true]
/-- nothing is kept but the values that came: the list holds f of each turn -/
theorem lc_acc {J : It} {n : Nat} {G : Hp → Prop} {Y : Nat → Hp → V → Hp → Prop} (w : Walk J n G Y) {g : TG} {te : TE} {vs : List Nat} {σ : L2.St} {H1 : Hp} {D : Addr} {Qd : Hp → Prop} (Pv : Nat → List V → Hp → Prop) (hn : n < sizeLine) (h0 : Pv 0 [] (upd H1 D (.lst []))) (hG : ∀ i acc H, i ≤ n → Pv i acc H → G H)
    (hs : ∀ i x acc H H', i < n → Pv i acc H → H D = some (.lst acc) → acc.length = i → Y i H x H' → g x (wipe σ vs) H' fun σ2 H2 => wipe σ2 vs = wipe σ vs ∧ te σ2 H2 fun y H4 => H4 D = some (.lst acc) ∧ Pv (i + 1) (acc ++ [y]) (upd H4 D (.lst (acc ++ [y]))))
    (mono : ∀ σ H (Q Q' : VK), (∀ v H1, Q v H1 → Q' v H1) → te σ H Q → te σ H Q') (gmono : ∀ x σ H (Q Q' : L2.St → Hp → Prop), (∀ σ1 H1, Q σ1 H1 → Q' σ1 H1) → g x σ H Q → g x σ H Q')
    (hd : ∀ acc H, Pv n acc H → H D = some (.lst acc) → acc.length = n → Qd H) :
    ∃ W : Nat → Nat → Hp → Prop, (∃ m, W 0 m (upd H1 D (.lst []))) ∧ ∀ i m H, W i m H →
      (J.stop i H ∧ Qd H) ∨ (J.go i H ∧ ∃ Nx : Hp → Prop, (∀ H', Nx H' → ∃ m', m' < m ∧ W (i + 1) m' H') ∧ ∀ x H', J.yld i H x H' → g x (wipe σ vs) H' fun σ2 H2 => wipe σ2 vs = wipe σ vs ∧ tYes σ2 H2 fun b H3 =>
        if b = true then te σ2 H3 fun y H4 => ∃ acc, H4 D = some (.lst acc) ∧ acc.length < sizeLine ∧ Nx (upd H4 D (.lst (acc ++ [y]))) else Nx H3) := by
  refine lc_all w (fun i H => ∃ acc, acc.length = i ∧ H D = some (.lst acc) ∧ Pv i acc H) ⟨[], rfl, upd_same, h0⟩ (fun i H hi ⟨acc, _, _, p⟩ => hG i acc H hi p) (fun i x H H' hi ⟨acc, l, e, p⟩ y => ?_) (fun H ⟨acc, l, e, p⟩ => hd acc H p e l)
  refine gmono _ _ _ _ _ (fun σ1 H2 ⟨a, b⟩ => ⟨a, mono _ _ _ _ (fun v H3 ⟨c, d⟩ => ⟨acc, c, by omega, acc ++ [v], by rw [List.length_append, l]; rfl, upd_same, d⟩) b⟩) (hs i x acc H H' hi p e l y)

/-! ### the end: where each def stands behind the top -/
/-- the name x holds the def st -/
def Here (K : PySem.W.Frag) (mg : Str → Option Value) (x : Str) (st : Stmt) : Prop := ∃ f fd, mg x = some (.ref f) ∧ Fun K x x st f fd
section
variable {P : Program} {w : World} {K : PySem.W.Frag} {mg : Str → Option Value} {base h : Heap}
theorem here (X : K.In h) (G : h.Ns mainGlobals mg) {x : Str} {st : Stmt} {f : Addr} {oc : Value} {od an : Option Addr} {osl : Array (Option Value)} {kV doc pm cdv ct : Value}
    (a : PySem.W.nsIn K mainGlobals x = some (some (.ref f)))
    (l : K.lookup f = some ⟨oc, od, .func (PySem.W.fnOf x x (defArgs st) (defBody st) (defScope st) .none kV doc pm an cdv ct), osl⟩)
    (c : PySem.W.codeIn K cdv x = true) (k : PySem.W.keepIn K (.ref f) = true) : Here K mg x st := ⟨f, _, PySem.W.mg_of X G a, fun_mk l c k⟩
theorem Here.toDef {x : Str} {st : Stmt} {k : Nat} {ps : List Str} {sp : Sp} (z : Here K mg x st) (ok : ∀ {f : Addr} {fd : FuncData}, Fun K x x st f fd → FnOk P w K mg base CX0 k f fd ps sp)
    (b : ∀ (kV doc pm : Value) (an : Option Addr) (cdv ct : Value) (us : List Value), us.length = ps.length → bindArgs (PySem.W.fnOf x x (defArgs st) (defBody st) (defScope st) .none kV doc pm an cdv ct) ⟨us, []⟩ = pure (ps.zip us)) : Def P w K mg base k x st ps sp := by
  obtain ⟨f, fd, hm, F⟩ := z
  exact ⟨f, fd, ok F, hm, F.kp, F.binds b, F⟩
theorem pair_mk (X : K.In h) (G : h.Ns mainGlobals mg) {x : Str} {a : Addr} {i j : Int} {t u : Tok} {dd : Option Addr} {n : Nat} {sl : Array (Option Value)}
    (h1 : PySem.W.nsIn K mainGlobals x = some (some (.ref a))) (h2 : K.lookup a = some ⟨.type "tuple", dd, .seq #[.int i t, .int j u] n, sl⟩) : ∃ a, mg x = some (.ref a) ∧ ∀ H, ITup K H a [.int i, .int j] :=
  ⟨a, PySem.W.mg_of X G h1, fun _ => .inr ⟨_, _, _, h2, rfl, rfl, by show 2 ≤ sizeLine; decide, .cons ⟨_, rfl⟩ (.cons ⟨_, rfl⟩ .nil)⟩⟩
end
end Ly

set_option linter.all false
set_option maxRecDepth 10000
/-! plain mathematics: ratios, sums of products, products of matrices -/
namespace Mt
theorem made_num {t b : Int} (hb : 0 < b) : t / ((Nat.gcd t.natAbs b.natAbs : Nat) : Int) = (Rat.divInt t b).num := by
  rw [Rat.num_divInt, Int.sign_eq_one_of_pos hb, Int.one_mul, Int.gcd_comm]; rfl
theorem made_den {t b : Int} (hb : 0 < b) : b / ((Nat.gcd t.natAbs b.natAbs : Nat) : Int) = ((Rat.divInt t b).den : Int) := by
  rw [Rat.den_divInt, if_neg (by omega), Int.gcd_comm]
  show b / ((Nat.gcd t.natAbs b.natAbs : Nat) : Int) = ((b.natAbs / Nat.gcd t.natAbs b.natAbs : Nat) : Int)
  have e : b = (b.natAbs : Int) := by omega
  rw [Int.natCast_ediv]
  congr 1
theorem gcd_pos {t b : Int} (hb : 0 < b) : (0 : Int) < ((Nat.gcd t.natAbs b.natAbs : Nat) : Int) := by
  have : 0 < Nat.gcd t.natAbs b.natAbs := Nat.gcd_pos_of_pos_right _ (by omega)
  omega
theorem gcd_le {t b : Int} (hb : 0 < b) : ((Nat.gcd t.natAbs b.natAbs : Nat) : Int).natAbs ≤ b.natAbs := by
  show Nat.gcd t.natAbs b.natAbs ≤ b.natAbs
  exact Nat.gcd_le_right _ (by omega)
theorem den_pos (q : Rat) : (0 : Int) < (q.den : Int) := by have := q.den_pos; omega
theorem cop (q : Rat) : Nat.gcd q.num.natAbs ((q.den : Int)).natAbs = 1 := q.reduced
theorem add_as (x y : Rat) : Rat.divInt (x.num * (y.den : Int) + y.num * (x.den : Int)) ((x.den : Int) * (y.den : Int)) = x + y := by
  have hx : (x.den : Int) ≠ 0 := by have := den_pos x; omega
  have hy : (y.den : Int) ≠ 0 := by have := den_pos y; omega
  rw [← Rat.divInt_add_divInt _ _ hx hy, Rat.num_divInt_den, Rat.num_divInt_den]
theorem mul_as (x y : Rat) : Rat.divInt (x.num * y.num) ((x.den : Int) * (y.den : Int)) = x * y := by
  rw [← Rat.divInt_mul_divInt, Rat.num_divInt_den, Rat.num_divInt_den]
theorem num_zero {q : Rat} (h : q.num = 0) : q = 0 := by
  have := Rat.num_divInt_den q
  rw [h] at this
  rw [← this]
  simp
/-- bounds of both parts -/
def Bd (n m : Nat) (q : Rat) : Prop := q.num.natAbs < 2 ^ n ∧ ((q.den : Int)).natAbs < 2 ^ m
theorem Bd.mono {n m n' m' : Nat} {q : Rat} (h : Bd n m q) (hn : n ≤ n') (hm : m ≤ m') : Bd n' m' q :=
  ⟨Nat.lt_of_lt_of_le h.1 (Nat.pow_le_pow_right (by decide) hn), Nat.lt_of_lt_of_le h.2 (Nat.pow_le_pow_right (by decide) hm)⟩
theorem bd_divInt {n m : Nat} {t b : Int} (hb : 0 < b) (ht : t.natAbs < 2 ^ n) (hm : b.natAbs < 2 ^ m) : Bd n m (Rat.divInt t b) := by
  refine ⟨?_, ?_⟩
  · rw [← made_num hb, Int.natAbs_ediv_of_dvd (Int.ofNat_dvd_left.mpr (Nat.gcd_dvd_left _ _))]
    exact Nat.lt_of_le_of_lt (Nat.div_le_self _ _) ht
  · rw [← made_den hb, Int.natAbs_ediv_of_dvd (Int.ofNat_dvd_left.mpr (Nat.gcd_dvd_right _ _))]
    exact Nat.lt_of_le_of_lt (Nat.div_le_self _ _) hm
theorem lt_mul {i j : Int} {a b : Nat} (ha : i.natAbs < 2 ^ a) (hb : j.natAbs < 2 ^ b) : (i * j).natAbs < 2 ^ (a + b) := by
  rw [Int.natAbs_mul, Nat.pow_add]
  exact Nat.mul_lt_mul'' ha hb
theorem lt_add {i j : Int} {a : Nat} (ha : i.natAbs < 2 ^ a) (hb : j.natAbs < 2 ^ a) : (i + j).natAbs < 2 ^ (a + 1) := by
  have := Int.natAbs_add_le i j
  rw [Nat.pow_succ]; omega
theorem lt_up {i : Int} {a b : Nat} (ha : i.natAbs < 2 ^ a) (h : a ≤ b) : i.natAbs < 2 ^ b := Nat.lt_of_lt_of_le ha (Nat.pow_le_pow_right (by decide) h)
theorem Bd.mul {n m n' m' : Nat} {x y : Rat} (h : Bd n m x) (k : Bd n' m' y) : Bd (n + n') (m + m') (x * y) := by
  rw [← mul_as]
  exact bd_divInt (Int.mul_pos (den_pos x) (den_pos y)) (lt_mul h.1 k.1) (lt_mul h.2 k.2)
theorem Bd.add {n m n' m' N : Nat} {x y : Rat} (h : Bd n m x) (k : Bd n' m' y) (h1 : n + m' ≤ N) (h2 : n' + m ≤ N) : Bd (N + 1) (m + m') (x + y) := by
  rw [← add_as]
  exact bd_divInt (Int.mul_pos (den_pos x) (den_pos y)) (lt_add (lt_up (lt_mul h.1 k.2) h1) (lt_up (lt_mul k.1 h.2) h2)) (lt_mul h.2 k.2)
theorem bd_zero {n m : Nat} (hm : 1 ≤ m) : Bd n m 0 := by
  refine ⟨?_, ?_⟩
  · show 0 < 2 ^ n
    exact Nat.two_pow_pos n
  · show 1 < 2 ^ m
    exact Nat.lt_of_lt_of_le (by decide : 1 < 2 ^ 1) (Nat.pow_le_pow_right (by decide) hm)

/-! ### sums of products -/
def dot : List Rat → List Rat → Rat
  | x :: xs, y :: ys => x * y + dot xs ys
  | _, _ => 0
theorem dot_nil (ys : List Rat) : dot [] ys = 0 := by cases ys <;> rfl
theorem dot_nil2 (xs : List Rat) : dot xs [] = 0 := by cases xs <;> rfl
theorem dot_take : ∀ {xs ys : List Rat} {i : Nat} {x y : Rat}, xs[i]? = some x → ys[i]? = some y → dot (xs.take (i + 1)) (ys.take (i + 1)) = dot (xs.take i) (ys.take i) + x * y
  | a :: xs, b :: ys, 0, x, y, h, k => by
    simp at h k; subst h k
    simp [dot]; grind
  | a :: xs, b :: ys, i + 1, x, y, h, k => by
    have ih := dot_take (xs := xs) (ys := ys) (i := i) (by simpa using h) (by simpa using k)
    simp only [List.take_succ_cons, dot] at ih ⊢
    rw [ih]; grind
  | [], _, _, _, _, h, _ => by simp at h
  | _ :: _, [], _, _, _, _, k => by simp at k
/-- a row and a multiple of another one -/
def addS (acc : List Rat) (w : Rat) (r : List Rat) : List Rat := List.zipWith (fun o t => o + w * t) acc r
/-- the sum of multiples of rows, ahead of it acc -/
def comb : List Rat → List (List Rat) → List Rat → List Rat
  | w :: ws, r :: rs, acc => comb ws rs (addS acc w r)
  | _, _, acc => acc
theorem addS_length {acc r : List Rat} {w : Rat} (h : r.length = acc.length) : (addS acc w r).length = acc.length := by
  unfold addS; rw [List.length_zipWith]; omega
theorem addS_zero : ∀ {acc r : List Rat}, r.length = acc.length → addS acc 0 r = acc
  | [], [], _ => rfl
  | a :: acc, b :: r, h => by
    have ih := addS_zero (acc := acc) (r := r) (by simpa using h)
    show (a + 0 * b) :: addS acc 0 r = a :: acc
    rw [ih, Rat.zero_mul, Rat.add_zero]
  | [], _ :: _, h => by simp at h
  | _ :: _, [], h => by simp at h
theorem addS_get {acc r : List Rat} {w : Rat} {k : Nat} {a b : Rat} (ha : acc[k]? = some a) (hb : r[k]? = some b) : (addS acc w r)[k]? = some (a + w * b) := by
  unfold addS; rw [List.getElem?_zipWith, ha, hb]
theorem comb_length : ∀ {ws : List Rat} {rs : List (List Rat)} {acc : List Rat}, (∀ r ∈ rs, r.length = acc.length) → (comb ws rs acc).length = acc.length
  | [], _, _, _ => by simp [comb]
  | _ :: _, [], _, _ => by simp [comb]
  | w :: ws, r :: rs, acc, h => by
    have h0 := h r (List.mem_cons_self ..)
    have e := addS_length (w := w) h0
    show (comb ws rs (addS acc w r)).length = acc.length
    rw [comb_length (fun q hq => by rw [e]; exact h q (List.mem_cons_of_mem _ hq)), e]
/-- the k-th column -/
def col (rs : List (List Rat)) (k : Nat) : List Rat := rs.map fun r => r.getD k 0
theorem comb_get : ∀ {ws : List Rat} {rs : List (List Rat)} {acc : List Rat} {k : Nat} {a : Rat}, (∀ r ∈ rs, r.length = acc.length) → acc[k]? = some a → (comb ws rs acc)[k]? = some (a + dot ws (col rs k))
  | [], rs, acc, k, a, _, ha => by
    rw [dot_nil, Rat.add_zero]; simpa [comb] using ha
  | _ :: _, [], acc, k, a, _, ha => by
    show acc[k]? = some (a + dot _ [])
    rw [dot_nil2, Rat.add_zero]; exact ha
  | w :: ws, r :: rs, acc, k, a, h, ha => by
    have h0 := h r (List.mem_cons_self ..)
    have hk : k < r.length := by rw [h0]; exact (List.getElem?_eq_some_iff.mp ha).1
    have hr : r[k]? = some r[k] := List.getElem?_eq_getElem hk
    have e := addS_length (w := w) h0
    have ih := comb_get (ws := ws) (rs := rs) (acc := addS acc w r) (k := k) (fun q hq => by rw [e]; exact h q (List.mem_cons_of_mem _ hq)) (addS_get (w := w) ha hr)
    show (comb ws rs (addS acc w r))[k]? = some (a + (w * r.getD k 0 + dot ws (col rs k)))
    rw [ih, List.getD_eq_getElem?_getD, hr]
    show some (a + w * r[k] + dot ws (col rs k)) = some (a + (w * r[k] + dot ws (col rs k)))
    rw [Rat.add_assoc]
theorem comb_snoc : ∀ {ws : List Rat} {rs : List (List Rat)} {acc : List Rat} {w : Rat} {r : List Rat}, ws.length = rs.length → comb (ws ++ [w]) (rs ++ [r]) acc = addS (comb ws rs acc) w r
  | [], [], _, _, _, _ => rfl
  | a :: ws, b :: rs, acc, w, r, h => by
    show comb (ws ++ [w]) (rs ++ [r]) (addS acc a b) = addS (comb ws rs (addS acc a b)) w r
    exact comb_snoc (by simpa using h)
  | [], _ :: _, _, _, _, h => by simp at h
  | _ :: _, [], _, _, _, h => by simp at h
/-- one row times a matrix whose rows have n entries -/
def vm (n : Nat) (r : List Rat) (B : List (List Rat)) : List Rat := comb r B (List.replicate n 0)
theorem vm_as {n : Nat} {r : List Rat} {B : List (List Rat)} (h : ∀ b ∈ B, b.length = n) : vm n r B = (List.range n).map fun k => dot r (col B k) := by
  have h' : ∀ b ∈ B, b.length = (List.replicate n (0 : Rat)).length := fun b hb => by rw [h b hb, List.length_replicate]
  apply List.ext_getElem?
  intro k
  by_cases hk : k < n
  · have e : (List.replicate n (0 : Rat))[k]? = some 0 := by rw [List.getElem?_replicate, if_pos hk]
    have := comb_get (ws := r) h' e
    unfold vm
    rw [this, List.getElem?_map, List.getElem?_range hk, Rat.zero_add]
    rfl
  · have l1 : (vm n r B).length = n := by unfold vm; rw [comb_length h', List.length_replicate]
    rw [List.getElem?_eq_none (by omega), List.getElem?_eq_none (by simp; omega)]
theorem vm_length {n : Nat} {r : List Rat} {B : List (List Rat)} (h : ∀ b ∈ B, b.length = n) : (vm n r B).length = n := by
  rw [vm_as h]; simp
def mm (n : Nat) (A B : List (List Rat)) : List (List Rat) := A.map fun r => vm n r B
theorem dot_addS : ∀ {acc b c : List Rat} {w : Rat}, b.length = acc.length → dot (addS acc w b) c = dot acc c + w * dot b c
  | [], [], c, w, _ => by
    show dot [] c = dot [] c + w * dot [] c
    rw [dot_nil]; grind
  | x :: acc, y :: b, [], w, _ => by
    rw [dot_nil2, dot_nil2, dot_nil2]; grind
  | x :: acc, y :: b, z :: c, w, h => by
    have ih := dot_addS (acc := acc) (b := b) (c := c) (w := w) (by simpa using h)
    show (x + w * y) * z + dot (addS acc w b) c = x * z + dot acc c + w * (y * z + dot b c)
    rw [ih]; grind
  | [], _ :: _, _, _, h => by simp at h
  | _ :: _, [], _, _, h => by simp at h
theorem dot_comb : ∀ {ws : List Rat} {rs : List (List Rat)} {acc c : List Rat}, (∀ r ∈ rs, r.length = acc.length) → dot (comb ws rs acc) c = dot acc c + dot ws (rs.map fun r => dot r c)
  | [], rs, acc, c, _ => by
    rw [dot_nil, Rat.add_zero]; simp [comb]
  | _ :: _, [], acc, c, _ => by
    show dot acc c = dot acc c + dot _ []
    rw [dot_nil2, Rat.add_zero]
  | w :: ws, r :: rs, acc, c, h => by
    have h0 := h r (List.mem_cons_self ..)
    have e := addS_length (w := w) h0
    have ih := dot_comb (ws := ws) (rs := rs) (acc := addS acc w r) (c := c) (fun q hq => by rw [e]; exact h q (List.mem_cons_of_mem _ hq))
    show dot (comb ws rs (addS acc w r)) c = dot acc c + (w * dot r c + dot ws (rs.map fun r => dot r c))
    rw [ih, dot_addS h0, Rat.add_assoc]
theorem dot_zeros : ∀ {n : Nat} {c : List Rat}, dot (List.replicate n 0) c = 0
  | 0, c => dot_nil c
  | n + 1, [] => dot_nil2 _
  | n + 1, z :: c => by
    rw [List.replicate_succ]
    show 0 * z + dot (List.replicate n 0) c = 0
    rw [dot_zeros, Rat.zero_mul, Rat.add_zero]
theorem dot_vm {n : Nat} {r c : List Rat} {B : List (List Rat)} (h : ∀ b ∈ B, b.length = n) : dot (vm n r B) c = dot r (B.map fun b => dot b c) := by
  unfold vm
  rw [dot_comb (fun b hb => by rw [h b hb, List.length_replicate]), dot_zeros, Rat.zero_add]
/-- of three matrices it is the same whichever two come first -/
theorem mm_assoc {n m : Nat} {A B C : List (List Rat)} (hB : ∀ b ∈ B, b.length = n) (hC : ∀ c ∈ C, c.length = m) : mm m (mm n A B) C = mm m A (mm m B C) := by
  unfold mm
  rw [List.map_map]
  refine List.map_congr_left fun r _ => ?_
  show vm m (vm n r B) C = vm m r (B.map fun b => vm m b C)
  have hM : ∀ x ∈ B.map (fun b => vm m b C), x.length = m := fun x hx => by
    obtain ⟨b', _, rfl⟩ := List.mem_map.mp hx
    exact vm_length hC
  rw [vm_as hM, vm_as (r := vm n r B) hC]
  refine List.map_congr_left fun k hk => ?_
  have hk' : k < m := List.mem_range.mp hk
  rw [dot_vm hB]
  congr 1
  unfold col
  rw [List.map_map]
  refine List.map_congr_left fun b _ => ?_
  show dot b (C.map fun r => r.getD k 0) = (vm m b C).getD k 0
  rw [vm_as hC, List.getD_eq_getElem?_getD, List.getElem?_map, List.getElem?_range hk']
  rfl
/-! ### bounds of what comes -/
theorem bd_dot {N M : Nat} : ∀ {i : Nat} {xs ys : List Rat}, (∀ x ∈ xs, ∀ y ∈ ys, Bd N M (x * y)) → xs.length ≤ i → Bd (N + i * (M + 2)) (i * M + 1) (dot xs ys)
  | i, [], ys, _, _ => by rw [dot_nil]; exact bd_zero (by omega)
  | i, _ :: _, [], _, _ => by rw [dot_nil2]; exact bd_zero (by omega)
  | 0, _ :: _, _ :: _, _, h => by simp at h
  | i + 1, x :: xs, y :: ys, h, hl => by
    have ih := bd_dot (i := i) (xs := xs) (ys := ys) (fun a ha b hb => h a (List.mem_cons_of_mem _ ha) b (List.mem_cons_of_mem _ hb)) (by simpa using hl)
    have h0 := h x (List.mem_cons_self ..) y (List.mem_cons_self ..)
    have e1 : (i + 1) * (M + 2) = i * M + 2 * i + M + 2 := by grind
    have e2 : (i + 1) * M = i * M + M := by grind
    have e3 : i * (M + 2) = i * M + 2 * i := by grind
    show Bd _ _ (x * y + dot xs ys)
    have q := Bd.add h0 ih (N := N + i * M + 2 * i + M + 1) (by omega) (by rw [e3]; omega)
    refine q.mono (by rw [e1]; omega) (by rw [e2]; omega)
theorem bd_vm {n : Nat} {ws : List Rat} {B : List (List Rat)} (h : ∀ b ∈ B, b.length = n) (hw : ∀ x ∈ ws, Bd 400 40 x) (hB : ∀ b ∈ B, ∀ y ∈ b, Bd 400 40 y) (hl : ws.length ≤ 48) : ∀ q ∈ vm n ws B, Bd 5000 4000 q := by
  intro q hq
  rw [vm_as h] at hq
  obtain ⟨k, hk, rfl⟩ := List.mem_map.mp hq
  have hk' := List.mem_range.mp hk
  refine (bd_dot (N := 800) (M := 80) (i := 48) (fun x hx y hy => ?_) hl).mono (by decide) (by decide)
  obtain ⟨b, hb, rfl⟩ := List.mem_map.mp hy
  have e : b.getD k 0 ∈ b := by
    have hkb : k < b.length := by rw [h b hb]; exact hk'
    rw [List.getD_eq_getElem?_getD, List.getElem?_eq_getElem hkb]
    exact List.getElem_mem hkb
  exact (Bd.mul (hw x hx) (hB b hb _ e)).mono (by decide) (by decide)
theorem vm_step {n i : Nat} {ws : List Rat} {B : List (List Rat)} {w : Rat} {r : List Rat} (hl : ws.length = B.length) (hw : ws[i]? = some w) (hr : B[i]? = some r) : vm n (ws.take (i + 1)) (B.take (i + 1)) = addS (vm n (ws.take i) (B.take i)) w r := by
  unfold vm
  rw [List.take_add_one, List.take_add_one, hw, hr]
  exact comb_snoc (by rw [List.length_take, List.length_take, hl])
end Mt

set_option Elab.async false
set_option linter.all false
set_option maxRecDepth 100000
/-! ratios, vectors and matrices as data -/
namespace Ly
open PySem PySem.Spec PyProof.Rows L2 Mt
def rD (q : Rat) : PyData := .tuple [.int q.num, .int (q.den : Int)]
def vD (r : List Rat) : PyData := .tuple (r.map rD)
def mD (A : List (List Rat)) : PyData := .tuple (A.map vD)
section
variable {K : PySem.W.Frag} {H H' : Hp} {v : V}
theorem ity {a : Addr} {xs : List V} (h : ITup K H a xs) : TyX K H (.ref a) (.type "tuple") := by
  rcases h with h | ⟨o, its, n, hk, hc, _⟩
  · exact .base (.tup h)
  · exact .kTuple hk hc
theorem rat_inv {q : Rat} (h : Im K H v (rD q)) : ∃ p, v = .ref p ∧ ITup K H p [.int q.num, .int (q.den : Int)] := by
  obtain ⟨a, xs, rfl, h1, h2⟩ := h.tuple_inv
  obtain ⟨x, r, rfl, h3, h4⟩ := h2.cons_inv
  obtain ⟨y, r', rfl, h5, h6⟩ := h4.cons_inv
  rw [h6.nil_inv, h3.int_inv, h5.int_inv] at h1
  exact ⟨a, rfl, h1⟩
theorem rat_mk {q : Rat} {p : Addr} (h : ITup K H p [.int q.num, .int (q.den : Int)]) : Im K H (.ref p) (rD q) := .tup h (.cons (.int _) (.cons (.int _) .nil))
theorem vec_inv {r : List Rat} (h : Im K H v (vD r)) : ∃ p xs, v = .ref p ∧ ITup K H p xs ∧ ImAll K H xs (r.map rD) := h.tuple_inv
theorem mat_inv {A : List (List Rat)} (h : Im K H v (mD A)) : ∃ p xs, v = .ref p ∧ ITup K H p xs ∧ ImAll K H xs (A.map vD) := h.tuple_inv
theorem all_get {α : Type} {f : α → PyData} {xs : List V} {l : List α} {i : Nat} {x : V} (h : ImAll K H xs (l.map f)) (e : xs[i]? = some x) : ∃ a, l[i]? = some a ∧ Im K H x (f a) := by
  obtain ⟨d, h1, h2⟩ := h.getV e
  rw [List.getElem?_map] at h1
  cases hl : l[i]? with
  | none => rw [hl] at h1; simp at h1
  | some a =>
    rw [hl] at h1
    have : f a = d := by simpa using h1
    subst this
    exact ⟨a, rfl, h2⟩
theorem all_at {α : Type} {f : α → PyData} {xs : List V} {l : List α} {i : Nat} {a : α} (h : ImAll K H xs (l.map f)) (e : l[i]? = some a) : ∃ x, xs[i]? = some x ∧ Im K H x (f a) := h.get (by rw [List.getElem?_map, e]; rfl)
theorem all_len {α : Type} {f : α → PyData} {xs : List V} {l : List α} (h : ImAll K H xs (l.map f)) : xs.length = l.length := by rw [h.length, List.length_map]
theorem all_rep {α : Type} {f : α → PyData} {x : V} {a : α} (h : Im K H x (f a)) : ∀ n : Nat, ImAll K H (List.replicate n x) ((List.replicate n a).map f)
  | 0 => .nil
  | n + 1 => by
    rw [List.replicate_succ, List.replicate_succ, List.map_cons]
    exact .cons h (all_rep h n)
theorem flat1 {x : V} : ∀ n : Nat, (List.replicate n [x]).flatten = List.replicate n x
  | 0 => rfl
  | n + 1 => by
    rw [List.replicate_succ, List.flatten_cons, flat1 n]; rfl
/-- the parts so far, one more -/
theorem all_snoc {α : Type} {f : α → PyData} {xs : List V} {l : List α} {i : Nat} {a : α} {x : V} (h : ImAll K H xs ((l.take i).map f)) (e : l[i]? = some a) (r : Im K H x (f a)) : ImAll K H (xs ++ [x]) ((l.take (i + 1)).map f) := by
  rw [List.take_add_one, e, List.map_append]
  exact h.snoc r
end
end Ly

set_option Elab.async false
set_option linter.all false
set_option maxRecDepth 100000
/-! enumerate of a tuple; methods and instances of own classes by their defs -/
namespace Ly
open PySem PySem.Spec PyProof.Rows L2
/-- iter and enumerate as they are laid -/
abbrev tupIt (a : Addr) : Obj := { cls := .type "tuple_iterator", data := .fields #[.ref a, .int 0 0] }
abbrev enumOf (n : Nat) : Obj := { cls := .type "enumerate", data := .fields #[.none, .bool false, .ref n, rawInt 0, .none, .none] }
theorem meets_enumT (a : Addr) (items : Array Value) :
    Meets (Builtin.«enumerate.__new__» ⟨[.type "enumerate", .ref a], []⟩) (fun _ R s => s.heap.IsTuple a items ∧ R (.ok (.ret (.ref (s.heap.push (tupIt a)).objs.size))) { s with heap := (s.heap.push (tupIt a)).push (enumOf s.heap.objs.size) }) :=
  .of_wp fun prog w A R s h => by
    obtain ⟨hp, g, d, tk, os⟩ := s
    obtain ⟨h1, h⟩ := h
    have sub := sub_enumerate
    have go : ∀ {A' : Around} {E Q : Value → Shared → Prop}, Q (.ref hp.objs.size) ⟨hp.push (tupIt a), g, d, tk, os⟩ → wpAny (model prog w) A' (pyIter (.ref a)) Q E ⟨hp, g, d, tk, os⟩ := fun q => (begins_tuple a items).iter prog w _ _ ⟨hp, g, d, tk, os⟩ _ h1 q
    have ld : ∃ o, hp.get? a = some o ∧ o.cls = .type "tuple" := let ⟨o, e1, e2, _⟩ := h1; ⟨o, e1, e2⟩
    obtain ⟨⟨oc, od, dt, sl⟩, lo, lc⟩ := ld
    simp only at lc
    subst lc
    wp_walk using AutoSeq1.wpAny_loadPart' lo, go
    refine wpAny_stack_any fun st => wpAny_pure ?_
    split
    · rename_i c _ _ _ _ _
      cases (c == Value.type "enumerate") <;> (wp_walk using AutoSeq1.wpAny_loadPart' lo, go; exact ⟨_, rfl, h⟩)
    · wp_walk using AutoSeq1.wpAny_loadPart' lo, go
      exact ⟨_, rfl, h⟩
theorem call_enumT {prog : Program} {w : World} {A : Around} {E : Value → Shared → Prop} {s : Shared} {a : Addr} {items : Array Value} {Q : Value → Shared → Prop} (hT : s.heap.IsTuple a items)
    (h : ∀ h', IsEnum h' (s.heap.objs.size + 1) s.heap.objs.size 0 .none → h'.IsTupleIter s.heap.objs.size a 0 → (∀ b o, s.heap.get? b = some o → h'.get? b = some o) → Q (.ref (s.heap.objs.size + 1)) { s with heap := h' }) :
    wpAny (model prog w) A (call (.type "enumerate") [.ref a]) Q E s := by
  refine callType_new F.called_enumerate (by decide) (F.typeCall_enumerate_1 _) (F.newCall_enumerate_1 _) (fun obj => F.args_object_init_2 obj _) F.entry_enumerate_new (meets_enumT a items) ⟨hT, ?_⟩
  have z1 : (s.heap.push (tupIt a)).objs.size = s.heap.objs.size + 1 := Heap.size_push ..
  have g2 : ((s.heap.push (tupIt a)).push (enumOf s.heap.objs.size)).get? (s.heap.push (tupIt a)).objs.size = some (enumOf s.heap.objs.size) := Heap.get?_push_size _ rfl
  have g1 : ((s.heap.push (tupIt a)).push (enumOf s.heap.objs.size)).get? s.heap.objs.size = some (tupIt a) := Heap.get?_push_of_some _ (Heap.get?_push_size _ rfl)
  show _ ∧ _
  rw [z1] at g2 ⊢
  exact ⟨⟨_, g2, rfl⟩, h _ g2 ⟨_, g1, rfl, rfl⟩ fun b o x => Heap.get?_push_of_some _ (Heap.get?_push_of_some _ x)⟩
/-- the tuple at a as it stands at each turn, its items with their numbers in new pairs -/
def IteT (K : PySem.W.Frag) (a : Addr) : It where
  go := fun i H => ∃ xs x, SqT K H a xs ∧ xs[i]? = some x
  yld := fun i H v H' => ∃ T x, v = .ref T ∧ H T = none ∧ H' = upd H T (.tup [.int (i : Nat), x]) ∧ ∀ l, SqT K H a l → l[i]? = some x
  stop := fun i H => ∃ xs : List V, SqT K H a xs ∧ xs.length = i
theorem in2 {z a b : Addr} (h : z ∈ [a, b]) : z = a ∨ z = b := by simpa using h
theorem turnE {P : Program} {w : World} {K : PySem.W.Frag} {elts : List Expr} {kk : Nat} {tpos : Pos} {a e it : Addr} (ne : e ≠ it) :
    Turn P w K (.Tuple elts kk tpos) (IteT K a) [e, it] e (fun i h => (∃ old, IsEnum h e it ((i : Nat) : Int) old) ∧ h.IsTupleIter it a i) := by
  refine { mem := List.mem_cons_self .., obj := ?_, keep := ?_, item := ?_, done := ?_, self := fun A i s Q E st h => let ⟨⟨_, he⟩, _⟩ := st; wpAny_pyIter_enum he h }
  · rintro i h ⟨⟨old, he⟩, ⟨o, ho, hc, hd⟩⟩ b hb
    rcases in2 hb with z | z <;> subst z
    · exact ⟨_, he, fun v q => nomatch q⟩
    · exact ⟨o, ho, fun v q => by rw [hd] at q; cases q⟩
  · rintro i h h' ⟨⟨old, he⟩, hi⟩ k
    exact ⟨⟨old, k e (by simp) _ he⟩, hi.at fun o q => k it (by simp) o q⟩
  · intro X hP hw hK hc i pins s σ H E I hf st hg
    subst hP hw hK
    obtain ⟨⟨old, he⟩, hit⟩ := st
    obtain ⟨xs, x, hq, hx⟩ := hg
    obtain ⟨its, rv, p, _⟩ := I.tuple hq
    obtain ⟨u, hu, ru⟩ := rv.get hx
    have le : e < s.heap.objs.size := Heap.lt_size he
    have li : it < s.heap.objs.size := by obtain ⟨_, q, _⟩ := hit; exact Heap.lt_size q
    have na : a ≠ it := fun q => by
      obtain ⟨o, ho, c, _⟩ := hit
      obtain ⟨o', ho', c', _⟩ := p
      rw [← q, ho'] at ho; cases ho
      rw [c'] at c; simp at c
    have nea : e ≠ a := fun q => by
      obtain ⟨o', ho', c', _⟩ := p
      rw [← q, he] at ho'; cases ho'
      simp at c'
    have hd : X.A.in1.handled = none := I.ok.hd hc
    have D := Draws.tuple (prog := X.prog) (w := X.w) hd it a na its.toArray
    have s1 : i < its.toArray.size := by
      have := (List.getElem?_eq_some_iff.mp hu).1
      simpa using this
    refine wpAny_pyNext_enum_itemC D he ⟨hit, p⟩ s1 ne (by simp [ne, nea]) fun v h' tk ev out st' hT hsz hk => ?_
    have eu : u = v := by
      have : its[i]? = some v := by simpa using ev
      rw [hu] at this; exact Option.some.inj this
    subst eu
    refine ⟨_, rfl, wpAny_letOwnedTupleGo_enum (s := { s with heap := h', toks := tk + 1 }) out fun h2 he2 sb => ?_⟩
    have pair : h2.get? s.heap.objs.size = some { cls := .type "tuple", data := .seq #[.int ((i : Nat) : Int) tk, u] } := (sb.2 _ (Nat.ne_of_gt le)).trans hT
    have new : ObjOk X.prog X.w (upd H s.heap.objs.size (.tup [.int (i : Nat), x])) h2 s.heap.objs.size (.tup [.int (i : Nat), x]) := ⟨by show 2 ≤ sizeLine; decide, [.int ((i : Nat) : Int) tk, u], .cons ⟨_, rfl⟩ (.cons ru .nil), ⟨_, pair, rfl, _, rfl⟩⟩
    have I2 : Inv X pins σ (upd H s.heap.objs.size (.tup [.int (i : Nat), x])) { s with heap := h2, toks := tk + 1 } :=
      I.turnedNew (ch := [e, it]) (fun b o hb q => (sb.2 b (fun z => hb (by simp [z]))).trans (hk b o (fun z => hb (by simp [z])) (fun z => hb (by simp [z])) q)) hf (Nat.le_refl _) new
    refine ⟨.ref s.heap.objs.size, _, I2, rfl, ⟨_, x, rfl, I.hok.fresh (Nat.le_refl _), rfl, fun l hl => by rw [I.tuple_inj hl hq]; exact hx⟩, ⟨⟨u, ?_⟩, st'.1.at fun o q => (sb.2 it ne.symm).trans q⟩, fun b hb => ?_⟩
    · rw [show ((i + 1 : Nat) : Int) = (i : Int) + 1 by omega]
      exact he2
    · have hb' : b < s.heap.objs.size := by rcases in2 hb with z | z <;> rw [z] <;> assumption
      rw [upd_ne (Nat.ne_of_lt hb')]
      exact (hf b hb).1
  · intro X hP hw hK hc i pins s σ H E I hf st hg
    subst hP hw hK
    obtain ⟨⟨old, he⟩, hit⟩ := st
    obtain ⟨xs, hq, hx⟩ := hg
    obtain ⟨its, rv, p, _⟩ := I.tuple hq
    have na : a ≠ it := fun q => by
      obtain ⟨o, ho, c, _⟩ := hit
      obtain ⟨o', ho', c', _⟩ := p
      rw [← q, ho'] at ho; cases ho
      rw [c'] at c; simp at c
    have hd : X.A.in1.handled = none := I.ok.hd hc
    have hl := rv.length
    have es : its.toArray.size = i := by simp; omega
    obtain ⟨f0, f1, f2, f3, f4, f5⟩ := hf it (by simp)
    exact wpAny_pyNext_enum_endD (Draws.tuple (prog := X.prog) (w := X.w) hd it a na its.toArray) he (by rw [es]; exact ⟨hit, p⟩) fun h' eb => ⟨rfl, I.turned (t' := s.toks) (fun b o hb q => eb b o hb q) f0 f1 f3 f4 f5⟩
def iEnumT (K : PySem.W.Frag) (ta : TA) : TI := fun σ H R => ta σ H fun vs H1 => ∃ a xs, vs = [.ref a] ∧ SqT K H1 a xs ∧ R (IteT K a) H1
theorem kpi_enumT {X : Cx} (K : PySem.W.Frag) {e : Expr} {ta : TA} {p pos tpos : Pos} {elts : List Expr} {kk : Nat} (hg : Gl X "enumerate") (hm : X.mg "enumerate" = none) (ha : PA X [e] ta) (hs : starEach [e] X.env = [(false, eval e X.env)] := by rfl) (ek : X.K = K := by rfl) :
    PI X (.Tuple elts kk tpos) (.Call (.Name "enumerate" p) [e] [] pos) (iEnumT K ta) := by
  subst ek
  refine ⟨fun pins s σ H R I h => Call_ (ld_blt I hg hm boot_enumerate (PyProof.Rows.callWith_type1 (thn (ha.run pos pins s σ H _ I h) ?_) hs rfl))⟩
  rintro us s1 ⟨vs, H1, I1, r1, a, xs, rfl, hq, q⟩
  cases r1 with | cons r rr =>
  cases rr
  cases r
  obtain ⟨its, rv, p', _⟩ := I1.tuple hq
  refine call_enumT (show s1.heap.IsTuple a its.toArray from p') fun h' he hit hk => wpAny_pyIter_enum he ?_
  have I2 : Inv X pins σ H1 { s1 with heap := h' } := I1.kept (t' := s1.toks) hk
  refine ⟨s1.heap.objs.size + 1, [s1.heap.objs.size + 1, s1.heap.objs.size], _, _, H1, rfl, I2, turnE (Nat.succ_ne_self _), ⟨⟨.none, he⟩, hit⟩, fun b hb => ?_, q⟩
  have le : s1.heap.objs.size ≤ b := by
    rcases in2 hb with z | z <;> rw [z] <;> first | exact Nat.le_refl _ | exact Nat.le_add_right _ _
  exact I1.fpOk le (I1.hok.fresh le)
theorem walk_enumT {K : PySem.W.Frag} {a : Addr} {xs : List V} : Walk (IteT K a) xs.length (fun H => SqT K H a xs) (YPair (fun i => some (.int (i : Nat))) (fun i => xs[i]?)) := by
  refine ⟨fun i _ hi q => ⟨xs, xs[i], q, by simp [hi]⟩, fun _ q => ⟨xs, q, rfl⟩, fun i H v H' _ q y => ?_⟩
  obtain ⟨T, x, h1, h2, h3, h4⟩ := y
  exact ⟨T, .int (i : Nat), x, h1, h2, h3, rfl, h4 xs q⟩
/-! ### own classes -/
section
variable (P : Program) (w : World) (K : PySem.W.Frag) (mg : Str → Option Value) (base : Heap)
/-- the method m of the class at C keeps the promise -/
structure Met (k : Nat) (C : Addr) (m : Str) (ps : List Str) (sp : Sp) : Prop where
  ex : ∃ (f : Addr) (fd : FuncData), FnOk P w K mg base CX0 k f fd ps sp ∧ Meth K C m f ∧ L2.Binds K fd ps []
/-- the class's __init__ does -/
structure Ini (k : Nat) (C : Addr) (ps : List Str) (sp : Sp) : Prop where
  ex : ∃ (f : Addr) (fd : FuncData), FnOk P w K mg base CX0 k f fd ps sp ∧ Mk K C f ∧ L2.Binds K fd ps []
end
section
variable {X : Cx} {k : Nat} {C : Addr} {m x : Str} {ps : List Str} {sp : Sp} {apos p pos : Pos} {o e : Expr} {es : List Expr} {to : TE} {t : TA}
theorem pe_ini (O : Ini X.prog X.w X.K X.mg X.base k C ps sp) (hr : Room (k + 1) X.A) (hg : Gl X x) (hm : X.mg x = some (.ref C)) (ha : PA X (e :: es) t) (hdb : (x == ("__debug__" : Str)) = false := by decide)
    (he : starEach (e :: es) X.env = (false, eval e X.env) :: starEach es X.env := by rfl) (hpl : (backTo pos (starEach es X.env)).any (·.1) = false := by rfl) : PE X (.Call (.Name x p) (e :: es) [] pos) (tMake C sp [] E0 t) := by
  obtain ⟨f, fd, F, M, hb⟩ := O.ex
  exact pe_make M F hr hg hm hb .nil pass0 ha hdb he hpl
theorem pe_met {pl : Sem Bool} (O : Met X.prog X.w X.K X.mg X.base k C m ps sp) (c : Cls X.K C) (hr : Room k X.A) (ho : PE X o to) (ha : PA X (e :: es) t)
    (hst : starEach (e :: es) X.env = (false, eval e X.env) :: starEach es X.env := by rfl) (hpl : (backTo pos (starEach es X.env)).any (·.1) = false := by rfl)
    (ht : eval (.Call (.Attribute o m apos) (e :: es) [] pos) X.env = (do
      let ov ← eval o X.env
      standAt apos.atName
      let (f, first) ← holding [ov] (getMethod ov m pl)
      callWith pos f first (backTo pos (starEach (e :: es) X.env)) (backToKw pos (keywordEach [] X.env))) := by rfl) : PE X (.Call (.Attribute o m apos) (e :: es) [] pos) (tMeth C m sp [] E0 to t) := by
  obtain ⟨f, fd, F, M, hb⟩ := O.ex
  exact pe_meth ho c M F hr hb .nil pass0 ha hst hpl ht
theorem kpe_fld (K : PySem.W.Frag) {f : Str} (ho : PE X o to) (hb : attributeBase o f X.env (eval o X.env) = eval o X.env := by rfl) (ek : X.K = K := by rfl) : PE X (.Attribute o f pos) (tFld K to f) := by
  subst ek
  exact pe_fld ho hb
end
end Ly

set_option Elab.async false
set_option linter.all false
set_option maxRecDepth 100000
set_option maxHeartbeats 4000000
/-! tuple * int for 0 and 1 too; items of a list or a tuple, whichever it be -/
namespace Ly
open PySem PySem.Spec PyProof.Rows L2
theorem tuple_mul0 (l : Addr) (items : Array Value) (n : Nat) (dd : Option Addr) (sl : Array (Option Value)) (u : Tok) (hi : items.isEmpty = false) :
    Meets (Builtin.«tuple.__mul__» ⟨[.ref l, .int 0 u], []⟩) (fun _ R s => s.heap.get? l = some { cls := .type "tuple", dict := dd, data := .seq items n, slots := sl } ∧
      R (.ok (.ret (Value.ref s.heap.objs.size))) { s with heap := s.heap.push { cls := Value.type "tuple", data := Data.seq #[] }, toks := s.toks }) :=
  .of_wp fun prog w A R s h => by
    obtain ⟨hp, g, d, tk, os⟩ := s
    obtain ⟨hl, h⟩ := h
    have f1 := AutoSeq1.idx_int
    wp_walk using wpAny_loadPart' hl
    repeat (first
      | (refine wpAny_ite_false (decide_eq_false (by rw [hi]; decide)) ?_; wp_walk using wpAny_loadPart' hl)
      | (refine wpAny_ite_true (decide_eq_true (by rw [hi]; decide)) ?_; wp_walk using wpAny_loadPart' hl)
      | (refine wpAny_ite_false (decide_eq_false (by decide)) ?_; wp_walk using wpAny_loadPart' hl)
      | (refine wpAny_ite_true (decide_eq_true (by decide)) ?_; wp_walk using wpAny_loadPart' hl))
    exact ⟨_, rfl, h⟩
theorem tuple_mul1 (l : Addr) (items : Array Value) (n : Nat) (dd : Option Addr) (sl : Array (Option Value)) (u : Tok) (hi : items.isEmpty = false) :
    Meets (Builtin.«tuple.__mul__» ⟨[.ref l, .int 1 u], []⟩) (fun _ R s => s.heap.get? l = some { cls := .type "tuple", dict := dd, data := .seq items n, slots := sl } ∧
      R (.ok (.ret (Value.ref l))) s) :=
  .of_wp fun prog w A R s h => by
    obtain ⟨hp, g, d, tk, os⟩ := s
    obtain ⟨hl, h⟩ := h
    have f1 := AutoSeq1.idx_int
    wp_walk using wpAny_loadPart' hl
    repeat (first
      | (refine wpAny_ite_false (decide_eq_false (by rw [hi]; decide)) ?_; wp_walk using wpAny_loadPart' hl)
      | (refine wpAny_ite_true (decide_eq_true (by rw [hi]; decide)) ?_; wp_walk using wpAny_loadPart' hl)
      | (refine wpAny_ite_false (decide_eq_false (by decide)) ?_; wp_walk using wpAny_loadPart' hl)
      | (refine wpAny_ite_true (decide_eq_true (by decide)) ?_; wp_walk using wpAny_loadPart' hl))
    exact ⟨_, rfl, h⟩
def rRepTA (K : PySem.W.Frag) : R2 := fun x y H Q => ∃ l k xs, x = .ref l ∧ y = .int k ∧ SqT K H l xs ∧ xs ≠ [] ∧ 0 ≤ k ∧ k ≤ 1000 ∧ xs.length ≤ 1000 ∧ (k = 1 → Q (.ref l) H) ∧ (k ≠ 1 → ∀ p, H p = none → Q (.ref p) (upd H p (.tup (List.replicate k.toNat xs).flatten)))
section
variable {X : Cx}
theorem op_repTA : OpR X (binaryOp .Mult) (rRepTA X.K) := by
  intro pins s σ H x y v u Q I rx ry h
  obtain ⟨l, k, xs, rfl, rfl, hT, hne, h1, h2, hz, q1, q2⟩ := h
  by_cases k2 : 2 ≤ k
  · exact op_repT pins s σ H _ _ v u Q I rx ry ⟨l, k, xs, rfl, rfl, hT, hne, k2, h2, hz, q2 (by omega)⟩
  cases rx
  obtain ⟨t, rfl⟩ := ry
  obtain ⟨its, r, ⟨⟨cls, dd, data, sl⟩, ho, hc, n, hd⟩, hs⟩ := I.tuple hT
  simp only at hc hd
  subst hc hd
  have hle : its.length = xs.length := r.length.symm
  have hn : its ≠ [] := fun e => hne (by
    rw [e] at hle
    exact List.eq_nil_of_length_eq_zero hle.symm)
  have hi : its.toArray.isEmpty = false := by
    cases its with
    | nil => exact absurd rfl hn
    | cons a b => rfl
  have hk : k = 0 ∨ k = 1 := by omega
  rcases hk with rfl | rfl
  · refine wpAny_binaryOp_repeat_ref (T := "tuple") (U := "int") (by decide) ⟨_, ho, rfl⟩ (fun s' => typeIs_int s' 0 t) noFill_tuple_mul F.fills_int_mul F.slot_int_rmul repeat_tuple F.slot_int_index.lookup
      (call_meets F.slot_int_rmul (typeIs_int s 0 t) F.entry_int_rmul (F.args_int_rmul_2 _ _) (int_rmul_tuple 0 t l its.toArray n dd sl)
        ⟨ho, rfl, ⟨_, ho, rfl⟩, call_meets F.slot_tuple_mul ⟨_, ho, rfl⟩ F.entry_tuple_mul (F.args_tuple_mul_2 _ _) (tuple_mul0 l its.toArray n dd sl t hi) ⟨ho, ?_⟩⟩)
    refine ⟨.ref s.heap.objs.size, _, I.laid (t' := s.toks) (o := .tup []) (fun b ob q => Heap.get?_push_of_some _ q) (Nat.le_refl _) ?_, rfl, q2 (by decide) _ (I.hok.fresh (Nat.le_refl _))⟩
    exact ⟨Nat.zero_le _, [], .nil, IsTup.new _ _⟩
  · exact wpAny_binaryOp_repeat_ref (T := "tuple") (U := "int") (by decide) ⟨_, ho, rfl⟩ (fun s' => typeIs_int s' 1 t) noFill_tuple_mul F.fills_int_mul F.slot_int_rmul repeat_tuple F.slot_int_index.lookup
      (call_meets F.slot_int_rmul (typeIs_int s 1 t) F.entry_int_rmul (F.args_int_rmul_2 _ _) (int_rmul_tuple 1 t l its.toArray n dd sl)
        ⟨ho, rfl, ⟨_, ho, rfl⟩, call_meets F.slot_tuple_mul ⟨_, ho, rfl⟩ F.entry_tuple_mul (F.args_tuple_mul_2 _ _) (tuple_mul1 l its.toArray n dd sl t hi) ⟨ho, ⟨.ref l, H, I, rfl, q1 rfl⟩⟩⟩)
/-! ### a list or a tuple -/
def rIxA (K : PySem.W.Frag) : R2 := fun x y H Q => ∃ p xs i v, x = .ref p ∧ y = .int i ∧ (SqL K H p xs ∨ SqT K H p xs) ∧ atI xs i = some v ∧ Q v H
theorem kix_any (K : PySem.W.Frag) (e : X.K = K := by rfl) : IxR X (rIxA K) := by
  subst e
  intro value slice pins s σ H x y v u Q I rx ry h hs
  obtain ⟨p, xs, i, z, e1, e2, hq, he, q⟩ := h
  rcases hq with hq | hq
  · exact ix_list value slice pins s σ H x y v u Q I rx ry ⟨p, xs, i, z, e1, e2, hq, he, q⟩ hs
  · exact ix_tup value slice pins s σ H x y v u Q I rx ry ⟨p, xs, i, z, e1, e2, hq, he, q⟩ hs
def iAny (K : PySem.W.Frag) (tl : TE) : TI := fun σ H R => tl σ H fun x H1 => ∃ a, x = .ref a ∧ (((∃ xs, SqL K H1 a xs) ∧ R (Itl K a) H1) ∨ ((∃ xs, SqT K H1 a xs) ∧ R (Itt K a) H1))
theorem kpi_any (K : PySem.W.Frag) {tg l : Expr} {tl : TE} (hl : PE X l tl) (e : X.K = K := by rfl) : PI X tg l (iAny K tl) := by
  subst e
  refine ⟨fun pins s σ H R I h => ?_⟩
  refine thn (hl.run pins s σ H _ I h) fun v s1 ⟨x, H1, I1, r1, q1⟩ => ?_
  obtain ⟨a, e, q⟩ := q1
  subst e
  cases r1
  rcases q with ⟨⟨xs, hq⟩, q⟩ | ⟨⟨xs, hq⟩, q⟩
  · obtain ⟨its, rv, p, hz⟩ := I1.list hq
    refine wpAny_pyIter_list p.isList ?_
    refine ⟨s1.heap.objs.size, [s1.heap.objs.size], _, _, H1, rfl, I1.kept (t' := s1.toks) fun b o e => Heap.get?_push_of_some _ e, turn_list a _, ⟨_, Heap.get?_push_size _ rfl, rfl, rfl⟩, fun b hb => ?_, q⟩
    have e : b = s1.heap.objs.size := by simpa using hb
    subst e
    exact I1.fpOk (Nat.le_refl _) (I1.hok.fresh (Nat.le_refl _))
  · obtain ⟨its, rv, p, hz⟩ := I1.tuple hq
    refine wpAny_pyIter_tuple (show s1.heap.IsTuple a its.toArray from p) ?_
    refine ⟨s1.heap.objs.size, [s1.heap.objs.size], _, _, H1, rfl, I1.kept (t' := s1.toks) fun b o e => Heap.get?_push_of_some _ e, turn_tuple a _, ⟨_, Heap.get?_push_size _ rfl, rfl, rfl⟩, fun b hb => ?_, q⟩
    have e : b = s1.heap.objs.size := by simpa using hb
    subst e
    exact I1.fpOk (Nat.le_refl _) (I1.hok.fresh (Nat.le_refl _))
theorem kop_repTA (K : PySem.W.Frag) (e : X.K = K := by rfl) : OpR X (binaryOp .Mult) (rRepTA K) := by subst e; exact op_repTA
theorem kop_catA (K : PySem.W.Frag) (e : X.K = K := by rfl) : OpR X (binaryOp .Add) (rCatA K) := by subst e; exact op_catA
theorem ksl_tupA (K : PySem.W.Frag) (e : X.K = K := by rfl) : SlR X (rSlA K) := by subst e; exact sl_tupA
theorem kop_notIn (K : PySem.W.Frag) (e : X.K = K := by rfl) : OpR X (compareOp .NotIn) (rIn K true) := by subst e; exact op_notIn_seq
end
end Ly

set_option Elab.async false
set_option linter.all false
set_option maxRecDepth 100000
/-! any data: none, bools, ints, texts, tuples and lists of such; what judges ask of it -/
namespace Ly
open PySem PySem.Spec PyProof.Rows L2 Mt
theorem rd_same' {H H' : Hp} {p : Addr} {o : HO} (h : Rd H p o) (s : Same H H') : Rd H' p o := by
  rcases h with h | ⟨u, h⟩
  · exact .inl (s _ _ h)
  · exact .inr ⟨u, s _ _ h⟩
section
variable {K : PySem.W.Frag} {H H' : Hp}
theorem sql_same' {p : Addr} {xs : List V} (h : SqL K H p xs) (s : Same H H') : SqL K H' p xs := h.imp (fun h => rd_same' h s) id
theorem sqt_same' {p : Addr} {xs : List V} (h : SqT K H p xs) (s : Same H H') : SqT K H' p xs := h.imp (fun h => rd_same' h s) id
mutual
theorem dp_same (s : Same H H') : ∀ (d : PyData) {v : V}, Dp K H v d → Dp K H' v d
  | .none, _, h => by cases h; exact .non
  | .bool _, _, h => by cases h; exact .bl _
  | .int _, _, h => by cases h; exact .int _
  | .str _, _, h => by cases h; exact .str _
  | .tuple ds, _, h => by cases h with | tup e r => exact .tup (sqt_same' e s) (dpAll_same s ds r)
  | .list ds, _, h => by cases h with | lst e r => exact .lst (sql_same' e s) (dpAll_same s ds r)
  | .dict _, _, h => by cases h
theorem dpAll_same (s : Same H H') : ∀ (ds : List PyData) {vs : List V}, DpAll K H vs ds → DpAll K H' vs ds
  | [], _, h => by cases h; exact .nil
  | d :: ds, _, h => by cases h with | cons a r => exact .cons (dp_same s d a) (dpAll_same s ds r)
end
theorem dpAll_len : ∀ {vs : List V} {ds : List PyData}, DpAll K H vs ds → vs.length = ds.length
  | [], ds, h => by cases h; rfl
  | _ :: _, _, h => by cases h with | cons _ r => rw [List.length_cons, List.length_cons, dpAll_len r]
theorem dpAll_get : ∀ {vs : List V} {ds : List PyData} {i : Nat} {d : PyData}, DpAll K H vs ds → ds[i]? = some d → ∃ v, vs[i]? = some v ∧ Dp K H v d
  | _, _, 0, _, .cons a _, e => by
    simp at e; subst e; exact ⟨_, rfl, a⟩
  | _, _, i + 1, _, .cons _ r, e => by
    obtain ⟨v, h1, h2⟩ := dpAll_get (i := i) r (by simpa using e)
    exact ⟨v, by simpa using h1, h2⟩
  | _, _, _, _, .nil, e => by simp at e
theorem dpAll_getV : ∀ {vs : List V} {ds : List PyData} {i : Nat} {v : V}, DpAll K H vs ds → vs[i]? = some v → ∃ d, ds[i]? = some d ∧ Dp K H v d
  | _, _, 0, _, .cons a _, e => by
    simp at e; subst e; exact ⟨_, rfl, a⟩
  | _, _, i + 1, _, .cons _ r, e => by
    obtain ⟨v, h1, h2⟩ := dpAll_getV (i := i) r (by simpa using e)
    exact ⟨v, by simpa using h1, h2⟩
  | _, _, _, _, .nil, e => by simp at e
/-- the name of a thing's type -/
def tyName : PyData → String
  | .none => "NoneType"
  | .bool _ => "bool"
  | .int _ => "int"
  | .str _ => "str"
  | .tuple _ => "tuple"
  | .list _ => "list"
  | .dict _ => "dict"
theorem sqt_ty {a : Addr} {xs : List V} (h : SqT K H a xs) : TyX K H (.ref a) (.type "tuple") := by
  rcases h with (h | ⟨o, h⟩) | ⟨o, its, n, hk, hc, _⟩
  · exact .base (.tup h)
  · exact .fTuple h
  · exact .kTuple hk hc
theorem sql_ty {a : Addr} {xs : List V} (h : SqL K H a xs) : TyX K H (.ref a) (.type "list") := by
  rcases h with (h | ⟨o, h⟩) | ⟨o, its, n, hk, hc, _⟩
  · exact .base (.lst h)
  · exact .base (.frz h)
  · exact .kList hk hc
theorem dp_ty {d : PyData} {v : V} (h : Dp K H v d) : TyX K H v (.type (tyName d)) := by
  cases h with
  | non => exact .base .non
  | bl b => exact .base (.bl b)
  | int i => exact .base (.int i)
  | str x => exact .base (.str x)
  | tup e _ => exact sqt_ty e
  | lst e _ => exact sql_ty e
def jIntB : PyData → Bool
  | .int _ => true
  | .bool _ => true
  | _ => false
def jBool : PyData → Bool
  | .bool _ => true
  | _ => false
def jTup : PyData → Bool
  | .tuple _ => true
  | _ => false
def jStr : PyData → Bool
  | .str _ => true
  | _ => false
theorem kit_int : ∀ d : PyData, kitB (tyName d) "int" = some (jIntB d)
  | .none => show kitB "NoneType" "int" = some false from by decide +kernel
  | .bool _ => show kitB "bool" "int" = some true from by decide +kernel
  | .int _ => show kitB "int" "int" = some true from by decide +kernel
  | .str _ => show kitB "str" "int" = some false from by decide +kernel
  | .tuple _ => show kitB "tuple" "int" = some false from by decide +kernel
  | .list _ => show kitB "list" "int" = some false from by decide +kernel
  | .dict _ => show kitB "dict" "int" = some false from by decide +kernel
theorem kit_bool : ∀ d : PyData, kitB (tyName d) "bool" = some (jBool d)
  | .none => show kitB "NoneType" "bool" = some false from by decide +kernel
  | .bool _ => show kitB "bool" "bool" = some true from by decide +kernel
  | .int _ => show kitB "int" "bool" = some false from by decide +kernel
  | .str _ => show kitB "str" "bool" = some false from by decide +kernel
  | .tuple _ => show kitB "tuple" "bool" = some false from by decide +kernel
  | .list _ => show kitB "list" "bool" = some false from by decide +kernel
  | .dict _ => show kitB "dict" "bool" = some false from by decide +kernel
theorem kit_tup : ∀ d : PyData, kitB (tyName d) "tuple" = some (jTup d)
  | .none => show kitB "NoneType" "tuple" = some false from by decide +kernel
  | .bool _ => show kitB "bool" "tuple" = some false from by decide +kernel
  | .int _ => show kitB "int" "tuple" = some false from by decide +kernel
  | .str _ => show kitB "str" "tuple" = some false from by decide +kernel
  | .tuple _ => show kitB "tuple" "tuple" = some true from by decide +kernel
  | .list _ => show kitB "list" "tuple" = some false from by decide +kernel
  | .dict _ => show kitB "dict" "tuple" = some false from by decide +kernel
theorem kit_str : ∀ d : PyData, kitB (tyName d) "str" = some (jStr d)
  | .none => show kitB "NoneType" "str" = some false from by decide +kernel
  | .bool _ => show kitB "bool" "str" = some false from by decide +kernel
  | .int _ => show kitB "int" "str" = some false from by decide +kernel
  | .str _ => show kitB "str" "str" = some true from by decide +kernel
  | .tuple _ => show kitB "tuple" "str" = some false from by decide +kernel
  | .list _ => show kitB "list" "str" = some false from by decide +kernel
  | .dict _ => show kitB "dict" "str" = some false from by decide +kernel
end
end Ly

set_option Elab.async false
set_option linter.all false
set_option maxRecDepth 100000
/-! dict comprehensions over any walk; the sum of a tuple of ints -/
namespace Ly
open PySem PySem.Spec PyProof.Rows L2
theorem dc_all {J : It} {n : Nat} {G : Hp → Prop} {Y : Nat → Hp → V → Hp → Prop} (w : Walk J n G Y) {g : TG} {tk tv : TE} {vs : List Nat} {σ : L2.St} {H1 : Hp} {D : Addr} {Qd : Hp → Prop} (Pv : Nat → Hp → Prop) (h0 : Pv 0 (upd H1 D (.dK []))) (hG : ∀ i H, i ≤ n → Pv i H → G H)
    (hs : ∀ i x H H', i < n → Pv i H → Y i H x H' → g x (wipe σ vs) H' fun σ2 H2 => wipe σ2 vs = wipe σ vs ∧ tk σ2 H2 fun y H4 => tv σ2 H4 fun z H5 => ∃ kvs k, y = kV k ∧ H5 D = some (.dK kvs) ∧ kvs.length < sizeLine ∧ Pv (i + 1) (upd H5 D (.dK (putK kvs k z))))
    (hd : ∀ H, Pv n H → Qd H) :
    ∃ W : Nat → Nat → Hp → Prop, (∃ m, W 0 m (upd H1 D (.dK []))) ∧ ∀ i m H, W i m H →
      (J.stop i H ∧ Qd H) ∨ (J.go i H ∧ ∃ Nx : Hp → Prop, (∀ H', Nx H' → ∃ m', m' < m ∧ W (i + 1) m' H') ∧ ∀ x H', J.yld i H x H' → g x (wipe σ vs) H' fun σ2 H2 => wipe σ2 vs = wipe σ vs ∧ tYes σ2 H2 fun b H3 =>
        if b = true then tk σ2 H3 fun y H4 => tv σ2 H4 fun z H5 => ∃ kvs k, y = kV k ∧ H5 D = some (.dK kvs) ∧ kvs.length < sizeLine ∧ Nx (upd H5 D (.dK (putK kvs k z))) else Nx H3) := by
  refine ⟨fun i m H => m = n - i ∧ i ≤ n ∧ Pv i H, ⟨n, by simp, Nat.zero_le _, h0⟩, ?_⟩
  rintro i m H ⟨rfl, hi, p⟩
  have q := hG i H hi p
  by_cases hlt : i < n
  · refine .inr ⟨w.goes i H hlt q, Pv (i + 1), fun H' p' => ⟨n - (i + 1), by omega, rfl, hlt, p'⟩, fun x H' y => ?_⟩
    have h := hs i x H H' hlt p (w.yields i H x H' hlt q y)
    refine Eq.mp (congrArg (g x (wipe σ vs) H') ?_) h
    funext σ2 H2
    simp only [tYes, if_true]
  · have e : i = n := by omega
    subst e
    exact .inl ⟨w.stops H q, hd H p⟩
theorem toks_of : ∀ {ns : List Int} {us : List Value}, Vals (ns.map V.int) us → ∃ ps : List (Int × Tok), us = ps.map (fun p => Value.int p.1 p.2) ∧ ps.map (·.1) = ns
  | [], _, .nil => ⟨[], rfl, rfl⟩
  | n :: ns, _, .cons r t => by
    obtain ⟨k, rfl⟩ := r
    obtain ⟨ps, e1, e2⟩ := toks_of t
    exact ⟨(n, k) :: ps, by rw [e1]; rfl, by rw [← e2]; rfl⟩
def rSumT (K : PySem.W.Frag) : List V → Hp → VK → Prop := fun vs H Q => ∃ (a : Addr) (ns : List Int), vs = [V.ref a] ∧ SqT K H a (ns.map V.int) ∧ Q (.int ns.sum) H
theorem cr_sumT {X : Cx} (K : PySem.W.Frag) (hc : X.calm = true := by rfl) (eK : X.K = K := by rfl) : CallR X (.builtin "sum") (rSumT K) := by
  subst eK
  intro pins s σ H vs us Q I r h
  obtain ⟨a, ns, rfl, hs, q⟩ := h
  obtain ⟨its, rv, ht, _⟩ := I.tuple hs
  rw [Vals.ref1 r]
  obtain ⟨ps, e1, e2⟩ := toks_of rv
  have e3 : its.toArray = intItems ps.toArray := by
    rw [e1]; simp [intItems]
  have e4 : preSum (numAt ps.toArray) ps.toArray.size = ns.sum := by
    rw [preSum_eq, List.take_of_length_le (by simp)]
    show (ps.map (·.1)).sum = _
    rw [e2]
  refine PySem.W.ktm_sumG (xs := ps.toArray) (I.ok.hd hc) (by rw [← e3]; exact ht) fun h' tk t' hk => ?_
  rw [e4]
  exact ⟨.int _, H, I.kept hk, ⟨t', rfl⟩, q⟩
theorem kop_inS {X : Cx} (K : PySem.W.Frag) (eK : X.K = K := by rfl) : OpR X (compareOp .In) (rIn K false) := by subst eK; exact op_in_seq
/-- one sign of a text -/
def sgn (c : Nat) : Str := ⟨#[c]⟩
end Ly

set_option Elab.async false
set_option linter.all false
set_option maxRecDepth 100000
/-! len(set(xs)) of a list of unlike texts -/
namespace Ly
open PySem PySem.Spec PyProof.Rows L2
/-- one of the first i texts -/
def among (ys : List Str) (i : Nat) (z : Str) : Bool := (ys.take i).any (· == z)
theorem among_step {ys : List Str} {i : Nat} {x : Str} (h : ys[i]? = some x) (z : Str) : (among ys i z || decide (z = x)) = among ys (i + 1) z := by
  unfold among
  rw [List.take_add_one, h, List.any_append]
  congr 1
  show decide (z = x) = (x == z || false)
  by_cases e : z = x
  · subst e; simp
  · rw [decide_eq_false e, Bool.or_false]
    exact (beq_eq_false_iff_ne.mpr fun q => e q.symm).symm
theorem among_not {ys : List Str} {i : Nat} {x : Str} (nd : ys.Nodup) (h : ys[i]? = some x) : among ys i x = false := by
  unfold among
  rw [List.any_eq_false]
  intro y hy e
  obtain ⟨j, hj⟩ := List.mem_iff_getElem?.mp hy
  have hji : j < i := by
    have := (List.getElem?_eq_some_iff.mp hj).1
    rw [List.length_take] at this
    omega
  rw [List.getElem?_take, if_pos hji] at hj
  have exy : y = x := by simpa using e
  subst exy
  obtain ⟨hi, e1⟩ := List.getElem?_eq_some_iff.mp h
  obtain ⟨hj', e2⟩ := List.getElem?_eq_some_iff.mp hj
  have := List.pairwise_iff_getElem.mp nd j i hj' hi hji
  exact this (e2.trans e1.symm)
section
variable {prog : Program} {w : World} {A : Around} {R : Result → Shared → Prop} {it : Addr} {fp wr : List Addr} {G : Array GenState → Array GenState → Prop} {n : Nat} {P : Nat → Value → Prop} {St : Nat → Shared → Prop}
theorem fillTexts (W : WalksS prog w A.in1 it fp wr G n P St) (D : Addr) (nD : D ∉ fp) (ys : List Str) (ly : ys.length = n) (nd : ys.Nodup) (few : n ≤ 1000) (vals : ∀ i v, P i v → ∃ t, v = .str (ys.getD i Str.empty) t)
    (fin : ∀ s', Moved (D :: wr) G s0 s' → s'.heap.SetOf (PySem.strKind prog w) D (among ys n) n → R (.ok (.ret .none)) s') :
    ∀ (left i : Nat) (s : Shared), i + left = n → St i s → Moved (D :: wr) G s0 s → s.heap.SetOf (PySem.strKind prog w) D (among ys i) i → codeAny (model prog w) A (.builtin "set.update.loop" ⟨[.ref D, .ref it], []⟩) R s
  | 0, i, s, hl, st, mv, so => by
    obtain rfl : i = n := by omega
    refine codeAny_builtin PyProof.Rows.F.entry_set_update_loop ?_
    rw [Around.under_plainId PyProof.Rows.F.plain_set_update_loop _]
    show wpAny _ A.in1 (pyNext (.ref it) >>= _) _ _ s
    refine wpAny_bind (W.done s _ _ st fun s2 m2 => ?_)
    show wpAny _ A.in1 (ret Value.none) _ _ s2
    refine wpAny_pure (fin s2 (Moved.trans W.gtrans mv (m2.mono fun b hb => List.mem_cons_of_mem _ hb)) ?_)
    obtain ⟨ob, es, ep, tb, ho, more⟩ := so
    exact ⟨ob, es, ep, tb, m2.heap D _ (fun h => nD (W.sub _ h)) ho, more⟩
  | left + 1, i, s, hl, st, mv, so => by
    have hi : i < n := by omega
    have hx : ys[i]? = some (ys.getD i Str.empty) := by
      rw [List.getD_eq_getElem?_getD, List.getElem?_eq_getElem (by omega)]; rfl
    refine codeAny_builtin PyProof.Rows.F.entry_set_update_loop ?_
    rw [Around.under_plainId PyProof.Rows.F.plain_set_update_loop _]
    show wpAny _ A.in1 (pyNext (.ref it) >>= _) _ _ s
    refine wpAny_bind (W.item i s _ _ hi st fun v s2 pv st2 m2 => ?_)
    obtain ⟨t, rfl⟩ := vals i v pv
    have so2 : s2.heap.SetOf (PySem.strKind prog w) D (among ys i) i := by
      obtain ⟨ob, es, ep, tb, ho, more⟩ := so
      exact ⟨ob, es, ep, tb, m2.heap D _ (fun h => nD (W.sub _ h)) ho, more⟩
    show wpAny _ A.in1 (holding [Value.str (ys.getD i Str.empty) t] (setAdd D (.str (ys.getD i Str.empty) t)) >>= _) _ _ s2
    refine wpAny_bind (wpAny_holding ?_)
    unfold setAdd
    refine wpAny_holding (wpAny_bind ((PySem.strKind prog w).pyHash (k := ys.getD i Str.empty) (strKind_is _ _ _ _) ?_))
    refine wpAny_setAddHashed_of (knd := PySem.strKind prog w) (s := { s2 with toks := s2.toks + 1 }) (strKind_is _ _ _ _) rfl so2 (by unfold scanBound; omega) fun h3 but so3 => ?_
    rw [among_not nd hx, if_neg Bool.false_ne_true] at so3
    have so4 := SetOf_congr so3 (among_step hx) rfl
    have mv2 := Moved.trans W.gtrans mv (m2.mono (wr' := D :: wr) fun b hb => List.mem_cons_of_mem _ hb)
    have mv3 : Moved (D :: wr) G s0 { s2 with heap := h3, toks := s2.toks + 1 } := mv2.then_heap (Nat.le_succ _) fun b o hb e => by
      rw [but.2 b fun q => hb (by rw [q]; exact List.mem_cons_self)]; exact e
    refine wpAny_pure ⟨plainId_quiet PyProof.Rows.F.plain_set_update_loop _, fillTexts W D nD ys ly nd few vals fin left (i + 1) _ (by omega) (W.frame _ s2 _ _ st2 (Nat.le_succ _) fun b hb o e => ?_) mv3 so4⟩
    rw [but.2 b fun q => nD (by rw [← q]; exact hb)]; exact e
end
theorem texts_at : ∀ {us : List Value} {ys : List Str}, StrsAre us ys → ∀ (i : Nat) (v : Value), us[i]? = some v → ∃ t, v = .str (ys.getD i Str.empty) t
  | _, _, .nil, i, v, h => by simp at h
  | _, _, .cons n t hr, 0, v, h => ⟨t, by have := Option.some.inj h; exact this.symm⟩
  | _, _, .cons n t hr, i + 1, v, h => texts_at hr i v h
section
variable {prog : Program} {w : World} {A : Around} {E : Value → Shared → Prop} {s : Shared}
set_option maxHeartbeats 3200000 in
theorem call_set_texts {l : Addr} {us : Array Value} {ys : List Str} {Q : Value → Shared → Prop} (hh : A.handled = none) (hl : s.heap.IsList l us) (hi : PyProof.Rows.StrsAre us.toList ys) (nd : ys.Nodup) (few : ys.length ≤ 1000)
    (h : ∀ (h2 : Heap) (t2 : Nat), h2.SetOf (PySem.strKind prog w) s.heap.objs.size (among ys us.size) us.size → (∀ b o, b < s.heap.objs.size → s.heap.get? b = some o → h2.get? b = some o) → Q (.ref s.heap.objs.size) { s with heap := h2, toks := t2 }) :
    wpAny (model prog w) A (call (.type "set") [.ref l]) Q E s := by
  obtain ⟨k1, k2, h3⟩ := PySem.F.called_set.mro
  have h4 := PySem.F.called_set.made
  have h5 := PySem.F.called_set.sub
  refine wpAny_call (codeAny_of_tree ?_)
  show wpAny _ _ (callAny (.type "set") _) _ _ _
  refine wpAny_pure ⟨Code.quiet_builtin _ (by decide +kernel), codeAny_builtin PySem.F.entry_type_call ?_⟩
  rw [Around.under_plain (weight_type_call_type "set" [.ref l] []) rfl]
  have h6 := PySem.F.called_set.notType
  have h7 := PySem.F.called_set.canCreate
  have h8 := PySem.F.typeCall_set_1 (.ref l)
  repeat (any_goals (first | assumption | wp_step))
  refine codeAny_mono (code_set_new_1 (.ref l) (E := E) (Q₁ := fun v s1 => ∃ led : Bool, v = .ref s.heap.objs.size ∧ s1 = { s with heap := s.heap.push { cls := .type "set", dict := none, data := .set #[] 0 (.fresh 0 0 led) } }) fun led => ⟨led, rfl, rfl⟩) fun r s1 hr => ?_
  match r, hr with
  | .error e, hr => exact hr
  | .ok .next, hr => exact hr.elim
  | .ok .brk, hr => exact hr.elim
  | .ok .cont, hr => exact hr.elim
  | .ok (.ret v), hr =>
    obtain ⟨led, rfl, rfl⟩ := hr
    have at0 : (s.heap.push { cls := .type "set", dict := none, data := .set #[] 0 (.fresh 0 0 led) }).get? s.heap.objs.size = some { cls := .type "set", dict := none, data := .set #[] 0 (.fresh 0 0 led) } := Heap.get?_push_size _ rfl
    have ty0 : Shared.TypeIs { s with heap := s.heap.push { cls := .type "set", dict := none, data := .set #[] 0 (.fresh 0 0 led) } } (.ref s.heap.objs.size) "set" := ⟨_, at0, rfl⟩
    have i1 := PySem.F.called_set.init.lookup
    have i2 := PySem.F.called_set.init.bind (.ref s.heap.objs.size)
    repeat (any_goals (first | assumption | wp_step))
    refine codeAny_mono (codeAny_call_builtin (R := wants (fun r s2 => r = .none ∧ ∃ h2 t2, s2 = { s with heap := h2, toks := t2 } ∧ h2.SetOf (PySem.strKind prog w) s.heap.objs.size (among ys us.size) us.size ∧ ∀ b o, b < s.heap.objs.size → s.heap.get? b = some o → h2.get? b = some o) E) PySem.F.called_set.init.plain PySem.F.entry_set_init (check_set_init_1 ty0 ?_)) fun r2 s2 hr2 => ?_
    · obtain ⟨ol, hol, hcl, nl, hdl⟩ := hl
      obtain ⟨ocls, odict, odata, oslots⟩ := ol
      simp only at hcl hdl
      subst hcl
      subst hdl
      have at1 : (s.heap.push { cls := .type "set", dict := none, data := .set #[] 0 (.fresh 0 0 led) }).get? l = some { cls := .type "list", dict := odict, data := .seq us nl, slots := oslots } := Heap.get?_push_of_some _ hol
      have n1 := PySem.F.sub_list_set
      have n2 := PySem.F.sub_list_frozenset
      have n3 : (Value.type "list" == Value.type "dict") = false := by decide
      have l1 : (s.heap.push { cls := .type "set", dict := none, data := .set #[] 0 (.fresh 0 0 led) }).IsList l us := ⟨_, at1, rfl, nl, rfl⟩
      unfold Builtin.«set.__init__» noKeywords Builtin.Frozenset.updateFrom
      generalize hPI : pyIter = PI
      wp_walk
      subst hPI
      refine wpAny_pyIter_list l1 (wpAny_bind (wpAny_runValue ?_))
      have ll : l < s.heap.objs.size := Heap.lt_size hol
      have h9 : A.in1.in1.in1.handled = none := by simp [hh]
      have e0 : (s.heap.push { cls := .type "set", dict := none, data := .set #[] 0 (.fresh 0 0 led) }).objs.size = s.heap.objs.size + 1 := Heap.size_push ..
      have nI : l ≠ (s.heap.push { cls := .type "set", dict := none, data := .set #[] 0 (.fresh 0 0 led) }).objs.size := by
        rw [e0]; exact Nat.ne_of_lt (Nat.lt_succ_of_lt ll)
      have nS : s.heap.objs.size ∉ [(s.heap.push { cls := .type "set", dict := none, data := .set #[] 0 (.fresh 0 0 led) }).objs.size, l] := by
        rw [e0]
        intro z
        rcases List.mem_cons.mp z with z | z
        · exact absurd z (Nat.ne_of_lt (Nat.lt_succ_self _))
        · exact absurd (List.mem_singleton.mp z) (Nat.ne_of_gt ll)
      have ly : ys.length = us.size := by rw [← StrsAre.len_eq hi, Array.length_toList]
      refine fillTexts ((Walks.list h9 _ l nI us).toS) s.heap.objs.size nS ys ly nd (by omega) (fun i v hv => texts_at hi i v (by rw [Array.getElem?_toList]; exact hv)) ?fin us.size 0 _ (by omega) ⟨⟨_, Heap.get?_push_size _ rfl, rfl, rfl⟩, (l1.push _)⟩ (Moved.refl (hg := fun _ => rfl) ..) ?st
      case st =>
        have at2 : ((s.heap.push { cls := .type "set", dict := none, data := .set #[] 0 (.fresh 0 0 led) }).push { cls := .type "list_iterator", data := .fields #[.ref l, .int 0 0] }).get? s.heap.objs.size = some { cls := .type "set", dict := none, data := .set #[] 0 (.fresh 0 0 led) } := Heap.get?_push_of_some _ at0
        exact SetOf_congr ((setObjOf_fresh (knd := PySem.strKind prog w) led).setOf at2 (by unfold scanBound; omega)) (fun _ => rfl) rfl
      case fin =>
        intro s' hm hS'
        obtain ⟨h2, g2, d2, t2, o2⟩ := s'
        have eg : g2 = s.gens := hm.gens
        have ed : d2 = s.drawn := hm.drawn
        have eo : o2 = s.os := hm.os
        subst eg ed eo
        show wpAny _ _ _ _ _ _
        refine wpAny_pure ?_
        show wpAny _ _ (ret Value.none) _ _ _
        refine wpAny_pure ⟨rfl, h2, t2, rfl, hS', fun b o hb e => hm.heap b o (fun z => ?_) (Heap.get?_push_of_some _ (Heap.get?_push_of_some _ e))⟩
        rcases List.mem_cons.mp z with z | z
        · exact absurd z (Nat.ne_of_lt hb)
        · have z2 := List.mem_singleton.mp z
          rw [e0] at z2
          exact absurd z2 (Nat.ne_of_lt (Nat.lt_succ_of_lt hb))
    · match r2, hr2 with
      | .error e, hr2 => exact hr2
      | .ok .next, hr2 => exact hr2.elim
      | .ok .brk, hr2 => exact hr2.elim
      | .ok .cont, hr2 => exact hr2.elim
      | .ok (.ret r), hr2 =>
        obtain ⟨rfl, h2, t2, rfl, so, kp⟩ := hr2
        repeat (any_goals (first | assumption | wp_step))
        exact h _ _ so kp
end
/-- len(set(xs)) of unlike texts -/
def tLenSetT (K : PySem.W.Frag) (ta : TE) : TE := fun σ H Q => ta σ H fun x H1 => ∃ (l : Addr) (ys : List Str), x = .ref l ∧ SqL K H1 l (ys.map V.str) ∧ ys.Nodup ∧ ys.length ≤ 1000 ∧ Q (.int (ys.length : Nat)) H1
theorem pe_lenSetT {X : Cx} (K : PySem.W.Frag) {a : Expr} {ta : TE} {p p2 q pos : Pos} (hg : Gl X "len") (hm : X.mg "len" = none) (hg2 : Gl X "set") (hm2 : X.mg "set" = none) (ha : PE X a ta) (hc : X.calm = true := by rfl)
    (na : starEach [a] X.env = (false, eval a X.env) :: starEach [] X.env := by rfl) (eK : X.K = K := by rfl) : PE X (.Call (.Name "len" p) [.Call (.Name "set" p2) [a] [] q] [] pos) (tLenSetT K ta) := by
  subst eK
  refine ⟨fun pins s σ H Q I h => Call_ (ld_blt I hg hm boot_len (callWith_builtin1 (args_cons (Call_ (ld_blt I hg2 hm2 boot_set ?_)) rfl) rfl rfl))⟩
  refine callWith_type1 (args_cons (thn (ha.run pins s σ H _ I h) fun v s1 ⟨x, H1, I1, r1, l, ys, ex, hq, nd, few, q1⟩ => args_nil ?_) na) na rfl
  subst ex
  cases r1
  obtain ⟨its, r, pl, hz⟩ := I1.list hq
  have e1 : its.toArray.size = ys.length := by rw [List.size_toArray, ← r.length, List.length_map]
  refine call_set_texts (I1.ok.hd hc) pl.isList (by simpa using strsAre_of r) nd few fun h2 tk so hk => args_nil ?_
  obtain ⟨o, es, ep, t, ho, hex, hd, _, _, _, hf, hn⟩ := so
  have I2 : Inv X pins σ H1 { s1 with heap := h2, toks := tk } := I1.kept fun b o e => hk b o (Heap.lt_size e) e
  exact call_len_set ho hex hd hf (by rw [hn] <;> omega) ⟨.int ys.length, H1, I2.tok _, ⟨_, by rw [hn, e1]⟩, q1⟩
end Ly

set_option Elab.async false
set_option linter.all false
set_option maxRecDepth 100000
/-! zip of three tuples -/
namespace Ly
open PySem PySem.Spec PyProof.Rows L2
/-- the tuples at a, b, c as they stand at each turn, their items in new triples -/
def ItzT3 (K : PySem.W.Frag) (a b c : Addr) : It where
  go := fun i H => ∃ xs ys zs x y z, SqT K H a xs ∧ SqT K H b ys ∧ SqT K H c zs ∧ xs[i]? = some x ∧ ys[i]? = some y ∧ zs[i]? = some z
  yld := fun i H v H' => ∃ T x y z, v = .ref T ∧ H T = none ∧ H' = upd H T (.tup [x, y, z]) ∧ (∀ l, SqT K H a l → l[i]? = some x) ∧ (∀ l, SqT K H b l → l[i]? = some y) ∧ ∀ l, SqT K H c l → l[i]? = some z
  stop := fun i H => ∃ xs ys zs : List V, SqT K H a xs ∧ SqT K H b ys ∧ SqT K H c zs ∧ i ≤ xs.length ∧ i ≤ ys.length ∧ i ≤ zs.length ∧ (i = xs.length ∨ i = ys.length ∨ i = zs.length)
theorem in6 {z a b c d e f : Addr} (h : z ∈ [a, b, c, d, e, f]) : z = a ∨ z = b ∨ z = c ∨ z = d ∨ z = e ∨ z = f := by simpa using h
theorem tup_ne {s : Shared} {a i : Addr} {its : Array Value} {n : Nat} (p : IsTup s.heap a its) (l : s.heap.IsTupleIter i a n) : a ≠ i := fun q => by
  obtain ⟨o, ho, c, _⟩ := l
  obtain ⟨o', ho', c', _⟩ := p
  rw [← q, ho'] at ho; cases ho
  rw [c'] at c; simp at c
theorem turnT3 {P : Program} {w : World} {K : PySem.W.Frag} {elts : List Expr} {kk : Nat} {tpos : Pos} {a b c z TI TO i1 i2 i3 : Addr} (S : ZipSep3 z TI TO i1 i2 i3 [i1, a] [i2, b] [i3, c]) :
    Turn P w K (.Tuple elts kk tpos) (ItzT3 K a b c) [z, TI, TO, i1, i2, i3] z (fun i h => IsZip h z TI TO .none ∧ IsTupOf3 h TI (.ref i1) (.ref i2) (.ref i3) ∧ (∃ x y w, IsTupOf3 h TO x y w) ∧ h.IsTupleIter i1 a i ∧ h.IsTupleIter i2 b i ∧ h.IsTupleIter i3 c i) := by
  have z1 := S.zi1
  have z2 := S.zi2
  have z3 := S.zi3
  have keep5 : ∀ {h h' : Heap} {q : Addr} {o : Obj}, (∀ c o, c ≠ z → c ≠ TO → c ≠ i1 → c ≠ i2 → c ≠ i3 → h.get? c = some o → h'.get? c = some o) → q ∉ [z, TI, TO, i1, i2, i3] → h.get? q = some o → h'.get? q = some o :=
    fun k hc q => k _ _ (fun e => hc (by simp [e])) (fun e => hc (by simp [e])) (fun e => hc (by simp [e])) (fun e => hc (by simp [e])) (fun e => hc (by simp [e])) q
  have size6 : ∀ {h : Heap} {i : Nat}, IsZip h z TI TO .none → IsTupOf3 h TI (.ref i1) (.ref i2) (.ref i3) → (∃ x y w, IsTupOf3 h TO x y w) → h.IsTupleIter i1 a i → h.IsTupleIter i2 b i → h.IsTupleIter i3 c i → ∀ q ∈ [z, TI, TO, i1, i2, i3], q < h.objs.size := by
    intro h i hz hT ⟨x, y, w, hO⟩ ⟨o1, e1, _⟩ ⟨o2, e2, _⟩ ⟨o3, e3, _⟩ c hc
    rcases in6 hc with q | q | q | q | q | q <;> subst q
    · exact Heap.lt_size hz
    · exact Heap.lt_size hT
    · exact Heap.lt_size hO
    · exact Heap.lt_size e1
    · exact Heap.lt_size e2
    · exact Heap.lt_size e3
  refine { mem := List.mem_cons_self .., obj := ?_, keep := ?_, item := ?_, done := ?_, self := fun A i s Q E st h => wpAny_pyIter_zip st.1 h }
  · rintro i h ⟨hz, hT, ⟨x, y, w, hO⟩, ⟨o1, e1, _, d1⟩, ⟨o2, e2, _, d2⟩, ⟨o3, e3, _, d3⟩⟩ c hc
    rcases in6 hc with q | q | q | q | q | q <;> subst q
    · exact ⟨_, hz, fun v q => nomatch q⟩
    · exact ⟨_, hT, fun v q => nomatch q⟩
    · exact ⟨_, hO, fun v q => nomatch q⟩
    · exact ⟨o1, e1, fun v q => by rw [d1] at q; cases q⟩
    · exact ⟨o2, e2, fun v q => by rw [d2] at q; cases q⟩
    · exact ⟨o3, e3, fun v q => by rw [d3] at q; cases q⟩
  · rintro i h h' ⟨hz, hT, ⟨x, y, w, hO⟩, l1, l2, l3⟩ k
    exact ⟨k z (by simp) _ hz, k TI (by simp) _ hT, ⟨x, y, w, k TO (by simp) _ hO⟩, l1.at fun o q => k i1 (by simp) o q, l2.at fun o q => k i2 (by simp) o q, l3.at fun o q => k i3 (by simp) o q⟩
  · intro X hP hw hK hc i pins s σ H E I hf st hg
    subst hP hw hK
    obtain ⟨hz, hT, hO, l1, l2, l3⟩ := st
    have lts := size6 hz hT hO l1 l2 l3
    obtain ⟨x0, y0, w0, hO⟩ := hO
    obtain ⟨xs, ys, zs, x, y, zz0, qx, qy, qz, hx, hy, hzz⟩ := hg
    obtain ⟨its, rv, p, _⟩ := I.tuple qx
    obtain ⟨its2, rv2, p2, _⟩ := I.tuple qy
    obtain ⟨its3, rv3, p3, _⟩ := I.tuple qz
    obtain ⟨u, hu, ru⟩ := rv.get hx
    obtain ⟨u2, hu2, ru2⟩ := rv2.get hy
    obtain ⟨u3, hu3, ru3⟩ := rv3.get hzz
    have hd : X.A.in1.handled = none := I.ok.hd hc
    have D1 := Draws.tuple (prog := X.prog) (w := X.w) hd i1 a (tup_ne p l1) its.toArray
    have D2 := Draws.tuple (prog := X.prog) (w := X.w) hd i2 b (tup_ne p2 l2) its2.toArray
    have D3 := Draws.tuple (prog := X.prog) (w := X.w) hd i3 c (tup_ne p3 l3) its3.toArray
    have s1 : i < its.toArray.size := by
      have := (List.getElem?_eq_some_iff.mp hu).1
      simpa using this
    have s2 : i < its2.toArray.size := by
      have := (List.getElem?_eq_some_iff.mp hu2).1
      simpa using this
    have s3 : i < its3.toArray.size := by
      have := (List.getElem?_eq_some_iff.mp hu3).1
      simpa using this
    refine wpAny_pyNext_zipD3_item S D1 D2 D3 hz hT hO ⟨l1, p⟩ ⟨l2, p2⟩ ⟨l3, p3⟩ s1 s2 s3 fun v1 v2 v3 h' tk e1 e2 e3 z' O' st1 st2 st3 hN hsz hk => ?_
    have ev1 : u = v1 := by
      have : its[i]? = some v1 := by simpa using e1
      rw [hu] at this; exact Option.some.inj this
    have ev2 : u2 = v2 := by
      have : its2[i]? = some v2 := by simpa using e2
      rw [hu2] at this; exact Option.some.inj this
    have ev3 : u3 = v3 := by
      have : its3[i]? = some v3 := by simpa using e3
      rw [hu3] at this; exact Option.some.inj this
    subst ev1 ev2 ev3
    refine ⟨_, rfl, wpAny_letOwnedTupleGo_zip (s := { s with heap := h', toks := tk }) z' fun h2 zz sb => ?_⟩
    have zlt : z < s.heap.objs.size := lts z (by simp)
    have trip : h2.get? s.heap.objs.size = some { cls := .type "tuple", data := .seq #[u, u2, u3] } := (sb.2 _ (Nat.ne_of_gt zlt)).trans hN
    have new : ObjOk X.prog X.w (upd H s.heap.objs.size (.tup [x, y, zz0])) h2 s.heap.objs.size (.tup [x, y, zz0]) := ⟨by show 3 ≤ sizeLine; decide, [u, u2, u3], .cons ru (.cons ru2 (.cons ru3 .nil)), ⟨_, trip, rfl, _, rfl⟩⟩
    have I2 : Inv X pins σ (upd H s.heap.objs.size (.tup [x, y, zz0])) { s with heap := h2, toks := tk } :=
      I.turnedNew (t' := tk) (ch := [z, TI, TO, i1, i2, i3]) (fun c o hb q => (sb.2 c (fun e => hb (by simp [e]))).trans (keep5 hk hb q)) hf (Nat.le_refl _) new
    refine ⟨.ref s.heap.objs.size, _, I2, rfl, ⟨_, x, y, zz0, rfl, I.hok.fresh (Nat.le_refl _), rfl, fun l hl => by rw [I.tuple_inj hl qx]; exact hx, fun l hl => by rw [I.tuple_inj hl qy]; exact hy, fun l hl => by rw [I.tuple_inj hl qz]; exact hzz⟩, ⟨zz, ?_, ⟨u, u2, u3, ?_⟩, ?_, ?_, ?_⟩, fun c hc => ?_⟩
    · exact (sb.2 _ S.TIz).trans (hk _ _ S.TIz S.TITO S.TIi1 S.TIi2 S.TIi3 hT)
    · exact (sb.2 _ S.TOz).trans O'
    · exact st1.1.at fun o q => (sb.2 _ z1.symm).trans q
    · exact st2.1.at fun o q => (sb.2 _ z2.symm).trans q
    · exact st3.1.at fun o q => (sb.2 _ z3.symm).trans q
    · rw [upd_ne (Nat.ne_of_lt (lts c hc))]
      exact (hf c hc).1
  · intro X hP hw hK hc i pins s σ H E I hf st hg
    subst hP hw hK
    obtain ⟨hz, hT, ⟨x0, y0, w0, hO⟩, l1, l2, l3⟩ := st
    obtain ⟨xs, ys, zs, qx, qy, qz, le1, le2, le3, hend⟩ := hg
    obtain ⟨its, rv, p, _⟩ := I.tuple qx
    obtain ⟨its2, rv2, p2, _⟩ := I.tuple qy
    obtain ⟨its3, rv3, p3, _⟩ := I.tuple qz
    have hd : X.A.in1.handled = none := I.ok.hd hc
    have e1 := rv.length
    have e2 := rv2.length
    have e3 := rv3.length
    refine wpAny_pyNext_zipD3_end S (Draws.tuple (prog := X.prog) (w := X.w) hd i1 a (tup_ne p l1) its.toArray) (Draws.tuple (prog := X.prog) (w := X.w) hd i2 b (tup_ne p2 l2) its2.toArray) (Draws.tuple (prog := X.prog) (w := X.w) hd i3 c (tup_ne p3 l3) its3.toArray) hz hT hO ⟨l1, p⟩ ⟨l2, p2⟩ ⟨l3, p3⟩ (by simp; omega) (by simp; omega) (by simp; omega) (by simp; omega) fun h' tk hk => ?_
    exact ⟨rfl, I.turnedL (t' := tk) (ch := [z, TI, TO, i1, i2, i3]) (fun c o hb q => keep5 hk hb q) hf⟩
def iZipT3 (K : PySem.W.Frag) (ta : TA) : TI := fun σ H R => ta σ H fun vs H1 => ∃ a b c xs ys zs, vs = [.ref a, .ref b, .ref c] ∧ SqT K H1 a xs ∧ SqT K H1 b ys ∧ SqT K H1 c zs ∧ R (ItzT3 K a b c) H1
theorem pi_zipT3 {X : Cx} {e e2 e3 : Expr} {ta : TA} {p pos tpos : Pos} {elts : List Expr} {kk : Nat} (hg : Gl X "zip") (hm : X.mg "zip" = none) (ha : PA X [e, e2, e3] ta)
    (hs : starEach [e, e2, e3] X.env = (false, eval e X.env) :: starEach [e2, e3] X.env := by rfl) (hpl : (backTo pos (starEach [e2, e3] X.env)).any (·.1) = false := by rfl) :
    PI X (.Tuple elts kk tpos) (.Call (.Name "zip" p) [e, e2, e3] [] pos) (iZipT3 X.K ta) := by
  refine ⟨fun pins s σ H R I h => Call_ (ld_blt I hg hm PyProof.Rows.boot_zip (PyProof.Rows.callWith_type1 (thn (ha.run pos pins s σ H _ I h) ?_) hs hpl))⟩
  rintro us s1 ⟨vs, H1, I1, r1, a, b, c, xs, ys, zs, rfl, qx, qy, qz, q⟩
  cases r1 with | cons r rr => cases rr with | cons r' rr => cases rr with | cons r'' rr =>
  cases rr
  cases r
  cases r'
  cases r''
  obtain ⟨its, rv, p1, _⟩ := I1.tuple qx
  obtain ⟨its2, rv2, p2, _⟩ := I1.tuple qy
  obtain ⟨its3, rv3, p3, _⟩ := I1.tuple qz
  obtain ⟨o1, ho1, _⟩ := id p1
  obtain ⟨o2, ho2, _⟩ := id p2
  obtain ⟨o3, ho3, _⟩ := id p3
  have S := zip_sep3 (N := s1.heap.objs.size) (fp1 := [a]) (fp2 := [b]) (fp3 := [c]) (fun x hc => by simp at hc; rw [hc]; exact Heap.lt_size ho1) (fun x hc => by simp at hc; rw [hc]; exact Heap.lt_size ho2) (fun x hc => by simp at hc; rw [hc]; exact Heap.lt_size ho3)
  refine zip_begins3 (begins_tuple a its.toArray) (begins_tuple b its2.toArray) (begins_tuple c its3.toArray) p1 p2 p3 fun h' hz hT hO g1 g2 g3 hsz hk => wpAny_pyIter_zip hz ?_
  have I2 : Inv X pins σ H1 { s1 with heap := h' } := I1.kept (t' := s1.toks) hk
  refine ⟨_, [s1.heap.objs.size + 5, s1.heap.objs.size + 3, s1.heap.objs.size + 4, s1.heap.objs.size, s1.heap.objs.size + 1, s1.heap.objs.size + 2], _, _, H1, rfl, I2, turnT3 S, ⟨hz, hT, ⟨_, _, _, hO⟩, ⟨_, g1, rfl, rfl⟩, ⟨_, g2, rfl, rfl⟩, ⟨_, g3, rfl, rfl⟩⟩, fun c hc => ?_, q⟩
  have le : s1.heap.objs.size ≤ c := by
    rcases in6 hc with z | z | z | z | z | z <;> rw [z] <;> first | exact Nat.le_refl _ | exact Nat.le_add_right _ _
  exact I1.fpOk le (I1.hok.fresh le)
theorem kpi_zipT3 {X : Cx} (K : PySem.W.Frag) {e1 e2 e3 : Expr} {ta : TA} {p pos tpos : Pos} {elts : List Expr} {kk : Nat} (hg : Gl X "zip") (hm : X.mg "zip" = none) (ha : PA X [e1, e2, e3] ta)
    (hs : starEach [e1, e2, e3] X.env = (false, eval e1 X.env) :: starEach [e2, e3] X.env := by rfl) (hpl : (backTo pos (starEach [e2, e3] X.env)).any (·.1) = false := by rfl) (e : X.K = K := by rfl) :
    PI X (.Tuple elts kk tpos) (.Call (.Name "zip" p) [e1, e2, e3] [] pos) (iZipT3 K ta) := by subst e; exact pi_zipT3 hg hm ha hs hpl
def YTrip (xs ys zs : Nat → Option V) : Nat → Hp → V → Hp → Prop := fun i H v H' => ∃ T x y z, v = .ref T ∧ H T = none ∧ H' = upd H T (.tup [x, y, z]) ∧ xs i = some x ∧ ys i = some y ∧ zs i = some z
theorem walk_zipT3 {K : PySem.W.Frag} {a b c : Addr} {xs ys zs : List V} (e : xs.length = ys.length) (e2 : xs.length = zs.length) : Walk (ItzT3 K a b c) xs.length (fun H => SqT K H a xs ∧ SqT K H b ys ∧ SqT K H c zs) (YTrip (fun i => xs[i]?) (fun i => ys[i]?) (fun i => zs[i]?)) := by
  refine ⟨fun i _ hi q => ?_, fun _ q => ⟨xs, ys, zs, q.1, q.2.1, q.2.2, Nat.le_refl _, Nat.le_of_eq e, Nat.le_of_eq e2, .inl rfl⟩, fun i H v H' _ q y => ?_⟩
  · have h2 : i < ys.length := by omega
    have h3 : i < zs.length := by omega
    exact ⟨xs, ys, zs, xs[i], ys[i], zs[i], q.1, q.2.1, q.2.2, by simp [hi], by simp [h2], by simp [h3]⟩
  · obtain ⟨T, x, y', z, h1, h2, h3, h4, h5, h6⟩ := y
    exact ⟨T, x, y', z, h1, h2, h3, h4 xs q.1, h5 ys q.2.1, h6 zs q.2.2⟩
/-! ### zip of two tuples, held by a name -/
def zO (z TI TO : Addr) : HO := .ext fun h => IsZip h z TI TO .none
def pO (TI i1 i2 : Addr) : HO := .ext fun h => IsPair h TI (.ref i1) (.ref i2)
def nO (TO : Addr) : HO := .ext fun h => IsPair h TO .none .none
def iO (i a : Addr) : HO := .ext fun h => h.IsTupleIter i a 0
structure ZipV (n : Nat) (H0 H : Hp) (z a b : Addr) : Prop where
  ex : ∃ TI TO i1 i2, ZipApart z TI TO i1 i2 a b ∧ H z = some (zO z TI TO) ∧ H TI = some (pO TI i1 i2) ∧ H TO = some (nO TO) ∧ H i1 = some (iO i1 a) ∧ H i2 = some (iO i2 b) ∧ n ≤ z ∧ n ≤ TI ∧ n ≤ TO ∧ n ≤ i1 ∧ n ≤ i2 ∧ ∀ c ∈ [z, TI, TO, i1, i2], H0 c = none
/-- all but iterators stays -/
def KeepN (H H' : Hp) : Prop := (∀ b o, (∀ φ, o ≠ .ext φ) → H b = some o → H' b = some o) ∧ ∀ b, H b = none → H' b = none
theorem KeepN.trans {H H1 H2 : Hp} (a : KeepN H H1) (b : KeepN H1 H2) : KeepN H H2 := ⟨fun x o n e => b.1 x o n (a.1 x o n e), fun x e => b.2 x (a.2 x e)⟩
theorem keep_drop {H : Hp} {a : Addr} {φ : Heap → Prop} (h : H a = some (.ext φ)) : KeepN H (ItX.dropH H a) := by
  refine ⟨fun b o n e => ?_, fun b e => ?_⟩
  · have : b ≠ a := fun z => by
      rw [z, h] at e
      exact n φ (Option.some.inj e).symm
    rw [ItX.dropH_ne this]; exact e
  · by_cases hb : b = a
    · rw [hb, ItX.dropH_same]
    · rw [ItX.dropH_ne hb]; exact e
def tZipV (K : PySem.W.Frag) (n : Nat) (ta : TA) : TE := fun σ H Q => ta σ H fun vs H1 => ∃ a b xs ys, vs = [.ref a, .ref b] ∧ SqT K H1 a xs ∧ SqT K H1 b ys ∧ ∀ z H2, Same H1 H2 → H1 z = none → ZipV n H1 H2 z a b → Q (.ref z) H2
theorem pe_zipV {X : Cx} (K : PySem.W.Frag) {e e2 : Expr} {ta : TA} {p pos : Pos} (hg : Gl X "zip") (hm : X.mg "zip" = none) (ha : PA X [e, e2] ta)
    (hs : starEach [e, e2] X.env = (false, eval e X.env) :: starEach [e2] X.env := by rfl) (hpl : (backTo pos (starEach [e2] X.env)).any (·.1) = false := by rfl) (eK : X.K = K := by rfl) :
    PE X (.Call (.Name "zip" p) [e, e2] [] pos) (tZipV K X.s_0.heap.objs.size ta) := by
  subst eK
  refine ⟨fun pins s σ H Q I h => Call_ (ld_blt I hg hm PyProof.Rows.boot_zip (PyProof.Rows.callWith_type1 (thn (ha.run pos pins s σ H _ I h) ?_) hs hpl))⟩
  rintro us s1 ⟨vs, H1, I1, r1, a, b, xs, ys, rfl, qx, qy, q⟩
  cases r1 with | cons r rr => cases rr with | cons r' rr =>
  cases rr
  cases r
  cases r'
  obtain ⟨its, rv, p1, _⟩ := I1.tuple qx
  obtain ⟨its2, rv2, p2, _⟩ := I1.tuple qy
  obtain ⟨o1, ho1, _⟩ := id p1
  obtain ⟨o2, ho2, _⟩ := id p2
  refine RZ.call_zipT (show s1.heap.IsTuple a its.toArray from p1) (show s1.heap.IsTuple b its2.toArray from p2) fun h' hz hTI hTO h1 h2 hsz hk => ?_
  have I2 : Inv X pins σ H1 { s1 with heap := h' } := I1.kept (t' := s1.toks) hk
  have D := PySem.W.ktu_apart s1.heap.objs.size a b (Heap.lt_size ho1) (Heap.lt_size ho2)
  generalize hN : s1.heap.objs.size = N at *
  have fr : ∀ j, H1 (N + j) = none := fun j => I1.hok.fresh (by rw [hN]; exact Nat.le_add_right N j)
  have n1 : ∀ (o : HO) (j k : Nat) (G : Hp), j ≠ k → G (N + j) = none → upd G (N + k) o (N + j) = none := fun o j k G hj hg => by
    rw [upd_ne (fun z => hj (Nat.add_left_cancel z))]; exact hg
  have le : ∀ j, s1.heap.objs.size ≤ N + j := fun j => by rw [hN]; exact Nat.le_add_right N j
  have J1 := L2.Inv.take (h' := h') (t' := s1.toks) (o := zO (N + 4) (N + 2) (N + 3)) I2 (fun b ob _ e => e) (I1.fpOk (le 4) (fr 4)) ⟨hz, ⟨_, hz⟩, fun h1 h2 q k => k _ q⟩
  have J2 := L2.Inv.take (h' := h') (t' := s1.toks) (o := pO (N + 2) N (N + 1)) J1 (fun b ob _ e => e) (I1.fpOk (le 2) (n1 _ 2 4 _ (by decide) (fr 2))) ⟨hTI, ⟨_, hTI⟩, fun h1 h2 q k => k _ q⟩
  have J3 := L2.Inv.take (h' := h') (t' := s1.toks) (o := nO (N + 3)) J2 (fun b ob _ e => e) (I1.fpOk (le 3) (n1 _ 3 2 _ (by decide) (n1 _ 3 4 _ (by decide) (fr 3)))) ⟨hTO, ⟨_, hTO⟩, fun h1 h2 q k => k _ q⟩
  obtain ⟨oi1, ei1, _⟩ := id h1
  obtain ⟨oi2, ei2, _⟩ := id h2
  have J4 := L2.Inv.take (h' := h') (t' := s1.toks) (o := iO (N + 0) a) J3 (fun b ob _ e => e) (I1.fpOk (le 0) (n1 _ 0 3 _ (by decide) (n1 _ 0 2 _ (by decide) (n1 _ 0 4 _ (by decide) (fr 0))))) ⟨h1, ⟨_, ei1⟩, fun g1 g2 q k => q.at k⟩
  have J5 := L2.Inv.take (h' := h') (t' := s1.toks) (o := iO (N + 1) b) J4 (fun b ob _ e => e) (I1.fpOk (le 1) (n1 _ 1 0 _ (by decide) (n1 _ 1 3 _ (by decide) (n1 _ 1 2 _ (by decide) (n1 _ 1 4 _ (by decide) (fr 1)))))) ⟨h2, ⟨_, ei2⟩, fun g1 g2 q k => q.at k⟩
  have ad : ∀ j k : Nat, j ≠ k → N + j ≠ N + k := fun j k h z => h (Nat.add_left_cancel z)
  have sz := I1.sz
  rw [hN] at sz
  refine ⟨.ref (N + 4), _, J5, rfl, q (N + 4) _ (fun b o e => ?_) (fr 4) ⟨N + 2, N + 3, N + 0, N + 1, D, ?_, ?_, ?_, ?_, upd_same, Nat.le_trans sz (Nat.le_add_right _ _), Nat.le_trans sz (Nat.le_add_right _ _), Nat.le_trans sz (Nat.le_add_right _ _), Nat.le_trans sz (Nat.le_add_right _ _), Nat.le_trans sz (Nat.le_add_right _ _), fun c hc => ?_⟩⟩
  · have nb : ∀ j, b ≠ N + j := fun j z => by rw [z, fr j] at e; cases e
    rw [upd_ne (nb 1), upd_ne (nb 0), upd_ne (nb 3), upd_ne (nb 2), upd_ne (nb 4)]; exact e
  · rw [upd_ne (ad 4 1 (by decide)), upd_ne (ad 4 0 (by decide)), upd_ne (ad 4 3 (by decide)), upd_ne (ad 4 2 (by decide))]; exact upd_same
  · rw [upd_ne (ad 2 1 (by decide)), upd_ne (ad 2 0 (by decide)), upd_ne (ad 2 3 (by decide))]; exact upd_same
  · rw [upd_ne (ad 3 1 (by decide)), upd_ne (ad 3 0 (by decide))]; exact upd_same
  · rw [upd_ne (ad 0 1 (by decide))]; exact upd_same
  · rcases in5 hc with h | h | h | h | h
    · rw [h]; exact fr 4
    · rw [h]; exact fr 2
    · rw [h]; exact fr 3
    · rw [h]; exact fr 0
    · rw [h]; exact fr 1
def iZipV (K : PySem.W.Frag) (n k : Nat) : TI := fun σ H R => ∃ z a b H0, σ[k]? = some (some (.ref z)) ∧ ZipV n H0 H z a b ∧ ∀ H', (∀ b o, H0 b = some o → H b = some o → H' b = some o) → R (RZ.ItzT K a b) H'
theorem fp_low {X : Cx} {pins : List (Addr × Obj)} {H H' : Hp} {b : Addr} (f : FpOk X pins H b) (h : H' b = none) : FpOk X pins H' b := by
  obtain ⟨_, r⟩ := f
  exact ⟨h, r⟩
theorem pi_zipV {X : Cx} (K : PySem.W.Frag) {k : Nat} {x : Str} {p tpos : Pos} {elts : List Expr} {kk : Nat} (hN : X.N[k]? = some x) (hv : Vis X.env.scope x) (hd : (x == ("__debug__" : Str)) = false := by decide) (hcd : (x == ("__classdict__" : Str)) = false := by decide) (eK : X.K = K := by rfl) :
    PI X (.Tuple elts kk tpos) (.Name x p) (iZipV K X.s_0.heap.objs.size k) := by
  subst eK
  refine ⟨fun pins s σ H R I h => ?_⟩
  obtain ⟨z, a, b, H0, hs, ⟨TI, TO, i1, i2, D, e1, e2, e3, e4, e5, l1, l2, l3, l4, l5, fresh⟩, q⟩ := h
  refine thn ((pe_var (pos := p) (i := k) hN hv hd hcd).run pins s σ H (fun v H1 => v = .ref z ∧ H1 = H) I ⟨.ref z, hs, rfl, rfl⟩) fun u s1 ⟨v, H1, I1, r1, ev, eH⟩ => ?_
  subst ev
  rw [eH] at I1
  cases r1
  have o1 : IsZip s1.heap z TI TO .none := (I1.hok z _ e1).1
  have o2 : IsPair s1.heap TI (.ref i1) (.ref i2) := (I1.hok TI _ e2).1
  have o3 : IsPair s1.heap TO .none .none := (I1.hok TO _ e3).1
  have o4 : s1.heap.IsTupleIter i1 a 0 := (I1.hok i1 _ e4).1
  have o5 : s1.heap.IsTupleIter i2 b 0 := (I1.hok i2 _ e5).1
  refine wpAny_pyIter_zip o1 ?_
  have J1 := ItX.inv_drop I1 e1
  have k1 := keep_drop e1
  have f1 := ItX.inv_fp I1 e1 l1
  have e2' : ItX.dropH H z TI = some (pO TI i1 i2) := by rw [ItX.dropH_ne D.TIz]; exact e2
  have J2 := ItX.inv_drop J1 e2'
  have k2 := keep_drop e2'
  have f2 := ItX.inv_fp J1 e2' l2
  have e3' : ItX.dropH (ItX.dropH H z) TI TO = some (nO TO) := by rw [ItX.dropH_ne D.TITO.symm, ItX.dropH_ne D.TOz]; exact e3
  have J3 := ItX.inv_drop J2 e3'
  have k3 := keep_drop e3'
  have f3 := ItX.inv_fp J2 e3' l3
  have e4' : ItX.dropH (ItX.dropH (ItX.dropH H z) TI) TO i1 = some (iO i1 a) := by rw [ItX.dropH_ne D.TOi1.symm, ItX.dropH_ne D.TIi1.symm, ItX.dropH_ne D.i1z]; exact e4
  have J4 := ItX.inv_drop J3 e4'
  have k4 := keep_drop e4'
  have f4 := ItX.inv_fp J3 e4' l4
  have e5' : ItX.dropH (ItX.dropH (ItX.dropH (ItX.dropH H z) TI) TO) i1 i2 = some (iO i2 b) := by rw [ItX.dropH_ne D.i12.symm, ItX.dropH_ne D.TOi2.symm, ItX.dropH_ne D.TIi2.symm, ItX.dropH_ne D.i2z]; exact e5
  have J5 := ItX.inv_drop J4 e5'
  have k5 := keep_drop e5'
  have f5 := ItX.inv_fp J4 e5' l5
  have kk5 := (((k1.trans k2).trans k3).trans k4).trans k5
  refine ⟨z, [z, TI, TO, i1, i2], _, _, _, rfl, J5, RZ.turn_zipT D, ⟨o1, o2, ⟨_, _, o3⟩, o4, o5⟩, fun c hc => ?_, q _ fun c o h0 hc => ?_⟩
  · rcases in5 hc with h | h | h | h | h <;> subst h
    · exact fp_low f1 (k5.2 _ (k4.2 _ (k3.2 _ (k2.2 _ f1.1))))
    · exact fp_low f2 (k5.2 _ (k4.2 _ (k3.2 _ f2.1)))
    · exact fp_low f3 (k5.2 _ (k4.2 _ f3.1))
    · exact fp_low f4 (k5.2 _ f4.1)
    · exact f5
  have nn : ∀ d ∈ [z, TI, TO, i1, i2], c ≠ d := fun d hd q => by
    rw [q, fresh d hd] at h0; cases h0
  rw [ItX.dropH_ne (nn i2 (by simp)), ItX.dropH_ne (nn i1 (by simp)), ItX.dropH_ne (nn TO (by simp)), ItX.dropH_ne (nn TI (by simp)), ItX.dropH_ne (nn z (by simp))]
  exact hc
/-! ### zip of a tuple and a list -/
def ItzN (K : PySem.W.Frag) (a b : Addr) : It where
  go := fun i H => ∃ xs ys x y, SqT K H a xs ∧ SqL K H b ys ∧ xs[i]? = some x ∧ ys[i]? = some y
  yld := fun i H v H' => ∃ T x y, v = .ref T ∧ H T = none ∧ H' = upd H T (.tup [x, y]) ∧ (∀ l, SqT K H a l → l[i]? = some x) ∧ ∀ l, SqL K H b l → l[i]? = some y
  stop := fun i H => ∃ xs ys : List V, SqT K H a xs ∧ SqL K H b ys ∧ i ≤ xs.length ∧ i ≤ ys.length ∧ (i = xs.length ∨ i = ys.length)
theorem turnN {P : Program} {w : World} {K : PySem.W.Frag} {elts : List Expr} {kk : Nat} {tpos : Pos} {a b z TI TO i1 i2 : Addr} (S : ZipSep2 z TI TO i1 i2 [i1, a] [i2, b]) :
    Turn P w K (.Tuple elts kk tpos) (ItzN K a b) [z, TI, TO, i1, i2] z (fun i h => IsZip h z TI TO .none ∧ IsTupOf2 h TI (.ref i1) (.ref i2) ∧ (∃ x y, IsTupOf2 h TO x y) ∧ h.IsTupleIter i1 a i ∧ h.IsListIter i2 b i) := by
  have n12 : i1 ≠ i2 := fun q => S.sep1_2 (by rw [q]; exact List.mem_cons_self ..)
  have z1 := S.zi1
  have z2 := S.zi2
  have t1 := S.Ti1
  have t2 := S.Ti2
  have keep4 : ∀ {h h' : Heap} {c : Addr} {o : Obj}, (∀ c o, c ≠ z → c ≠ TO → c ≠ i1 → c ≠ i2 → h.get? c = some o → h'.get? c = some o) → c ∉ [z, TI, TO, i1, i2] → h.get? c = some o → h'.get? c = some o :=
    fun k hc q => k _ _ (fun e => hc (by simp [e])) (fun e => hc (by simp [e])) (fun e => hc (by simp [e])) (fun e => hc (by simp [e])) q
  have size5 : ∀ {h : Heap} {i : Nat}, IsZip h z TI TO .none → IsTupOf2 h TI (.ref i1) (.ref i2) → (∃ x y, IsTupOf2 h TO x y) → h.IsTupleIter i1 a i → h.IsListIter i2 b i → ∀ c ∈ [z, TI, TO, i1, i2], c < h.objs.size := by
    intro h i hz hT ⟨x, y, hO⟩ ⟨o1, e1, _⟩ ⟨o2, e2, _⟩ c hc
    rcases in5 hc with q | q | q | q | q <;> subst q
    · exact Heap.lt_size hz
    · exact Heap.lt_size hT
    · exact Heap.lt_size hO
    · exact Heap.lt_size e1
    · exact Heap.lt_size e2
  refine { mem := List.mem_cons_self .., obj := ?_, keep := ?_, item := ?_, done := ?_, self := fun A i s Q E st h => wpAny_pyIter_zip st.1 h }
  · rintro i h ⟨hz, hT, ⟨x, y, hO⟩, ⟨o1, e1, _, d1⟩, ⟨o2, e2, _, d2⟩⟩ c hc
    rcases in5 hc with q | q | q | q | q <;> subst q
    · exact ⟨_, hz, fun v q => nomatch q⟩
    · exact ⟨_, hT, fun v q => nomatch q⟩
    · exact ⟨_, hO, fun v q => nomatch q⟩
    · exact ⟨o1, e1, fun v q => by rw [d1] at q; cases q⟩
    · exact ⟨o2, e2, fun v q => by rw [d2] at q; cases q⟩
  · rintro i h h' ⟨hz, hT, ⟨x, y, hO⟩, l1, l2⟩ k
    exact ⟨k z (by simp) _ hz, k TI (by simp) _ hT, ⟨x, y, k TO (by simp) _ hO⟩, l1.at fun o q => k i1 (by simp) o q, l2.at fun o q => k i2 (by simp) o q⟩
  · intro X hP hw hK hc i pins s σ H E I hf st hg
    subst hP hw hK
    obtain ⟨hz, hT, hO, l1, l2⟩ := st
    have lts := size5 hz hT hO l1 l2
    obtain ⟨x0, y0, hO⟩ := hO
    obtain ⟨xs, ys, x, y, qx, qy, hx, hy⟩ := hg
    obtain ⟨its, rv, p, _⟩ := I.tuple qx
    obtain ⟨its2, rv2, p2, _⟩ := I.list qy
    obtain ⟨u, hu, ru⟩ := rv.get hx
    obtain ⟨u2, hu2, ru2⟩ := rv2.get hy
    have a1 : a ≠ i1 := fun q => by
      obtain ⟨o, ho, c, _⟩ := l1
      obtain ⟨o', ho', c', _⟩ := p
      rw [← q, ho'] at ho; cases ho
      rw [c'] at c; simp at c
    have b2 : b ≠ i2 := fun q => by
      obtain ⟨o, ho, c, _⟩ := l2
      obtain ⟨o', ho', c', _⟩ := p2.isList
      rw [← q, ho'] at ho; cases ho
      rw [c'] at c; simp at c
    have hd : X.A.in1.handled = none := I.ok.hd hc
    have D1 := Draws.tuple (prog := X.prog) (w := X.w) hd i1 a a1 its.toArray
    have D2 := Draws.list (prog := X.prog) (w := X.w) hd i2 b b2 its2.toArray
    have s1 : i < its.toArray.size := by
      have := (List.getElem?_eq_some_iff.mp hu).1
      simpa using this
    have s2 : i < its2.toArray.size := by
      have := (List.getElem?_eq_some_iff.mp hu2).1
      simpa using this
    refine wpAny_pyNext_zipD2_item S D1 D2 hz hT hO ⟨l1, p⟩ ⟨l2, p2.isList⟩ s1 s2 fun v1 v2 h' tk e1 e2 z' O' st1 st2 hN hsz hk => ?_
    have ev1 : u = v1 := by
      have : its[i]? = some v1 := by simpa using e1
      rw [hu] at this; exact Option.some.inj this
    have ev2 : u2 = v2 := by
      have : its2[i]? = some v2 := by simpa using e2
      rw [hu2] at this; exact Option.some.inj this
    subst ev1 ev2
    refine ⟨_, rfl, wpAny_letOwnedTupleGo_zip (s := { s with heap := h', toks := tk }) z' fun h2 zz sb => ?_⟩
    have zlt : z < s.heap.objs.size := lts z (by simp)
    have pair : h2.get? s.heap.objs.size = some { cls := .type "tuple", data := .seq #[u, u2] } := (sb.2 _ (Nat.ne_of_gt zlt)).trans hN
    have new : ObjOk X.prog X.w (upd H s.heap.objs.size (.tup [x, y])) h2 s.heap.objs.size (.tup [x, y]) := ⟨by show 2 ≤ sizeLine; decide, [u, u2], .cons ru (.cons ru2 .nil), ⟨_, pair, rfl, _, rfl⟩⟩
    have I2 : Inv X pins σ (upd H s.heap.objs.size (.tup [x, y])) { s with heap := h2, toks := tk } :=
      I.turnedNew (t' := tk) (ch := [z, TI, TO, i1, i2]) (fun c o hb q => (sb.2 c (fun e => hb (by simp [e]))).trans (keep4 hk hb q)) hf (Nat.le_refl _) new
    refine ⟨.ref s.heap.objs.size, _, I2, rfl, ⟨_, x, y, rfl, I.hok.fresh (Nat.le_refl _), rfl, fun l hl => by rw [I.tuple_inj hl qx]; exact hx, fun l hl => by rw [I.list_inj hl qy]; exact hy⟩, ⟨zz, ?_, ⟨u, u2, ?_⟩, ?_, ?_⟩, fun c hc => ?_⟩
    · exact (sb.2 _ S.TIz).trans (hk _ _ S.TIz S.TITO S.TIi1 S.TIi2 hT)
    · exact (sb.2 _ S.TOz).trans O'
    · exact st1.1.at fun o q => (sb.2 _ z1.symm).trans q
    · exact st2.1.at fun o q => (sb.2 _ z2.symm).trans q
    · rw [upd_ne (Nat.ne_of_lt (lts c hc))]
      exact (hf c hc).1
  · intro X hP hw hK hc i pins s σ H E I hf st hg
    subst hP hw hK
    obtain ⟨hz, hT, ⟨x0, y0, hO⟩, l1, l2⟩ := st
    obtain ⟨xs, ys, qx, qy, le1, le2, hend⟩ := hg
    obtain ⟨its, rv, p, _⟩ := I.tuple qx
    obtain ⟨its2, rv2, p2, _⟩ := I.list qy
    have a1 : a ≠ i1 := fun q => by
      obtain ⟨o, ho, c, _⟩ := l1
      obtain ⟨o', ho', c', _⟩ := p
      rw [← q, ho'] at ho; cases ho
      rw [c'] at c; simp at c
    have b2 : b ≠ i2 := fun q => by
      obtain ⟨o, ho, c, _⟩ := l2
      obtain ⟨o', ho', c', _⟩ := p2.isList
      rw [← q, ho'] at ho; cases ho
      rw [c'] at c; simp at c
    have hd : X.A.in1.handled = none := I.ok.hd hc
    have e1 := rv.length
    have e2 := rv2.length
    refine wpAny_pyNext_zipD2_end S (Draws.tuple (prog := X.prog) (w := X.w) hd i1 a a1 its.toArray) (Draws.list (prog := X.prog) (w := X.w) hd i2 b b2 its2.toArray) hz hT hO ⟨l1, p⟩ ⟨l2, p2.isList⟩ (by simp; omega) (by simp; omega) (by simp; omega) fun h' tk hk => ?_
    exact ⟨rfl, I.turnedL (t' := tk) (ch := [z, TI, TO, i1, i2]) (fun c o hb q => keep4 hk hb q) hf⟩
def iZipN (K : PySem.W.Frag) (ta : TA) : TI := fun σ H R => ta σ H fun vs H1 => ∃ a b xs ys, vs = [.ref a, .ref b] ∧ SqT K H1 a xs ∧ SqL K H1 b ys ∧ R (ItzN K a b) H1
theorem pi_zipN {X : Cx} {e e2 : Expr} {ta : TA} {p pos tpos : Pos} {elts : List Expr} {kk : Nat} (hg : Gl X "zip") (hm : X.mg "zip" = none) (ha : PA X [e, e2] ta)
    (hs : starEach [e, e2] X.env = (false, eval e X.env) :: starEach [e2] X.env := by rfl) (hpl : (backTo pos (starEach [e2] X.env)).any (·.1) = false := by rfl) :
    PI X (.Tuple elts kk tpos) (.Call (.Name "zip" p) [e, e2] [] pos) (iZipN X.K ta) := by
  refine ⟨fun pins s σ H R I h => Call_ (ld_blt I hg hm PyProof.Rows.boot_zip (PyProof.Rows.callWith_type1 (thn (ha.run pos pins s σ H _ I h) ?_) hs hpl))⟩
  rintro us s1 ⟨vs, H1, I1, r1, a, b, xs, ys, rfl, qx, qy, q⟩
  cases r1 with | cons r rr => cases rr with | cons r' rr =>
  cases rr
  cases r
  cases r'
  obtain ⟨its, rv, p1, _⟩ := I1.tuple qx
  obtain ⟨its2, rv2, p2, _⟩ := I1.list qy
  obtain ⟨o1, ho1, _⟩ := id p1
  have lb : b < s1.heap.objs.size := p2.lt
  have la : a < s1.heap.objs.size := Heap.lt_size ho1
  have S := zip_sep2 (N := s1.heap.objs.size) (fp1 := [a]) (fp2 := [b]) (fun c hc => by simp at hc; rw [hc]; exact la) (fun c hc => by simp at hc; rw [hc]; exact lb)
  refine zip_begins2 (begins_tuple a its.toArray) (begins_list b its2.toArray) p1 p2.isList fun h' hz hT hO g1 g2 hsz hk => wpAny_pyIter_zip hz ?_
  have I2 : Inv X pins σ H1 { s1 with heap := h' } := I1.kept (t' := s1.toks) hk
  refine ⟨_, [s1.heap.objs.size + 4, s1.heap.objs.size + 2, s1.heap.objs.size + 3, s1.heap.objs.size, s1.heap.objs.size + 1], _, _, H1, rfl, I2, turnN S, ⟨hz, hT, ⟨_, _, hO⟩, ⟨_, g1, rfl, rfl⟩, ⟨_, g2, rfl, rfl⟩⟩, fun c hc => ?_, q⟩
  have le : s1.heap.objs.size ≤ c := by
    rcases in5 hc with z | z | z | z | z <;> rw [z] <;> first | exact Nat.le_refl _ | exact Nat.le_add_right _ _
  exact I1.fpOk le (I1.hok.fresh le)
theorem walk_zipN {K : PySem.W.Frag} {a b : Addr} {xs ys : List V} (e : xs.length = ys.length) : Walk (ItzN K a b) xs.length (fun H => SqT K H a xs ∧ SqL K H b ys) (YPair (fun i => xs[i]?) (fun i => ys[i]?)) := by
  refine ⟨fun i _ hi q => ?_, fun _ q => ⟨xs, ys, q.1, q.2, Nat.le_refl _, Nat.le_of_eq e, .inl rfl⟩, fun i H v H' _ q y => ?_⟩
  · have h2 : i < ys.length := by omega
    exact ⟨xs, ys, xs[i], ys[i], q.1, q.2, by simp [hi], by simp [h2]⟩
  · obtain ⟨T, x, z, h1, h2, h3, h4, h5⟩ := y
    exact ⟨T, x, z, h1, h2, h3, h4 xs q.1, h5 ys q.2⟩
theorem kpi_zipN {X : Cx} (K : PySem.W.Frag) {e1 e2 : Expr} {ta : TA} {p pos tpos : Pos} {elts : List Expr} {kk : Nat} (hg : Gl X "zip") (hm : X.mg "zip" = none) (ha : PA X [e1, e2] ta)
    (hs : starEach [e1, e2] X.env = (false, eval e1 X.env) :: starEach [e2] X.env := by rfl) (hpl : (backTo pos (starEach [e2] X.env)).any (·.1) = false := by rfl) (e : X.K = K := by rfl) :
    PI X (.Tuple elts kk tpos) (.Call (.Name "zip" p) [e1, e2] [] pos) (iZipN K ta) := by subst e; exact pi_zipN hg hm ha hs hpl
end Ly

set_option Elab.async false
set_option linter.all false
set_option maxRecDepth 100000
/-! dicts whose keys are tuples of tuples; `<` of data; sorted of such a dict -/
namespace Ly
open PySem PySem.Spec PyProof.Rows L2
/-! ### keys as data -/
mutual
def kD : NestedKey → PyData
  | .none => .none
  | .num i => .int i
  | .text x => .str x
  | .tup ks => .tuple (kDs ks)
def kDs : List NestedKey → List PyData
  | [] => []
  | k :: ks => kD k :: kDs ks
end
section
variable {X : Cx} {pins : List (Addr × Obj)} {σ : L2.St} {H : Hp} {s : Shared}
mutual
theorem nest_is (I : Inv X pins σ H s) : ∀ (k : NestedKey) {v : V} {u : Value}, Im X.K H v (kD k) → RelV v u → NestedIs s.heap k u
  | .none, _, _, h, r => by
    unfold kD at h
    cases h; cases r; exact .none
  | .num i, _, _, h, r => by
    unfold kD at h
    cases h; obtain ⟨t, rfl⟩ := r; exact .int _ _
  | .text x, _, _, h, r => by
    unfold kD at h
    cases h; obtain ⟨t, rfl⟩ := r; exact .text _ _
  | .tup ks, _, _, h, r => by
    unfold kD at h
    cases h with
    | tup e a =>
      cases r
      obtain ⟨its, rv, ⟨o, ho, hc, n, hd⟩, _⟩ := I.tuple e.sq
      exact .tup ho hc hd (nest_all I ks a rv)
theorem nest_all (I : Inv X pins σ H s) : ∀ (ks : List NestedKey) {vs : List V} {us : List Value}, ImAll X.K H vs (kDs ks) → Vals vs us → NestedAll s.heap ks us
  | [], _, _, h, r => by
    unfold kDs at h
    cases h; cases r; exact .nil
  | k :: ks, _, _, h, r => by
    unfold kDs at h
    cases h with
    | cons a b =>
      cases r with
      | cons ra rb => exact .cons (nest_is I k a ra) (nest_all I ks b rb)
end
end
/-- what the dict at a holds: keys, their tuples' places, the values' places -/
abbrev NK := NestedKey × Addr × Addr
def rawN (x : NK) : NestedKey × Addr × Value := (x.1, x.2.1, .ref x.2.2)
def dN (P : Program) (w : World) (a : Addr) (xs : List NK) : HO := .ext fun h => xs.length ≤ sizeLine ∧ (a == sysModules) = false ∧
  ∃ o es ep, h.get? a = some o ∧ o.ExactDict ∧ o.data = .dict es ep ∧ es.toList = (xs.map rawN).map (entryOfKey (nestedKind P w)) ∧ (xs.map (·.1)).Nodup
/-- the keys stand -/
def KeysIm (K : PySem.W.Frag) (H : Hp) (xs : List NK) : Prop := ∀ x ∈ xs, Im K H (.ref x.2.1) (kD x.1) ∧ x.1.depth ≤ 8
theorem KeysIm.mono {K : PySem.W.Frag} {H H' : Hp} {xs : List NK} (h : KeysIm K H xs) (t : TK H H') : KeysIm K H' xs := fun x hx => ⟨Im.mono t _ (h x hx).1, (h x hx).2⟩
def valN (xs : List NK) (k : NestedKey) : Option Addr := (xs.find? fun x => decide (x.1 = k)).map (·.2.2)
def putN (xs : List NK) (k : NestedKey) (b v : Addr) : List NK := if (valN xs k).isSome then xs.map (fun x => if x.1 = k then (x.1, x.2.1, v) else x) else xs ++ [(k, b, v)]
theorem atKey_raw (k : NestedKey) : ∀ xs : List NK, (atKey (xs.map rawN) k).map (·.2) = (valN xs k).map Value.ref
  | [] => rfl
  | x :: xs => by
    have ih := atKey_raw k xs
    unfold atKey valN at *
    rw [List.map_cons, List.find?_cons, List.find?_cons]
    by_cases h : x.1 = k
    · have h2 : (rawN x).1 = k := h
      rw [decide_eq_true h, decide_eq_true h2]; rfl
    · have h2 : ¬ (rawN x).1 = k := h
      rw [decide_eq_false h, decide_eq_false h2]; exact ih
theorem isSome_raw (xs : List NK) (k : NestedKey) : (atKey (xs.map rawN) k).isSome = (valN xs k).isSome := by
  have := atKey_raw k xs
  cases h1 : atKey (xs.map rawN) k <;> cases h2 : valN xs k <;> rw [h1, h2] at this <;> simp at this ⊢
theorem put_raw (xs : List NK) (k : NestedKey) (b v : Addr) : (putN xs k b v).map rawN = storedH (xs.map rawN) k b (.ref v) := by
  unfold putN storedH
  rw [isSome_raw]
  by_cases h : (valN xs k).isSome = true
  · rw [if_pos h, if_pos h, List.map_map, List.map_map]
    refine List.map_congr_left fun x _ => ?_
    show rawN (if x.1 = k then (x.1, x.2.1, v) else x) = putAt k (.ref v) (rawN x)
    unfold putAt
    by_cases e : x.1 = k
    · rw [if_pos e, if_pos (show (rawN x).1 = k from e)]; rfl
    · rw [if_neg e, if_neg (show ¬ (rawN x).1 = k from e)]
  · rw [if_neg h, if_neg h, List.map_append]; rfl
theorem putN_length (xs : List NK) (k : NestedKey) (b v : Addr) : (putN xs k b v).length ≤ xs.length + 1 := by
  unfold putN
  split
  · rw [List.length_map]; omega
  · rw [List.length_append]; exact Nat.le_refl _
theorem putN_keys {K : PySem.W.Frag} {H : Hp} {xs : List NK} {k : NestedKey} {b v : Addr} (h : KeysIm K H xs) (hb : Im K H (.ref b) (kD k)) (d : k.depth ≤ 8) : KeysIm K H (putN xs k b v) := by
  intro x hx
  unfold putN at hx
  split at hx
  · obtain ⟨y, hy, rfl⟩ := List.mem_map.mp hx
    split
    · exact h y hy
    · exact h y hy
  · rcases List.mem_append.mp hx with hx | hx
    · exact h x hx
    · rw [List.mem_singleton.mp hx]; exact ⟨hb, d⟩
section
variable {X : Cx} {pins : List (Addr × Obj)} {σ : L2.St} {H : Hp} {s : Shared} {a : Addr} {xs : List NK} {A : Around} {E : Value → Shared → Prop}
theorem dN_of (I : Inv X pins σ H s) (e : H a = some (dN X.prog X.w a xs)) (ks : KeysIm X.K H xs) : xs.length ≤ sizeLine ∧ (a == sysModules) = false ∧ s.heap.DictOfH (nestedKind X.prog X.w) a (xs.map rawN) := by
  obtain ⟨⟨z, hd, o, es, ep, h1, h2, h3, h4, h5⟩, _, _⟩ := (show ObjOk X.prog X.w H s.heap a (dN X.prog X.w a xs) from I.hok a _ e)
  refine ⟨z, hd, o, es, ep, h1, h2, h3, h4, fun y hy => ?_, by rw [List.map_map]; exact h5⟩
  obtain ⟨x, hx, rfl⟩ := List.mem_map.mp hy
  obtain ⟨k1, k2⟩ := ks x hx
  exact ⟨nest_is I x.1 k1 rfl, k2⟩
theorem dN_ok {P : Program} {w : World} {H' : Hp} {h' : Heap} {ys : List NK} (z : ys.length ≤ sizeLine) (hd : (a == sysModules) = false) (d : h'.DictOfH (nestedKind P w) a (ys.map rawN)) : ObjOk P w H' h' a (dN P w a ys) := by
  obtain ⟨o, es, ep, h1, h2, h3, h4, h5, h6⟩ := d
  rw [List.map_map] at h6
  refine ⟨⟨z, hd, o, es, ep, h1, h2, h3, h4, h6⟩, ⟨o, h1⟩, fun g1 g2 q k => ?_⟩
  obtain ⟨z, hd, o, es, ep, h1, h2, h3, h4, h6⟩ := q
  exact ⟨z, hd, o, es, ep, k o h1, h2, h3, h4, h6⟩
end
/-! ### the rules -/
/-- {} for such keys -/
def tDNewN (P : Program) (w : World) : TE := fun _ H Q => ∀ p, H p = none → Q (.ref p) (upd H p (dN P w p []))
def rGetN (P : Program) (w : World) (K : PySem.W.Frag) (H : Hp) (a : Addr) (y : V) (xs : List NK) (k : NestedKey) (b : Addr) : Prop := H a = some (dN P w a xs) ∧ KeysIm K H xs ∧ y = .ref b ∧ Im K H (.ref b) (kD k) ∧ k.depth ≤ 8
/-- d[y] -/
def tNGet (X : Cx) (td ty : TE) : TE := fun σ H Q => td σ H fun x H1 => ty σ H1 fun y H2 => ∃ a xs k b v, x = .ref a ∧ rGetN X.prog X.w X.K H2 a y xs k b ∧ valN xs k = some v ∧ Q (.ref v) H2
/-- d.get(y, z) -/
def tNGet2 (X : Cx) (td ty tx : TE) : TE := fun σ H Q => td σ H fun x H1 => ∃ a xs, x = .ref a ∧ H1 a = some (dN X.prog X.w a xs) ∧ KeysIm X.K H1 xs ∧ ty σ H1 fun y H2 => tx σ H2 fun z H3 => ∃ k b, rGetN X.prog X.w X.K H3 a y xs k b ∧ Q (((valN xs k).map V.ref).getD z) H3
/-- d[y] = v -/
def sNPut (X : Cx) (td ty tv : TE) : TS := fun D σ H => tv σ H fun v H1 => td σ H1 fun x H2 => ty σ H2 fun y H3 => ∃ a xs k b c, x = .ref a ∧ v = .ref c ∧ rGetN X.prog X.w X.K H3 a y xs k b ∧ xs.length < sizeLine ∧ D.nx σ (upd H3 a (dN X.prog X.w a (putN xs k b c)))
section
variable {X : Cx} {o i e f value : Expr} {pos pos' tpos apos cpos : Pos} {td ty tv tx : TE}
theorem pe_dnewN : PE X (.Dict [] [] pos) (tDNewN X.prog X.w) := ⟨fun pins s σ H Q I h =>
  wpAny_Dict_empty ⟨.ref s.heap.objs.size, _, I.laid (a := s.heap.objs.size) (o := dN X.prog X.w s.heap.objs.size []) (t' := s.toks) (fun _ _ q => Heap.get?_push_of_some _ q) (Nat.le_refl _)
    (dN_ok (Nat.zero_le _) (beq_eq_false_iff_ne.mpr (Ne.symm (Nat.ne_of_lt I.big))) (Heap.DictOfH.new s.heap)), rfl, h _ (I.hok.fresh (Nat.le_refl _))⟩⟩
theorem pe_nget (hu : X.A.units + 10 < cLine) (ho : PE X o td) (hi : PE X i ty) (hs : NoSl i) : PE X (.Subscript o i pos) (tNGet X td ty) := by
  refine ⟨fun pins s σ H Q I h => ?_⟩
  refine subD_of PySem.F.slot_dict_getitem.lookup hs (thn (ho.run pins s σ H _ I h) fun u s1 ⟨x, H1, I1, rx, q1⟩ => thn (hi.run pins s1 σ H1 _ I1 q1) fun iv s2 ⟨y, H2, I2, ry, a, xs, k, b, v, ex, g, hv, q2⟩ => ?_)
  subst ex
  obtain rfl : u = Value.ref a := rx
  obtain ⟨e, ks, rfl, ib, dk⟩ := g
  obtain rfl : iv = Value.ref b := ry
  obtain ⟨z, hd, dd⟩ := dN_of I2 e ks
  refine ⟨dd.typeIs, ?_⟩
  have hw := atKey_raw k xs
  rw [hv] at hw
  obtain ⟨p, hp, hp2⟩ := Option.map_eq_some_iff.mp hw
  refine wpAny_getItem_heap (k := k) (by show X.A.in1.units + 8 < cLine; show X.A.units + 1 + 8 < cLine; omega) (show (nestedKind X.prog X.w).is s2.heap k b from ⟨nest_is I2 k ib rfl, dk⟩) dd hp ?_
  rw [hp2]
  exact ⟨.ref v, H2, I2.tok _, rfl, q2⟩
theorem pe_nget2 (hu : X.A.units + 10 < cLine) (ho : PE X o td) (he : PE X e ty) (hf : PE X f tx) (m : M2 X o "get" apos e f cpos) : PE X (.Call (.Attribute o "get" apos) [e, f] [] cpos) (tNGet2 X td ty tx) := by
  refine ⟨fun pins s σ H Q I h => ?_⟩
  refine wpAny_Call_method m.base m.few m.line PySem.F.plainAttrs_dict PySem.F.slot_dict_get PySem.F.type_dict_get (thn (ho.run pins s σ H _ I h) fun u s1 ⟨x, H1, I1, rx, a, xs, ex, e1, k1, q1⟩ => ?_)
  subst ex
  obtain rfl : u = Value.ref a := rx
  obtain ⟨z, hd, dd1⟩ := dN_of I1 e1 k1
  refine ⟨dd1.typeIs, fun b q => ?_, ?_⟩
  · cases q
    obtain ⟨ob, _, _, h1, h2, _⟩ := dd1
    exact ⟨ob, h1, h2.2.1⟩
  · rw [m.trees]
    refine Calls.callWith_builtin rfl (Calls.evalArgs_plain (Calls.spliced_cons (thn (he.run pins s1 σ H1 _ I1 q1) fun iv s2 ⟨y, H2, I2, ry, q2⟩ =>
      Calls.spliced_cons (thn (hf.run pins s2 σ H2 _ I2 q2) fun fv s3 ⟨z, H3, I3, rz, k, b, g, q3⟩ => Calls.spliced_nil ?_))))
    obtain ⟨e3, ks, rfl, ib, dk⟩ := g
    obtain rfl : iv = Value.ref b := ry
    obtain ⟨_, hd, dd⟩ := dN_of I3 e3 ks
    refine call_meetsIn PySem.F.slot_dict_get dd.typeIs PySem.F.entry_dict_get (PySem.F.args_dict_get_3 _ _ _) (meetsH_dict_get_default (nestedKind X.prog X.w) a b hd fv) ⟨by show X.A.units + 1 + 8 < cLine; omega, k, _, ⟨nest_is I3 k ib rfl, dk⟩, dd, _, H3, I3.tok _, ?_, q3⟩
    rw [atKey_raw]
    cases valN xs k with
    | none => exact rz
    | some v => exact rfl
theorem ps_nput (hu : X.A.units + 10 < cLine) (ho : PE X o td) (hi : PE X i ty) (hv : PE X value tv) (hs : swapsWith value (some (.Subscript o i pos')) pos.line X.env = pure false) :
    PS X (.Assign [.Subscript o i pos'] value pos) (sNPut X td ty tv) := by
  refine ⟨fun pins s σ H D I h => ?_⟩
  refine wpAny_Assign_Subscript (thn (hv.run pins s σ H _ I h) fun r s1 ⟨v, H1, I1, rv, q1⟩ => thn (ho.run pins s1 σ H1 _ I1 q1) fun u s2 ⟨x, H2, I2, rx, q2⟩ => thn (hi.run pins s2 σ H2 _ I2 q2) fun iv s3 ⟨y, H3, I3, ry, a, xs, k, b, c, ex, ev, g, hl, q3⟩ => ?_) hs
  subst ex ev
  obtain rfl : u = Value.ref a := rx
  obtain rfl : r = Value.ref c := rv
  obtain ⟨e, ks, rfl, ib, dk⟩ := g
  obtain rfl : iv = Value.ref b := ry
  obtain ⟨z, hd, dd⟩ := dN_of I3 e ks
  refine wpAny_setItem_heap (hsz := by rw [List.length_map]; exact z) (k := k) (by show X.A.units + 1 + 8 < cLine; omega) (show (nestedKind X.prog X.w).is s3.heap k b from ⟨nest_is I3 k ib rfl, dk⟩) dd fun h' dd' hs' => ⟨σ, _, ?_, q3⟩
  rw [← put_raw] at dd'
  have he : ∃ q, h'.get? a = some q := let ⟨q, _, _, hq, _⟩ := dd'; ⟨q, hq⟩
  exact d_write I3 (by rw [e]; exact True.intro) hs' he (dN_ok (by have := putN_length xs k b c; omega) hd dd')
end
/-! ### < of data -/
def rLtD (K : PySem.W.Frag) : R2 := fun x y H Q => ∃ d e, Dp K H x d ∧ Dp K H y e ∧ PySem.W.alike d e = true ∧ d ≠ .none ∧ d.depth ≤ 64 ∧ Q (.bl (PySem.W.dataLt d e)) H
theorem op_ltD {X : Cx} (K : PySem.W.Frag) (hu : X.A.units + 64 < cLine) (eK : X.K = K := by rfl) : OpR X (compareOp .Lt) (rLtD K) := by
  subst eK
  intro pins s σ H x y v u Q I rx ry h
  obtain ⟨d, e, hd, he, al, nn, dp, q⟩ := h
  obtain ⟨as, ra⟩ := Dp.reads I d x v hd rx
  obtain ⟨bs, rb⟩ := Dp.reads I e y u he ry
  exact PySem.W.lt_data ra rb al nn (by omega) ⟨.bl _, H, I, rfl, q⟩
/-! ### sorted of such a dict -/
section
variable {X : Cx} {pins : List (Addr × Obj)} {σ : L2.St} {H : Hp} {s : Shared}
mutual
theorem nest_reads (I : Inv X pins σ H s) : ∀ (k : NestedKey) {v : V} {u : Value}, Im X.K H v (kD k) → RelV v u → Reads s.heap u (kD k) []
  | .none, _, _, h, r => by
    unfold kD at h ⊢
    cases h; cases r; exact .none
  | .num i, _, _, h, r => by
    unfold kD at h ⊢
    cases h; obtain ⟨t, rfl⟩ := r; exact .int _ _
  | .text x, _, _, h, r => by
    unfold kD at h ⊢
    cases h; obtain ⟨t, rfl⟩ := r; exact .str _ _
  | .tup ks, _, _, h, r => by
    unfold kD at h ⊢
    cases h with
    | tup e a =>
      cases r
      obtain ⟨its, rv, ⟨o, ho, hc, n, hd⟩, _⟩ := I.tuple e.sq
      exact .tuple ho hc hd (nest_readsAll I ks a rv)
theorem nest_readsAll (I : Inv X pins σ H s) : ∀ (ks : List NestedKey) {vs : List V} {us : List Value}, ImAll X.K H vs (kDs ks) → Vals vs us → ReadsAll s.heap us (kDs ks) []
  | [], _, _, h, r => by
    unfold kDs at h ⊢
    cases h; cases r; exact .nil
  | k :: ks, _, _, h, r => by
    unfold kDs at h ⊢
    cases h with
    | cons a b =>
      cases r with
      | cons ra rb => exact .cons (as := []) (bs := []) (nest_reads I k a ra) (nest_readsAll I ks b rb)
end
end
theorem each_of {α β : Type} {R : α → β → Prop} : ∀ {as : List α} {bs : List β}, as.length = bs.length → (∀ (i : Nat) (a : α) (b : β), as[i]? = some a → bs[i]? = some b → R a b) → PySem.W.EachIs R as bs
  | [], [], _, _ => .nil
  | a :: as, b :: bs, l, h => .cons (h 0 a b rfl rfl) (each_of (by simpa using l) fun i x y e1 e2 => h (i + 1) x y (by simpa using e1) (by simpa using e2))
  | [], _ :: _, l, _ => by simp at l
  | _ :: _, [], l, _ => by simp at l
theorem each_vals : ∀ {us : List Value} {bs : List NK}, PySem.W.EachIs (fun (v : Value) (b : NK) => v = .ref b.2.1) us bs → Vals (bs.map fun x => V.ref x.2.1) us
  | _, _, .nil => .nil
  | _, _, .cons h r => .cons (by subst h; exact rfl) (each_vals r)
def rSortN (X : Cx) : List V → Hp → VK → Prop := fun vs H Q => ∃ a xs, vs = [.ref a] ∧ H a = some (dN X.prog X.w a xs) ∧ KeysIm X.K H xs ∧ PySem.W.AllAlike (xs.map fun x => kD x.1) ∧ PySem.W.Sortable (xs.map fun x => kD x.1) ∧ (∀ x ∈ xs, (kD x.1).depth ≤ 8) ∧
  ∀ p, H p = none → Q (.ref p) (upd H p (.lst ((xs.mergeSort (PySem.W.dataLe false fun x => kD x.1)).map fun x => V.ref x.2.1)))
theorem call_sortedN {X : Cx} (hcalm : X.calm = true) (hu : X.A.units + 20 < cLine) : CallR X (.builtin "sorted") (rSortN X) := by
  intro pins s σ H vs us Q I r q
  obtain ⟨a, xs, ex, e, ks, al, so, dp, q⟩ := q
  subst ex
  obtain ⟨u, eu, rx⟩ := vals1 r
  subst eu
  cases rx
  obtain ⟨z, lo, dd⟩ := dN_of I e ks
  obtain ⟨es, ep, hr, hsz, he⟩ := dd.raw
  rw [List.length_map] at hsz
  refine Calls.call_function_entry PyProof.Rows.kind_sorted PyProof.Rows.plain_sorted PyProof.Rows.entry_sorted (PyProof.Rows.args_sorted1 _) ?_
  unfold Builtin.«sorted»
  refine wpAny_bind (m := checkCount "sorted" 1 1 _) (wpAny_pure ?_)
  refine wpAny_bind (PySem.W.kdu_collect (A := X.A.in1) (PySem.KdlSrc.rawDict (es := es) (ep := ep) lo) (I.ok.hd hcalm) hr (by rw [hsz]; exact z) fun h' tk acc hk hacc => ?_)
  have hal : acc.toList.length = xs.length := by rw [Array.length_toList, hacc.1, hsz]
  have I1 : Inv X pins σ H { s with heap := h', toks := tk } := I.kept hk
  have E1 : PySem.W.EachIs (fun (v : Value) (b : NK) => v = .ref b.2.1 ∧ b ∈ xs) acc.toList xs := each_of hal fun i v b h1 h2 => by
    rw [Array.getElem?_toList] at h1
    obtain ⟨hi, e1⟩ := hacc.2 i v h1
    obtain ⟨y, hy, h3, _⟩ := he i hi
    rw [List.getElem?_map, h2] at hy
    have : rawN b = y := Option.some.inj hy
    subst this
    exact ⟨e1.trans h3, List.mem_of_getElem? h2⟩
  refine wpAny_bind (wpAny_newList ?_ (by rw [hal]; exact z))
  have hoL : (h'.push (seqObj "list" acc.toList.toArray 0)).get? h'.objs.size = some (seqObj "list" acc.toList.toArray 0) := Heap.get?_push_size _ rfl
  show wpAny _ _ _ _ _ { s with heap := h'.push (seqObj "list" acc.toList.toArray 0), toks := tk }
  have E2 : PySem.W.EachIs (fun (v : Value) (b : NK) => ∃ as, Reads (h'.push (seqObj "list" acc.toList.toArray 0)) v (kD b.1) as ∧ h'.objs.size ∉ as) acc.toList xs := E1.mono fun v b h => by
    obtain ⟨rfl, hb⟩ := h
    exact ⟨[], PyProof.Rows.Reads.keeps (fun c o k => Heap.get?_push_of_some _ k) (nest_reads I1 b.1 (ks b hb).1 rfl), by simp⟩
  refine wpAny_bind (wpAny_holding (PySem.W.list_sort_data (R := fun (v : Value) (b : NK) => v = .ref b.2.1) (enc := fun b => kD b.1) hoL (E1.mono fun _ _ h => h.1) E2 al so z (fun b hb => by have := dp b hb; show X.A.units + 1 + 1 + _ < _; omega) fun out ho eo => ?_))
  obtain ⟨e', he'⟩ := PyProof.Rows.sortedHeap_at (vs := acc.toList) (out := out.toArray) hoL
  have hlen : ((xs.mergeSort (PySem.W.dataLe false fun x => kD x.1)).map fun x => V.ref x.2.1).length ≤ sizeLine := by
    rw [List.length_map, List.length_mergeSort]; exact z
  refine wpAny_pure ⟨_, rfl, .ref h'.objs.size, upd H h'.objs.size (.lst ((xs.mergeSort (PySem.W.dataLe false fun x => kD x.1)).map fun x => V.ref x.2.1)), I1.laid (t' := tk) (fun b u e => ?_) (Nat.le_refl _)
    (show ObjOk X.prog X.w _ _ _ (.lst _) from ⟨hlen, out, e', each_vals eo, he'⟩), rfl, q _ (I1.hok.fresh (Nat.le_refl _))⟩
  have hb : b < h'.objs.size := Heap.lt_size e
  rw [PyProof.Rows.sortedHeap_old (Nat.ne_of_lt hb) (by rw [size_push']; exact Nat.lt_succ_of_lt hb)]
  exact Heap.get?_push_of_some _ e
end Ly

set_option Elab.async false
set_option linter.all false
set_option maxRecDepth 100000
set_option exponentiation.threshold 20000
set_option pp.deepTerms false
set_option pp.deepTerms.threshold 8
namespace K63
open PySem PySem.Spec PyProof.Rows L2 Ly Mt
def topS (i : Nat) : Stmt := PySem.Challenge.pw_sameontrees_k16_numbers_that_reads_tell.main.body.getD i (.Pass ⟨0, 0, 0, 0⟩)
def lows : Str := "abcdefghijklmnopqrstuvwxyz"
def highs : Str := "ABCDEFGHIJKLMNOPQRSTUVWXYZ"
def digs : Str := "0123456789"
/-- what the module's names hold -/
structure Tx (K : PySem.W.Frag) (mg : Str → Option Value) : Prop where
  m_isinstance : mg "isinstance" = none
  m_len : mg "len" = none
  m_int : mg "int" = none
  m_bool : mg "bool" = none
  m_tuple : mg "tuple" = none
  m_str : mg "str" = none
  m_list : mg "list" = none
  m_abs : mg "abs" = none
  m_all : mg "all" = none
  m_zip : mg "zip" = none
  m_range : mg "range" = none
  m_enumerate : mg "enumerate" = none
  m_sum : mg "sum" = none
  m_set : mg "set" = none
  m_sorted : mg "sorted" = none
  m_min : mg "min" = none
  m_max : mg "max" = none
  g_gcd : mg "gcd" = some (.builtin "math.gcd")
  g_LONGEST : ∃ u, mg "LONGEST" = some u ∧ L2.RelV (.int 10) u
  g_NUMBER : ∃ u, mg "NUMBER" = some u ∧ L2.RelV (.int (-1)) u
  g_MOST_ROWS : ∃ u, mg "MOST_ROWS" = some u ∧ L2.RelV (.int 96) u
  g_MOST_DIM : ∃ u, mg "MOST_DIM" = some u ∧ L2.RelV (.int 16) u
  g_MOST_DIMS : ∃ u, mg "MOST_DIMS" = some u ∧ L2.RelV (.int 32) u
  g_MOST_TERMS : ∃ u, mg "MOST_TERMS" = some u ∧ L2.RelV (.int 4000) u
  g_MOST_READS : ∃ u, mg "MOST_READS" = some u ∧ L2.RelV (.int 60) u
  g_LOW : ∃ u, mg "LOW" = some u ∧ L2.RelV (.str lows) u
  g_HIGH : ∃ u, mg "HIGH" = some u ∧ L2.RelV (.str highs) u
  g_DIGITS : ∃ u, mg "DIGITS" = some u ∧ L2.RelV (.str digs) u
  zero : ∃ a, mg "ZERO" = some (.ref a) ∧ ∀ H, ITup K H a [.int 0, .int 1]
  one : ∃ a, mg "ONE" = some (.ref a) ∧ ∀ H, ITup K H a [.int 1, .int 1]
  kws : ∃ a, mg "KEYWORDS" = some (.ref a) ∧ ∀ H, ITup K H a [.str "fun", .str "kind", .str "number"]
theorem hu10 {A : Around} {k : Nat} (hr : Room k A) : A.units + 10 < cLine := by have := hr.units; omega
def jInt : PyData → Bool
  | .int _ => true
  | _ => false
theorem jInt_as : ∀ d, jInt d = (jIntB d && !jBool d)
  | .none => rfl
  | .bool _ => rfl
  | .int _ => rfl
  | .str _ => rfl
  | .tuple _ => rfl
  | .list _ => rfl
  | .dict _ => rfl
def jPair : PyData → Bool
  | .tuple ds => decide (ds.length = 2)
  | _ => false
def jRatio : PyData → Bool
  | .tuple [.int t, .int b] => decide (1 ≤ b) && decide (Nat.gcd t.natAbs b.natAbs = 1)
  | _ => false
section
variable {P : Program} {w : World} {K : PySem.W.Frag} {mg : Str → Option Value} {base : Heap}

abbrev s_is_int : Stmt := topS 12
theorem sc_is_int : FnScope ["thing"] ["thing"] (defScope s_is_int) := ⟨rfl, rfl, rfl, by decide +kernel, rfl, by decide +kernel, by decide +kernel⟩
def sp_is_int (K : PySem.W.Frag) : Sp := fun vs H Q _ => ∃ v d, vs = [v] ∧ Dp K H v d ∧ Q (.bl (jInt d)) H
theorem ok_is_int {f : Addr} {fd : FuncData} {k : Nat} (F : Fun K "is_int" "is_int" s_is_int f fd) (T : Tx K mg) : FnOk P w K mg base CX0 (k + 1) f fd ["thing"] (sp_is_int K) := by
  have nd := sc_is_int.nd
  refine F.ok sc_is_int (fun vs H Q E h => ?_) (fun cdv A outer s H vs Q E hr h => ?_)
  · obtain ⟨_, _, rfl, _⟩ := h
    rfl
  · obtain ⟨v, d, rfl, hd, q⟩ := h
    refine ⟨_, (pss_one (ps_ret (pe_and (pe_callB (kcall_isi K) (by rfl) T.m_isinstance (by decide +kernel) (pa_cons (pv 0) (pa_cons (pe_bltn (v := .ty "int") (u := .type "int") (by rfl) T.m_int (by decide +kernel) rfl) pa_nil))) (pe_one (pe_not (pe_callB (kcall_isi K) (by rfl) T.m_isinstance (by decide +kernel) (pa_cons (pv 0) (pa_cons (pe_bltn (v := .ty "bool") (u := .type "bool") (by rfl) T.m_bool (by decide +kernel) rfl) pa_nil)))))))), ?_⟩
    refine ⟨v, rfl, v, _, .type (tyName d), _, jIntB d, rfl, .ty _, dp_ty hd, kit_ty (kit_int d), jIntB d, rfl, ?_⟩
    rw [jInt_as] at q
    cases h1 : jIntB d with
    | false => rw [h1] at q; exact iteF q
    | true =>
      rw [h1] at q
      exact iteT ⟨v, rfl, v, _, .type (tyName d), _, jBool d, rfl, .ty _, dp_ty hd, kit_ty (kit_bool d), jBool d, rfl, q⟩

abbrev s_is_pair : Stmt := topS 14
theorem sc_is_pair : FnScope ["thing"] ["thing"] (defScope s_is_pair) := ⟨rfl, rfl, rfl, by decide +kernel, rfl, by decide +kernel, by decide +kernel⟩
def sp_is_pair (K : PySem.W.Frag) : Sp := fun vs H Q _ => ∃ v d, vs = [v] ∧ Dp K H v d ∧ Q (.bl (jPair d)) H
theorem ok_is_pair {f : Addr} {fd : FuncData} {k : Nat} (F : Fun K "is_pair" "is_pair" s_is_pair f fd) (T : Tx K mg) : FnOk P w K mg base CX0 (k + 1) f fd ["thing"] (sp_is_pair K) := by
  have nd := sc_is_pair.nd
  refine F.ok sc_is_pair (fun vs H Q E h => ?_) (fun cdv A outer s H vs Q E hr h => ?_)
  · obtain ⟨_, _, rfl, _⟩ := h
    rfl
  · obtain ⟨v, d, rfl, hd, q⟩ := h
    refine ⟨_, (pss_one (ps_ret (pe_and (pe_callB (kcall_isi K) (by rfl) T.m_isinstance (by decide +kernel) (pa_cons (pv 0) (pa_cons (pe_bltn (v := .ty "tuple") (u := .type "tuple") (by rfl) T.m_tuple (by decide +kernel) rfl) pa_nil))) (pe_one (pe_cmpR op_eq (pe_callB (kcall_len K) (by rfl) T.m_len PySem.boot_len (pa_cons (pv 0) pa_nil)) pe_int (nomark _)))))), ?_⟩
    refine ⟨v, rfl, v, _, .type (tyName d), _, jTup d, rfl, .ty _, dp_ty hd, kit_ty (kit_tup d), jTup d, rfl, ?_⟩
    cases hd with
    | @tup a xs ds ha hx =>
      have l := dpAll_len hx
      refine iteT ⟨.ref a, rfl, a, xs, rfl, .inr ha, rfl, ?_⟩
      have e : decide (V.int (xs.length : Nat) = V.int 2) = jPair (.tuple ds) := by
        show _ = decide (ds.length = 2)
        by_cases h : ds.length = 2
        · rw [decide_eq_true h, decide_eq_true (by rw [l, h]; rfl)]
        · rw [decide_eq_false h, decide_eq_false (fun z => h (by have := V.int.inj z; omega))]
      rw [e]
      exact q
    | non => exact iteF q
    | bl b => exact iteF q
    | int i => exact iteF q
    | str x => exact iteF q
    | lst _ _ => exact iteF q

abbrev s_is_ratio : Stmt := topS 23
theorem sc_is_ratio : FnScope ["thing"] ["thing"] (defScope s_is_ratio) := ⟨rfl, rfl, rfl, by decide +kernel, rfl, by decide +kernel, by decide +kernel⟩
def sp_is_ratio (K : PySem.W.Frag) : Sp := fun vs H Q _ => ∃ v d, vs = [v] ∧ Dp K H v d ∧ Q (.bl (jRatio d)) H
theorem ok_is_ratio {f : Addr} {fd : FuncData} {k : Nat} (F : Fun K "is_ratio" "is_ratio" s_is_ratio f fd) (T : Tx K mg){ki : Nat} (D_is_pair : Def P w K mg base ki "is_pair" s_is_pair ["thing"] (sp_is_pair K)) (D_is_int : Def P w K mg base ki "is_int" s_is_int ["thing"] (sp_is_int K)) (hk : ki ≤ k) : FnOk P w K mg base CX0 (k + 1) f fd ["thing"] (sp_is_ratio K) := by
  have nd := sc_is_ratio.nd
  refine F.ok sc_is_ratio (fun vs H Q E h => ?_) (fun cdv A outer s H vs Q E hr h => ?_)
  · obtain ⟨_, _, rfl, _⟩ := h
    rfl
  · obtain ⟨v, d, rfl, hd, q⟩ := h
    refine ⟨_, (pss_cons (ps_if (PW.pt (pw_or (pt_not (pt_val (pe_def D_is_pair (hr.mono (by omega)) rfl (pa_cons (pv 0) pa_nil)))) (pw_or (pt_not (pt_val (pe_def D_is_int (hr.mono (by omega)) rfl (pa_cons (pe_ix (kix_tup K) (pv 0) pe_int (fun _ _ => rfl)) pa_nil)))) (pw_or (pt_not (pt_val (pe_def D_is_int (hr.mono (by omega)) rfl (pa_cons (pe_ix (kix_tup K) (pv 0) pe_int (fun _ _ => rfl)) pa_nil)))) (pw_or1 (pt_cmpR op_lt (pe_ix (kix_tup K) (pv 0) pe_int (fun _ _ => rfl)) pe_int (nomark _)))))))
        (pss_one (ps_ret pe_bl))
        pss_nil)
      (pss_one (ps_ret (pe_cmpR op_eq (pe_callBfun cr_gcd (by rfl) T.g_gcd (pa_cons (pe_ix (kix_tup K) (pv 0) pe_int (fun _ _ => rfl)) (pa_cons (pe_ix (kix_tup K) (pv 0) pe_int (fun _ _ => rfl)) pa_nil))) pe_int (nomark _))))), ?_⟩
    refine ⟨v, rfl, v, d, rfl, hd, jPair d, rfl, ?_⟩
    cases hp : jPair d with
    | false =>
      have e : jRatio d = false := by
        cases d with
        | tuple ds =>
          have h2 : ¬ ds.length = 2 := of_decide_eq_false hp
          match ds, h2 with
          | [], _ => rfl
          | [x], _ => cases x <;> rfl
          | [_, _], h => exact absurd rfl h
          | x :: y :: _ :: _, _ => cases x <;> first | rfl | (cases y <;> rfl)
        | _ => rfl
      rw [e] at q
      exact iteT q
    | true =>
      refine iteF ?_
      cases hd with
      | @tup a xs ds ha hx =>
        have h2 : ds.length = 2 := of_decide_eq_true hp
        obtain ⟨d0, d1, rfl⟩ : ∃ d0 d1, ds = [d0, d1] := by
          match ds, h2 with
          | [x, y], _ => exact ⟨x, y, rfl⟩
        cases hx with
        | @cons v0 vs0 _ _ i0 r0 =>
          cases r0 with
          | @cons v1 vs1 _ _ i1 r1 =>
            cases r1
            refine ⟨.ref a, rfl, a, _, 0, _, rfl, rfl, ha, atI_nat (j := 0) rfl, v0, d0, rfl, i0, jInt d0, rfl, ?_⟩
            cases i0 with
            | int t =>
              refine iteF ⟨.ref a, rfl, a, _, 1, _, rfl, rfl, ha, atI_nat (j := 1) rfl, v1, d1, rfl, i1, jInt d1, rfl, ?_⟩
              cases i1 with
              | int b =>
                refine iteF ⟨.ref a, rfl, a, _, 1, _, rfl, rfl, ha, atI_nat (j := 1) rfl, _, _, rfl, rfl, _, rfl, ?_⟩
                have ej : jRatio (.tuple [.int t, .int b]) = (decide (1 ≤ b) && decide (Nat.gcd t.natAbs b.natAbs = 1)) := rfl
                rw [ej] at q
                by_cases hb : b < 1
                · rw [decide_eq_true hb]
                  rw [decide_eq_false (show ¬ 1 ≤ b by omega)] at q
                  exact iteT q
                · rw [decide_eq_false hb]
                  rw [decide_eq_true (show 1 ≤ b by omega)] at q
                  refine iteF ⟨.ref a, rfl, a, _, 0, _, rfl, rfl, ha, atI_nat (j := 0) rfl, .ref a, rfl, a, _, 1, _, rfl, rfl, ha, atI_nat (j := 1) rfl, _, _, rfl, rfl, ?_⟩
                  have e2 : decide (V.int ((Nat.gcd t.natAbs b.natAbs : Nat) : Int) = V.int 1) = decide (Nat.gcd t.natAbs b.natAbs = 1) := by
                    by_cases h : Nat.gcd t.natAbs b.natAbs = 1
                    · rw [decide_eq_true h, decide_eq_true (by rw [h]; rfl)]
                    · rw [decide_eq_false h, decide_eq_false (fun z => h (by have := V.int.inj z; omega))]
                  rw [e2]
                  exact q
              | non => exact iteT q
              | bl b => exact iteT q
              | str x => exact iteT q
              | lst _ _ => exact iteT q
              | tup _ _ => exact iteT q
            | non => exact iteT q
            | bl b => exact iteT q
            | str x => exact iteT q
            | lst _ _ => exact iteT q
            | tup _ _ => exact iteT q
      | non => cases hp
      | bl b => cases hp
      | int i => cases hp
      | str x => cases hp
      | lst _ _ => cases hp
abbrev s_within : Stmt := topS 13
theorem sc_within : FnScope ["thing", "low", "high"] ["thing", "low", "high"] (defScope s_within) := ⟨rfl, rfl, rfl, by decide +kernel, rfl, by decide +kernel, by decide +kernel⟩
def sp_within (K : PySem.W.Frag) : Sp := fun vs H Q _ => ∃ i lo hi, vs = [.int i, .int lo, .int hi] ∧ lo ≤ i ∧ i ≤ hi ∧ Q (.bl true) H
theorem ok_within {f : Addr} {fd : FuncData} {k : Nat} (F : Fun K "within" "within" s_within f fd) (T : Tx K mg){ki : Nat} (D_is_int : Def P w K mg base ki "is_int" s_is_int ["thing"] (sp_is_int K)) (hk : ki ≤ k) : FnOk P w K mg base CX0 (k + 1) f fd ["thing", "low", "high"] (sp_within K) := by
  have nd := sc_within.nd
  refine F.ok sc_within (fun vs H Q E h => ?_) (fun cdv A outer s H vs Q E hr h => ?_)
  · obtain ⟨_, _, _, rfl, _⟩ := h
    rfl
  · obtain ⟨i, lo, hi, rfl, h1, h2, q⟩ := h
    refine ⟨_, (pss_one (ps_ret (pe_and (pe_def D_is_int (hr.mono (by omega)) rfl (pa_cons (pv 0) pa_nil)) (pe_one (pe_chain op_le op_le (pv 1) (pv 0) (pv 2)))))), ?_⟩
    refine ⟨.int i, rfl, .int i, .int i, rfl, .int i, true, rfl, iteT ?_⟩
    refine ⟨.int lo, rfl, .int i, rfl, _, _, rfl, rfl, _, rfl, ?_⟩
    rw [decide_eq_true h1]
    refine iteT ⟨.int hi, rfl, _, _, rfl, rfl, ?_⟩
    dsimp only
    rw [decide_eq_true h2]
    exact q

abbrev s_is_row : Stmt := topS 15
theorem sc_is_row : FnScope ["thing", "low", "high"] ["thing", "low", "high"] (defScope s_is_row) := ⟨rfl, rfl, rfl, by decide +kernel, rfl, by decide +kernel, by decide +kernel⟩
def sp_is_row (K : PySem.W.Frag) : Sp := fun vs H Q _ => ∃ a xs lo hi, vs = [.ref a, .int lo, .int hi] ∧ ITup K H a xs ∧ lo ≤ (xs.length : Int) ∧ (xs.length : Int) ≤ hi ∧ Q (.bl true) H
theorem ok_is_row {f : Addr} {fd : FuncData} {k : Nat} (F : Fun K "is_row" "is_row" s_is_row f fd) (T : Tx K mg) : FnOk P w K mg base CX0 (k + 1) f fd ["thing", "low", "high"] (sp_is_row K) := by
  have nd := sc_is_row.nd
  refine F.ok sc_is_row (fun vs H Q E h => ?_) (fun cdv A outer s H vs Q E hr h => ?_)
  · obtain ⟨_, _, _, _, rfl, _⟩ := h
    rfl
  · obtain ⟨a, xs, lo, hi, rfl, ha, h1, h2, q⟩ := h
    refine ⟨_, (pss_one (ps_ret (pe_and (pe_callB (kcall_isi K) (by rfl) T.m_isinstance (by decide +kernel) (pa_cons (pv 0) (pa_cons (pe_bltn (v := .ty "tuple") (u := .type "tuple") (by rfl) T.m_tuple (by decide +kernel) rfl) pa_nil))) (pe_one (pe_chain op_le op_le (pv 1) (pe_callB (kcall_len K) (by rfl) T.m_len PySem.boot_len (pa_cons (pv 0) pa_nil)) (pv 2)))))), ?_⟩
    refine ⟨.ref a, rfl, .ref a, _, .type "tuple", _, true, rfl, .ty _, ity ha, kit_ty (by decide +kernel), true, rfl, iteT ?_⟩
    refine ⟨.int lo, rfl, .ref a, rfl, a, xs, rfl, .inr ha.sq, _, _, rfl, rfl, _, rfl, ?_⟩
    rw [decide_eq_true h1]
    refine iteT ⟨.int hi, rfl, _, _, rfl, rfl, ?_⟩
    dsimp only
    rw [decide_eq_true h2]
    exact q

/-- a name, by its signs -/
def lowC (c : Nat) : Bool := decide (c ∈ lows.cps.toList)
def highC (c : Nat) : Bool := decide (c ∈ highs.cps.toList)
def digC (c : Nat) : Bool := decide (c ∈ digs.cps.toList)
structure NameOk (z : Str) : Prop where
  len : 1 ≤ z.length ∧ z.length ≤ 10
  kw : z ≠ "fun" ∧ z ≠ "kind" ∧ z ≠ "number"
  head : ∃ c, z.cps[0]? = some c ∧ digC c = false
  signs : ∀ c ∈ z.cps.toList, (lowC c || highC c || digC c) = true
abbrev s_is_name : Stmt := topS 16
theorem sc_is_name : FnScope ["thing", "sign"] ["thing"] (defScope s_is_name) := ⟨rfl, rfl, rfl, by decide +kernel, rfl, by decide +kernel, by decide +kernel⟩
def sp_is_name : Sp := fun vs H Q _ => ∃ z, vs = [.str z] ∧ NameOk z ∧ ∀ H', Same H H' → Q (.bl true) H'
theorem ok_is_name {f : Addr} {fd : FuncData} {k : Nat} (F : Fun K "is_name" "is_name" s_is_name f fd) (T : Tx K mg) : FnOk P w K mg base CX0 (k + 1) f fd ["thing"] sp_is_name := by
  have nd := sc_is_name.nd
  obtain ⟨akw, g_KEYWORDS0, ikw⟩ := T.kws
  have g_KEYWORDS : ∃ u, mg "KEYWORDS" = some u ∧ L2.RelV (.ref akw) u := ⟨_, g_KEYWORDS0, rfl⟩
  refine F.ok sc_is_name (fun vs H Q E h => ?_) (fun cdv A outer s H vs Q E hr h => ?_)
  · obtain ⟨_, rfl, _⟩ := h
    rfl
  · obtain ⟨z, rfl, ok, q⟩ := h
    obtain ⟨c0, h0, d0⟩ := ok.head
    have l1 := ok.len
    refine ⟨_, (pss_cons (ps_if (PW.pt (pw_or (pt_not (pt_val (pe_callB (kcall_isi K) (by rfl) T.m_isinstance (by decide +kernel) (pa_cons (pv 0) (pa_cons (pe_bltn (v := .ty "str") (u := .type "str") (by rfl) T.m_str (by decide +kernel) rfl) pa_nil))))) (pw_or1 (pt_not (pt_chain op_le op_le pe_int (pe_callB call_len_str (by rfl) T.m_len PySem.boot_len (pa_cons (pv 0) pa_nil)) (pe_gv rfl T.g_LONGEST))))))
        (pss_one (ps_ret pe_bl))
        pss_nil)
      (pss_cons (ps_if (PW.pt (pw_or (pt_cmpR op_in_seq (pv 0) (pe_gv rfl g_KEYWORDS) (by rfl)) (pw_or1 (pt_cmpR op_in_sign (pe_ix ix_str (pv 0) pe_int (fun _ _ => rfl)) (pe_gv rfl T.g_DIGITS) (by rfl)))))
        (pss_one (ps_ret pe_bl))
        pss_nil)
      (pss_one (ps_ret (pe_callB (kcr_all K) (by rfl) T.m_all (by decide +kernel) (pa_cons (pe_lc (own := [("sign", 1)]) (g := gName 1) (tt := tYes) rfl nd (pi_str (pv 0)) (blkOk_by (by rfl)) (fun _ _ _ _ _ => (pg_name (i := 1) nd rfl (.inl rfl))) (fun _ _ _ _ _ => pts_nil) (fun _ _ _ _ _ => (pe_or (pe_cmpR op_in_sign (pv 1) (pe_gv rfl T.g_LOW) (by rfl)) (pe_or (pe_cmpR op_in_sign (pv 1) (pe_gv rfl T.g_HIGH) (by rfl)) (pe_one (pe_cmpR op_in_sign (pv 1) (pe_gv rfl T.g_DIGITS) (by rfl))))))) pa_nil)))))), ?_⟩
    refine ⟨.str z, rfl, .str z, _, .type "str", _, true, rfl, .ty _, .base (.str z), kit_ty (by decide +kernel), true, rfl, iteF ?_⟩
    refine ⟨.str z, rfl, z, rfl, Nat.le_of_lt (small1000 (by omega)), _, _, rfl, rfl, _, rfl, ?_⟩
    rw [decide_eq_true (show (1 : Int) ≤ (z.length : Int) by omega)]
    refine iteT ⟨_, _, rfl, rfl, _, rfl, ?_⟩
    rw [decide_eq_true (show (z.length : Int) ≤ 10 by omega)]
    refine iteF ⟨.str z, rfl, akw, [.str "fun", .str "kind", .str "number"], rfl, .inr (ikw H).sq, rfl, rfl, _, rfl, ?_⟩
    have hk : inV (V.str z) [.str "fun", .str "kind", .str "number"] = false := by
      have e : ∀ x y : Str, eqV (V.str x) (V.str y) = decide (x = y) := fun x y => by
        by_cases h : x = y
        · subst h; simp [eqV]
        · simp [eqV, h]
      show (eqV (V.str "fun") (V.str z) || (eqV (V.str "kind") (V.str z) || (eqV (V.str "number") (V.str z) || false))) = false
      rw [e, e, e, decide_eq_false (fun h => ok.kw.1 h.symm), decide_eq_false (fun h => ok.kw.2.1 h.symm), decide_eq_false (fun h => ok.kw.2.2 h.symm)]
      rfl
    rw [hk]
    refine iteF ⟨.str z, rfl, z, 0, c0, rfl, rfl, Nat.le_of_lt (small1000 (by omega)), atI_nat (j := 0) (by rw [Array.getElem?_toList]; exact h0), c0, digs, rfl, rfl, _, rfl, ?_⟩
    rw [show decide (c0 ∈ digs.cps.toList) = false from d0]
    refine iteF ⟨.str z, rfl, z, rfl, fun D2 hD => ?_⟩
    refine lc_all (walk_str (z := z)) (fun i H2 => Same H H2 ∧ H2 D2 = some (.lst ((List.replicate i true).map V.bl))) ⟨same_new hD, upd_same⟩ (fun _ _ _ _ => trivial) (fun i x H2 H3 hi zz y => ?_) (fun H2 zz => ?_)
    · obtain ⟨sm, eD⟩ := zz
      obtain ⟨rfl, c, hc, rfl⟩ := y
      have hs := ok.signs c (List.mem_of_getElem? (i := i) (by rw [Array.getElem?_toList]; exact hc))
      have fin : ∃ acc, H3 D2 = some (.lst acc) ∧ acc.length < sizeLine ∧ Same H (upd H3 D2 (.lst (acc ++ [V.bl true]))) ∧ (upd H3 D2 (.lst (acc ++ [V.bl true]))) D2 = some (.lst ((List.replicate (i + 1) true).map V.bl)) := by
        refine ⟨_, eD, ?_, fun b o e => ?_, ?_⟩
        · rw [List.length_map, List.length_replicate]; exact small1000 (by have h2 : z.length = z.cps.size := rfl; omega)
        · rw [upd_ne (ne_of_none e hD)]; exact sm _ _ e
        · rw [upd_same, List.replicate_succ', List.map_append]; rfl
      refine ⟨rfl, .str ⟨#[c]⟩, rfl, c, lows, rfl, rfl, _, rfl, ?_⟩
      by_cases h1 : lowC c = true
      · rw [show decide (c ∈ lows.cps.toList) = true from h1]
        exact iteT fin
      · rw [show decide (c ∈ lows.cps.toList) = false from Bool.eq_false_iff.mpr h1]
        refine iteF ⟨.str ⟨#[c]⟩, rfl, c, highs, rfl, rfl, _, rfl, ?_⟩
        by_cases h2 : highC c = true
        · rw [show decide (c ∈ highs.cps.toList) = true from h2]
          exact iteT fin
        · rw [show decide (c ∈ highs.cps.toList) = false from Bool.eq_false_iff.mpr h2]
          refine iteF ⟨.str ⟨#[c]⟩, rfl, c, digs, rfl, rfl, ?_⟩
          have h3 : digC c = true := by
            rw [show lowC c = false from by simpa using h1, show highC c = false from by simpa using h2] at hs
            simpa using hs
          rw [show decide (c ∈ digs.cps.toList) = true from h3]
          exact fin
    · refine ⟨D2, List.replicate z.cps.size true, rfl, .of zz.2, ?_⟩
      have e : (List.replicate z.cps.size true).all id = true := by simp
      rw [e]
      exact q _ zz.1
abbrev s_is_low : Stmt := topS 17
theorem sc_is_low : FnScope ["thing"] ["thing"] (defScope s_is_low) := ⟨rfl, rfl, rfl, by decide +kernel, rfl, by decide +kernel, by decide +kernel⟩
def sp_is_low : Sp := fun vs H Q _ => ∃ z, vs = [.str z] ∧ NameOk z ∧ (∃ c, z.cps[0]? = some c ∧ lowC c = true) ∧ ∀ H', Same H H' → Q (.bl true) H'
theorem ok_is_low {f : Addr} {fd : FuncData} {k : Nat} (F : Fun K "is_low" "is_low" s_is_low f fd) (T : Tx K mg){ki : Nat} (D_is_name : Def P w K mg base ki "is_name" s_is_name ["thing"] sp_is_name) (hk : ki ≤ k) : FnOk P w K mg base CX0 (k + 1) f fd ["thing"] sp_is_low := by
  have nd := sc_is_low.nd
  refine F.ok sc_is_low (fun vs H Q E h => ?_) (fun cdv A outer s H vs Q E hr h => ?_)
  · obtain ⟨_, rfl, _⟩ := h
    rfl
  · obtain ⟨z, rfl, ok, ⟨c0, h0, hl⟩, q⟩ := h
    have l1 := ok.len
    refine ⟨_, (pss_one (ps_ret (pe_and (pe_def D_is_name (hr.mono (by omega)) rfl (pa_cons (pv 0) pa_nil)) (pe_one (pe_cmpR op_in_sign (pe_ix ix_str (pv 0) pe_int (fun _ _ => rfl)) (pe_gv rfl T.g_LOW) (by rfl)))))), ?_⟩
    refine ⟨.str z, rfl, z, rfl, ok, fun H' sm => ⟨true, rfl, iteT ⟨.str z, rfl, z, 0, c0, rfl, rfl, Nat.le_of_lt (small1000 (by omega)), atI_nat (j := 0) (by rw [Array.getElem?_toList]; exact h0), c0, lows, rfl, rfl, ?_⟩⟩⟩
    rw [show decide (c0 ∈ lows.cps.toList) = true from hl]
    exact q H' sm
abbrev s_is_high : Stmt := topS 18
theorem sc_is_high : FnScope ["thing"] ["thing"] (defScope s_is_high) := ⟨rfl, rfl, rfl, by decide +kernel, rfl, by decide +kernel, by decide +kernel⟩
def sp_is_high : Sp := fun vs H Q _ => ∃ z, vs = [.str z] ∧ NameOk z ∧ (∃ c, z.cps[0]? = some c ∧ highC c = true) ∧ ∀ H', Same H H' → Q (.bl true) H'
theorem ok_is_high {f : Addr} {fd : FuncData} {k : Nat} (F : Fun K "is_high" "is_high" s_is_high f fd) (T : Tx K mg){ki : Nat} (D_is_name : Def P w K mg base ki "is_name" s_is_name ["thing"] sp_is_name) (hk : ki ≤ k) : FnOk P w K mg base CX0 (k + 1) f fd ["thing"] sp_is_high := by
  have nd := sc_is_high.nd
  refine F.ok sc_is_high (fun vs H Q E h => ?_) (fun cdv A outer s H vs Q E hr h => ?_)
  · obtain ⟨_, rfl, _⟩ := h
    rfl
  · obtain ⟨z, rfl, ok, ⟨c0, h0, hl⟩, q⟩ := h
    have l1 := ok.len
    refine ⟨_, (pss_one (ps_ret (pe_and (pe_def D_is_name (hr.mono (by omega)) rfl (pa_cons (pv 0) pa_nil)) (pe_one (pe_cmpR op_in_sign (pe_ix ix_str (pv 0) pe_int (fun _ _ => rfl)) (pe_gv rfl T.g_HIGH) (by rfl)))))), ?_⟩
    refine ⟨.str z, rfl, z, rfl, ok, fun H' sm => ⟨true, rfl, iteT ⟨.str z, rfl, z, 0, c0, rfl, rfl, Nat.le_of_lt (small1000 (by omega)), atI_nat (j := 0) (by rw [Array.getElem?_toList]; exact h0), c0, highs, rfl, rfl, ?_⟩⟩⟩
    rw [show decide (c0 ∈ highs.cps.toList) = true from hl]
    exact q H' sm

abbrev s_all_unlike : Stmt := topS 19
theorem sc_all_unlike : FnScope ["names"] ["names"] (defScope s_all_unlike) := ⟨rfl, rfl, rfl, by decide +kernel, rfl, by decide +kernel, by decide +kernel⟩
def sp_unlike (K : PySem.W.Frag) : Sp := fun vs H Q _ => ∃ (a : Addr) (ys : List Str), vs = [.ref a] ∧ H a = some (.lst (ys.map V.str)) ∧ ys.Nodup ∧ ys.length ≤ 1000 ∧ Q (.bl true) H
theorem ok_all_unlike {f : Addr} {fd : FuncData} {k : Nat} (F : Fun K "all_unlike" "all_unlike" s_all_unlike f fd) (T : Tx K mg) : FnOk P w K mg base CX0 (k + 1) f fd ["names"] (sp_unlike K) := by
  have nd := sc_all_unlike.nd
  refine F.ok sc_all_unlike (fun vs H Q E h => ?_) (fun cdv A outer s H vs Q E hr h => ?_)
  · obtain ⟨_, _, rfl, _⟩ := h
    rfl
  · obtain ⟨a, ys, rfl, ea, ndy, few, q⟩ := h
    refine ⟨_, (pss_one (ps_ret (pe_cmpR op_eq (pe_lenSetT K (by rfl) T.m_len (by rfl) T.m_set (pv 0)) (pe_callB (kcall_len K) (by rfl) T.m_len PySem.boot_len (pa_cons (pv 0) pa_nil)) (nomark _)))), ?_⟩
    refine ⟨.ref a, rfl, a, ys, rfl, .of ea, ndy, few, .ref a, rfl, a, _, rfl, .inl (.of ea), rfl, ?_⟩
    rw [List.length_map, decide_eq_true rfl]
    exact q
end
end K63

set_option Elab.async false
set_option linter.all false
set_option maxRecDepth 100000
set_option exponentiation.threshold 20000
set_option pp.deepTerms false
set_option pp.deepTerms.threshold 8
namespace K63
open PySem PySem.Spec PyProof.Rows L2 Ly Mt
/-! ### kinds as data -/
abbrev Mk := Str × List Str
abbrev Kd := Str × List Mk
def sD (xs : List Str) : PyData := .tuple (xs.map .str)
def mkD (m : Mk) : PyData := .tuple [.str m.1, sD m.2]
def kdD (k : Kd) : PyData := .tuple [.str k.1, .tuple (k.2.map mkD)]
def ksD (ks : List Kd) : PyData := .tuple (ks.map kdD)
def High (z : Str) : Prop := NameOk z ∧ ∃ c, z.cps[0]? = some c ∧ highC c = true
def allMk (ks : List Kd) : List Mk := ks.flatMap (·.2)
structure KindsOk (ks : List Kd) : Prop where
  few : 1 ≤ ks.length ∧ ks.length ≤ 6
  nm : ∀ k ∈ ks, High k.1
  mks : ∀ k ∈ ks, 1 ≤ k.2.length ∧ k.2.length ≤ 6
  mkk : ∀ k ∈ ks, ∀ m ∈ k.2, High m.1 ∧ m.2.length ≤ 4
  nd : (ks.map (·.1)).Nodup
  ndm : ((allMk ks).map (·.1)).Nodup
  flds : ∀ k ∈ ks, ∀ m ∈ k.2, ∀ f ∈ m.2, f = "number" ∨ f ∈ ks.map (·.1)
theorem im_pair {K : PySem.W.Frag} {H : Hp} {v : V} {d e : PyData} (h : Im K H v (.tuple [d, e])) : ∃ a x y, v = .ref a ∧ ITup K H a [x, y] ∧ Im K H x d ∧ Im K H y e := by
  obtain ⟨a, xs, rfl, ha, hx⟩ := h.tuple_inv
  obtain ⟨x, r, rfl, i1, hr⟩ := hx.cons_inv
  obtain ⟨y, r, rfl, i2, hr⟩ := hr.cons_inv
  obtain rfl := hr.nil_inv
  exact ⟨a, x, y, rfl, ha, i1, i2⟩
theorem im_trip {K : PySem.W.Frag} {H : Hp} {v : V} {d e f : PyData} (h : Im K H v (.tuple [d, e, f])) : ∃ a x y z, v = .ref a ∧ ITup K H a [x, y, z] ∧ Im K H x d ∧ Im K H y e ∧ Im K H z f := by
  obtain ⟨a, xs, rfl, ha, hx⟩ := h.tuple_inv
  obtain ⟨x, r, rfl, i1, hr⟩ := hx.cons_inv
  obtain ⟨y, r, rfl, i2, hr⟩ := hr.cons_inv
  obtain ⟨z, r, rfl, i3, hr⟩ := hr.cons_inv
  obtain rfl := hr.nil_inv
  exact ⟨a, x, y, z, rfl, ha, i1, i2, i3⟩
theorem im_quad {K : PySem.W.Frag} {H : Hp} {v : V} {d e f g : PyData} (h : Im K H v (.tuple [d, e, f, g])) : ∃ a x y z w, v = .ref a ∧ ITup K H a [x, y, z, w] ∧ Im K H x d ∧ Im K H y e ∧ Im K H z f ∧ Im K H w g := by
  obtain ⟨a, xs, rfl, ha, hx⟩ := h.tuple_inv
  obtain ⟨x, r, rfl, i1, hr⟩ := hx.cons_inv
  obtain ⟨y, r, rfl, i2, hr⟩ := hr.cons_inv
  obtain ⟨z, r, rfl, i3, hr⟩ := hr.cons_inv
  obtain ⟨w, r, rfl, i4, hr⟩ := hr.cons_inv
  obtain rfl := hr.nil_inv
  exact ⟨a, x, y, z, w, rfl, ha, i1, i2, i3, i4⟩
theorem im_strs {K : PySem.W.Frag} {H : Hp} : ∀ {xs : List V} {ys : List Str}, ImAll K H xs (ys.map .str) → xs = ys.map V.str
  | _, [], h => by obtain rfl := h.nil_inv; rfl
  | _, y :: ys, h => by
    obtain ⟨x, r, rfl, i1, hr⟩ := h.cons_inv
    rw [i1.str_inv, im_strs hr]; rfl
theorem strs_im {K : PySem.W.Frag} {H : Hp} : ∀ (ys : List Str), ImAll K H (ys.map V.str) (ys.map .str)
  | [] => .nil
  | y :: ys => .cons (.str y) (strs_im ys)
theorem eqs (x y : Str) : eqV (V.str x) (V.str y) = decide (x = y) := by
  by_cases h : x = y
  · subst h; simp [eqV]
  · simp [eqV, h]
theorem inV_strs (z : Str) : ∀ ys : List Str, inV (V.str z) (ys.map V.str) = decide (z ∈ ys)
  | [] => rfl
  | y :: ys => by
    have ih := inV_strs z ys
    unfold inV at ih ⊢
    rw [List.map_cons, List.any_cons, ih, eqs]
    by_cases h : y = z
    · subst h; simp
    · have h2 : ¬ z = y := fun e => h e.symm
      simp [h, h2]
theorem flat_strs' : ∀ ys : List Str, (ys.map V.str).all flatV = true
  | [] => rfl
  | y :: ys => by rw [List.map_cons, List.all_cons, flat_strs' ys]; rfl
theorem dec_str (x y : Str) : decide (V.str x = V.str y) = decide (x = y) := by
  by_cases h : x = y
  · rw [decide_eq_true h, decide_eq_true (by rw [h])]
  · rw [decide_eq_false h, decide_eq_false (fun z => h (V.str.inj z))]
theorem allMk_len : ∀ {l : List Kd}, (∀ k ∈ l, k.2.length ≤ 6) → (allMk l).length ≤ 6 * l.length
  | [], _ => Nat.le_refl _
  | k :: l, h => by
    have h1 := h k (List.mem_cons_self ..)
    have h2 := allMk_len (l := l) fun x hx => h x (List.mem_cons_of_mem _ hx)
    unfold allMk at h2 ⊢
    rw [List.flatMap_cons, List.length_append, List.length_cons]
    omega
/-- all but D stays -/
def Bar' (D : Addr) (H H' : Hp) : Prop := ∀ b o, b ≠ D → H b = some o → H' b = some o
section
variable {P : Program} {w : World} {K : PySem.W.Frag} {mg : Str → Option Value} {base : Heap}
abbrev s_is_kinds : Stmt := topS 32
theorem sc_is_kinds : FnScope ["thing", "names", "makers", "kind", "maker", "_", "fields", "name", "field"] ["thing"] (defScope s_is_kinds) := ⟨rfl, rfl, rfl, by decide +kernel, rfl, by decide +kernel, by decide +kernel⟩
def sp_is_kinds (K : PySem.W.Frag) : Sp := fun vs H Q _ => ∃ v ks, vs = [v] ∧ Im K H v (ksD ks) ∧ KindsOk ks ∧ ∀ H', Same H H' → Q (.bl true) H'
set_option maxHeartbeats 1000000 in
theorem ok_is_kinds {f : Addr} {fd : FuncData} {k : Nat} (F : Fun K "is_kinds" "is_kinds" s_is_kinds f fd) (T : Tx K mg){k1 : Nat} (D_is_row : Def P w K mg base k1 "is_row" s_is_row ["thing", "low", "high"] (sp_is_row K)) {k2 : Nat} (D_is_pair : Def P w K mg base k2 "is_pair" s_is_pair ["thing"] (sp_is_pair K)) {k3 : Nat} (D_is_high : Def P w K mg base k3 "is_high" s_is_high ["thing"] sp_is_high) {k4 : Nat} (D_all_unlike : Def P w K mg base k4 "all_unlike" s_all_unlike ["names"] (sp_unlike K)) (e1 : k1 ≤ k) (e2 : k2 ≤ k) (e3 : k3 ≤ k) (e4 : k4 ≤ k) : FnOk P w K mg base CX0 (k + 1) f fd ["thing"] (sp_is_kinds K) := by
  have nd := sc_is_kinds.nd
  refine F.ok sc_is_kinds (fun vs H Q E h => ?_) (fun cdv A outer s H vs Q E hr h => ?_)
  · obtain ⟨_, _, rfl, _⟩ := h
    rfl
  · obtain ⟨v, ks, rfl, iv, ok, q⟩ := h
    obtain ⟨a, xs, rfl, ha, hx⟩ := iv.tuple_inv
    have lx : xs.length = ks.length := all_len hx
    have few := ok.few
    refine ⟨_, (pss_cons (ps_if (pt_not (pt_val (pe_def D_is_row (hr.mono (by omega)) rfl (pa_cons (pv 0) (pa_cons pe_int (pa_cons pe_int pa_nil))))))
        (pss_one (ps_ret pe_bl))
        pss_nil)
      (pss_cons (ps_asg (pe_tup (pa_cons (pe_lst pa_nil) (pa_cons (pe_lst pa_nil) pa_nil))) (kpg_tup K (n := 2) rfl (pgs_cons (pg_name (i := 1) nd rfl (.inr rfl)) (pgs_cons (pg_name (i := 2) nd rfl (.inl rfl)) pgs_nil))))
      (pss_cons (ps_for PassesOwn.never rfl (kpi_tup K (pv 0)) (pg_name (i := 3) nd rfl (.inl rfl))
        (pss_cons (ps_if (PW.pt (pw_or (pt_not (pt_val (pe_def D_is_pair (hr.mono (by omega)) rfl (pa_cons (pv 3) pa_nil)))) (pw_or (pt_not (pt_val (pe_def D_is_high (hr.mono (by omega)) rfl (pa_cons (pe_ix (kix_tup K) (pv 3) pe_int (fun _ _ => rfl)) pa_nil)))) (pw_or1 (pt_not (pt_val (pe_def D_is_row (hr.mono (by omega)) rfl (pa_cons (pe_ix (kix_tup K) (pv 3) pe_int (fun _ _ => rfl)) (pa_cons pe_int (pa_cons pe_int pa_nil))))))))))
          (pss_one (ps_ret pe_bl))
          pss_nil)
        (pss_cons (ps_expr (pe_bm PySem.F.plainAttrs_list PySem.F.slot_list_append PySem.F.type_list_append mt_append (pv 1) (pa_cons (pe_ix (kix_tup K) (pv 3) pe_int (fun _ _ => rfl)) pa_nil)))
        (pss_one (ps_for PassesOwn.never rfl (kpi_tup K (pe_ix (kix_tup K) (pv 3) pe_int (fun _ _ => rfl))) (pg_name (i := 4) nd rfl (.inl rfl))
          (pss_cons (ps_if (PW.pt (pw_or (pt_not (pt_val (pe_def D_is_pair (hr.mono (by omega)) rfl (pa_cons (pv 4) pa_nil)))) (pw_or (pt_not (pt_val (pe_def D_is_high (hr.mono (by omega)) rfl (pa_cons (pe_ix (kix_tup K) (pv 4) pe_int (fun _ _ => rfl)) pa_nil)))) (pw_or1 (pt_not (pt_val (pe_def D_is_row (hr.mono (by omega)) rfl (pa_cons (pe_ix (kix_tup K) (pv 4) pe_int (fun _ _ => rfl)) (pa_cons pe_int (pa_cons pe_int pa_nil))))))))))
            (pss_one (ps_ret pe_bl))
            pss_nil)
          (pss_one (ps_expr (pe_bm PySem.F.plainAttrs_list PySem.F.slot_list_append PySem.F.type_list_append mt_append (pv 2) (pa_cons (pv 4) pa_nil))))))))))
      (pss_cons (ps_if (PW.pt (pw_or (pt_not (pt_val (pe_def D_all_unlike (hr.mono (by omega)) rfl (pa_cons (pv 1) pa_nil)))) (pw_or1 (pt_not (pt_val (pe_def D_all_unlike (hr.mono (by omega)) rfl (pa_cons (pe_lc (own := [("name", 7), ("_", 5)]) (g := _) (tt := tYes) rfl nd (kpi_list K (pv 2)) (blkOk_by (by rfl)) (fun _ _ _ _ _ => (kpg_tup K (n := 2) rfl (pgs_cons (pg_name (i := 7) nd rfl (.inl rfl)) (pgs_cons (pg_name (i := 5) nd rfl (.inl rfl)) pgs_nil)))) (fun _ _ _ _ _ => pts_nil) (fun _ _ _ _ _ => (pv 7))) pa_nil)))))))
        (pss_one (ps_ret pe_bl))
        pss_nil)
      (pss_cons (ps_for PassesOwn.never rfl (kpi_list K (pv 2)) (kpg_tup K (n := 2) rfl (pgs_cons (pg_name (i := 5) nd rfl (.inl rfl)) (pgs_cons (pg_name (i := 6) nd rfl (.inl rfl)) pgs_nil)))
        (pss_one (ps_if (pt_not (pt_val (pe_callB (kcr_all K) (by rfl) T.m_all (by decide +kernel) (pa_cons (pe_lc (own := [("field", 8)]) (g := gName 8) (tt := tYes) rfl nd (kpi_tup K (pv 6)) (blkOk_by (by rfl)) (fun _ _ _ _ _ => (pg_name (i := 8) nd rfl (.inl rfl))) (fun _ _ _ _ _ => pts_nil) (fun _ _ _ _ _ => (pe_and (pe_callB (kcall_isi K) (by rfl) T.m_isinstance (by decide +kernel) (pa_cons (pv 8) (pa_cons (pe_bltn (v := .ty "str") (u := .type "str") (by rfl) T.m_str (by decide +kernel) rfl) pa_nil))) (pe_one (pe_or (pe_cmpR op_eq (pv 8) pe_str (nomark _)) (pe_one (pe_cmpR (kop_inS K) (pv 8) (pv 1) (by rfl)))))))) pa_nil))))
          (pss_one (ps_ret pe_bl))
          pss_nil)))
      (pss_one (ps_ret pe_bl))))))), ?_⟩
    refine ⟨.ref a, rfl, a, xs, 1, 6, rfl, ha, by omega, by omega, true, rfl, iteF ?_⟩
    refine ⟨by show 0 ≤ sizeLine; decide, fun e1 he1 => ⟨by show 0 ≤ sizeLine; decide, fun e2 he2 => ⟨by show 2 ≤ sizeLine; decide, fun T hT => ?_⟩⟩⟩
    have s1 : Same H (upd H e1 (.lst [])) := same_new he1
    have ee1 : (upd H e1 (.lst [])) e1 = some (.lst []) := upd_same
    generalize upd H e1 (.lst []) = H1 at *
    have s2 : Same H1 (upd H1 e2 (.lst [])) := same_new he2
    have ee2 : (upd H1 e2 (.lst [])) e2 = some (.lst []) := upd_same
    have ee12 := s2 _ _ ee1
    have n12 : e1 ≠ e2 := ne_of_none ee1 he2
    have he20 : H e2 = none := s1.free he2
    generalize upd H1 e2 (.lst []) = H2 at *
    have s3 : Same H2 (upd H2 T (.tup [.ref e1, .ref e2])) := same_new hT
    have ee13 := s3 _ _ ee12
    have ee23 := s3 _ _ ee2
    have sH3 := (s1.trans s2).trans s3
    refine ⟨T, _, rfl, .of upd_same, rfl, .ref e1, _, rfl, .ref e2, _, rfl, rfl, ?_⟩
    generalize upd H2 T (.tup [.ref e1, .ref e2]) = H3 at *
    have iv3 := ImAll.mono (tk_same sH3) _ hx
    refine ⟨.ref a, rfl, a, rfl, ⟨_, (ha.mono (tk_same sH3)).sq⟩, ?_⟩
    refine for_it (walk_tup (xs := xs)) (fun i σ Ha => ∃ (y3 y4 : Option V) (ws : List V), σ = [some (.ref a), some (.ref e1), some (.ref e2), y3, y4, none, none, none, none] ∧ Same H Ha ∧ Ha e1 = some (.lst (((ks.take i).map (·.1)).map V.str)) ∧ Ha e2 = some (.lst ws) ∧ ImAll K Ha ws ((allMk (ks.take i)).map mkD)) ⟨_, _, [], rfl, sH3, ee13, ee23, .nil⟩ (fun i σ Ha _ z => ?_) ?_ ?_
    · obtain ⟨_, _, _, _, sm, _⟩ := z
      exact (ha.mono (tk_same sm)).sq
    · rintro i x σ Ha Hb hi ⟨y3, y4, ws, rfl, sm, m1, m2, im⟩ ⟨rfl, hxi⟩
      obtain ⟨kd, hkd, ikd⟩ := all_get (ImAll.mono (tk_same sm) _ hx) hxi
      have kmem := List.mem_of_getElem? hkd
      obtain ⟨pk, u1, u2, rfl, hpk, iu1, iu2⟩ := im_pair ikd
      obtain rfl := iu1.str_inv
      obtain ⟨pm, us, rfl, hpm, ius⟩ := iu2.tuple_inv
      obtain ⟨hn, hc⟩ := ok.nm _ kmem
      have lus : us.length = kd.2.length := all_len ius
      have few2 := ok.mks _ kmem
      refine ⟨.ref pk, rfl, .ref pk, kdD kd, rfl, Im.dp _ ikd, true, rfl, iteF ?_⟩
      refine ⟨.ref pk, rfl, pk, _, 0, _, rfl, rfl, hpk.sq, atI_nat (j := 0) rfl, kd.1, rfl, hn, hc, fun H4 s4 => ⟨true, rfl, iteF ?_⟩⟩
      have hpk4 := hpk.mono (tk_same s4)
      have hpm4 := hpm.mono (tk_same s4)
      have sm4 := sm.trans s4
      have m14 := s4 _ _ m1
      have m24 := s4 _ _ m2
      have im4 := ImAll.mono (tk_same s4) _ im
      have ius4 := ImAll.mono (tk_same s4) _ ius
      refine ⟨.ref pk, rfl, pk, _, 1, _, rfl, rfl, hpk4.sq, atI_nat (j := 1) rfl, pm, us, 1, 6, rfl, hpm4, by omega, by omega, true, rfl, iteF ?_⟩
      have lk : (ks.take i).length = i := by rw [List.length_take]; omega
      refine ⟨.ref e1, rfl, .inl ⟨rfl, _, .of m14⟩, .ref pk, rfl, pk, _, 0, _, rfl, rfl, hpk4.sq, atI_nat (j := 0) rfl, e1, _, _, rfl, rfl, m14, small1000 (by rw [List.length_map, List.length_map, lk]; omega), ?_⟩
      have take1 : ks.take (i + 1) = ks.take i ++ [kd] := by rw [List.take_add_one, hkd]; rfl
      have m15 : (upd H4 e1 (.lst (((ks.take i).map (·.1)).map V.str ++ [.str kd.1]))) e1 = some (.lst (((ks.take (i + 1)).map (·.1)).map V.str)) := by
        rw [upd_same, take1, List.map_append, List.map_append]; rfl
      have br5 : Bar' e1 H4 (upd H4 e1 (.lst (((ks.take i).map (·.1)).map V.str ++ [.str kd.1]))) := fun b o n e => by rw [upd_ne n]; exact e
      have sm5 : Same H (upd H4 e1 (.lst (((ks.take i).map (·.1)).map V.str ++ [.str kd.1]))) := fun b o e => br5 _ _ (ne_of_none e he1) (sm4 _ _ e)
      have m25 := br5 _ _ n12.symm m24
      have im5 := ImAll.mono (tk_lst (o := .lst (((ks.take i).map (·.1)).map V.str ++ [.str kd.1])) m14) _ im4
      have ius5 := ImAll.mono (tk_lst (o := .lst (((ks.take i).map (·.1)).map V.str ++ [.str kd.1])) m14) _ ius4
      have hpk5 := hpk4.mono (tk_lst (o := .lst (((ks.take i).map (·.1)).map V.str ++ [.str kd.1])) m14)
      have hpm5 := hpm4.mono (tk_lst (o := .lst (((ks.take i).map (·.1)).map V.str ++ [.str kd.1])) m14)
      generalize upd H4 e1 (.lst (((ks.take i).map (·.1)).map V.str ++ [.str kd.1])) = H5 at *
      refine ⟨.ref pk, rfl, pk, _, 1, _, rfl, rfl, hpk5.sq, atI_nat (j := 1) rfl, pm, rfl, ⟨_, hpm5.sq⟩, ?_⟩
      refine for_it (walk_tup (xs := us)) (fun j σ Ha => ∃ (y4 : Option V) (ws : List V), σ = [some (.ref a), some (.ref e1), some (.ref e2), some (.ref pk), y4, none, none, none, none] ∧ Same H Ha ∧ ITup K Ha pm us ∧ ImAll K Ha us (kd.2.map mkD) ∧ Ha e1 = some (.lst (((ks.take (i + 1)).map (·.1)).map V.str)) ∧ Ha e2 = some (.lst ws) ∧ ImAll K Ha ws ((allMk (ks.take i) ++ kd.2.take j).map mkD)) ⟨y4, ws, rfl, sm5, hpm5, ius5, m15, m25, by rw [List.take_zero, List.append_nil]; exact im5⟩ (fun j σ Ha _ z => ?_) ?_ ?_
      · obtain ⟨_, _, _, _, hp, _⟩ := z
        exact hp.sq
      · rintro j x σ Hc Hd hj ⟨y4, ws, rfl, sm, hpm, iu, m1, m2, im⟩ ⟨rfl, hxj⟩
        obtain ⟨m, hm, imm⟩ := all_get iu hxj
        have mmem := List.mem_of_getElem? hm
        obtain ⟨pp, u1, u2, rfl, hpp, iu1, iu2⟩ := im_pair imm
        obtain rfl := iu1.str_inv
        obtain ⟨pf, fs, rfl, hpf, ifs⟩ := iu2.tuple_inv
        obtain ⟨⟨hn, hc⟩, l4⟩ := ok.mkk _ kmem _ mmem
        have lfs : fs.length = m.2.length := all_len ifs
        refine ⟨.ref pp, rfl, .ref pp, mkD m, rfl, Im.dp _ imm, true, rfl, iteF ⟨.ref pp, rfl, pp, _, 0, _, rfl, rfl, hpp.sq, atI_nat (j := 0) rfl, m.1, rfl, hn, hc, fun H6 s6 => ⟨true, rfl, iteF ?_⟩⟩⟩
        refine ⟨.ref pp, rfl, pp, _, 1, _, rfl, rfl, (hpp.mono (tk_same s6)).sq, atI_nat (j := 1) rfl, pf, fs, 0, 4, rfl, hpf.mono (tk_same s6), by omega, by omega, true, rfl, iteF ?_⟩
        have m16 := s6 _ _ m1
        have m26 := s6 _ _ m2
        have la := allMk_len (l := ks.take i) (fun k hk => (ok.mks k (List.mem_of_mem_take hk)).2)
        rw [lk] at la
        have lw : ws.length ≤ 42 := by
          rw [all_len im, List.length_append, List.length_take]
          omega
        refine ⟨.ref e2, rfl, .inl ⟨rfl, _, .of m26⟩, .ref pp, rfl, e2, ws, .ref pp, rfl, rfl, m26, small1000 (by omega), _, ws ++ [.ref pp], rfl, fun b o e => ?_, (hpm.mono (tk_same s6)).mono (tk_lst m26), ImAll.mono ((tk_same s6).trans (tk_lst m26)) _ iu, ?_, upd_same, ?_⟩
        · rw [upd_ne (ne_of_none e he20)]
          exact s6 _ _ (sm _ _ e)
        · rw [upd_ne n12]; exact m16
        · rw [List.take_add_one, hm, ← List.append_assoc, List.map_append]
          exact (ImAll.mono ((tk_same s6).trans (tk_lst m26)) _ im).snoc (Im.mono ((tk_same s6).trans (tk_lst m26)) _ imm)
      · rintro σ Hc ⟨y4, ws, rfl, sm, hpm, iu, m1, m2, im⟩
        refine ⟨_, y4, ws, rfl, sm, m1, m2, ?_⟩
        rw [take1]
        unfold allMk at im ⊢
        rw [List.flatMap_append, List.flatMap_cons, List.flatMap_nil, List.append_nil]
        rw [lus, List.take_of_length_le (Nat.le_refl _)] at im
        exact im
    · rintro σ Ha ⟨y3, y4, ws, rfl, sm, m1, m2, im⟩
      rw [lx, List.take_of_length_le (Nat.le_refl _)] at m1 im
      have la := allMk_len (l := ks) (fun k hk => (ok.mks k hk).2)
      have lws : ws.length = (allMk ks).length := all_len im
      refine ⟨.ref e1, rfl, e1, ks.map (·.1), rfl, m1, ok.nd, by rw [List.length_map]; omega, true, rfl, iteF ?_⟩
      refine ⟨.ref e2, rfl, e2, rfl, ⟨_, .of m2⟩, fun D hD => ?_⟩
      refine lc_all (walk_list (xs := ws)) (fun j Hx => Same Ha Hx ∧ Hx D = some (.lst ((((allMk ks).take j).map (·.1)).map V.str))) ⟨same_new hD, upd_same⟩ (fun j Hx _ z => .of (z.1 _ _ m2)) (fun j x Hx Hy hj z y => ?_) (fun Hx z => ?_)
      · obtain ⟨s5, eD⟩ := z
        obtain ⟨rfl, hxj⟩ := y
        obtain ⟨m, hm, imm⟩ := all_get (ImAll.mono (tk_same s5) _ im) hxj
        obtain ⟨pp, u1, u2, rfl, hpp, iu1, iu2⟩ := im_pair imm
        obtain rfl := iu1.str_inv
        refine ⟨pp, _, rfl, hpp.sq, rfl, .str m.1, _, rfl, u2, _, rfl, rfl, rfl, .str m.1, rfl, _, eD, small1000 (by rw [List.length_map, List.length_map, List.length_take]; omega), fun b o e => ?_, ?_⟩
        · rw [upd_ne (ne_of_none e hD)]; exact s5 _ _ e
        · rw [upd_same, List.take_add_one, hm, List.map_append, List.map_append]; rfl
      · obtain ⟨s5, eD⟩ := z
        rw [lws, List.take_of_length_le (Nat.le_refl _)] at eD
        refine ⟨D, (allMk ks).map (·.1), rfl, eD, ok.ndm, by rw [List.length_map]; omega, true, rfl, iteF ?_⟩
        have m15 := s5 _ _ m1
        have m25 := s5 _ _ m2
        have im5 := ImAll.mono (tk_same s5) _ im
        refine ⟨.ref e2, rfl, e2, rfl, ⟨_, .of m25⟩, ?_⟩
        refine for_it (walk_list (xs := ws)) (fun j σ Hb => ∃ (y5 y6 : Option V), σ = [some (.ref a), some (.ref e1), some (.ref e2), y3, y4, y5, y6, none, none] ∧ Same Hx Hb) ⟨_, _, rfl, Same.refl _⟩ (fun j σ Hb _ z => ?_) ?_ ?_
        · obtain ⟨_, _, _, s6⟩ := z
          exact .of (s6 _ _ m25)
        · rintro j x σ Hb Hc hj ⟨y5, y6, rfl, s6⟩ ⟨rfl, hxj⟩
          obtain ⟨m, hm, imm⟩ := all_get (ImAll.mono (tk_same s6) _ im5) hxj
          obtain ⟨pp, u1, u2, rfl, hpp, iu1, iu2⟩ := im_pair imm
          obtain rfl := iu1.str_inv
          obtain ⟨pf, fs, rfl, hpf, ifs⟩ := iu2.tuple_inv
          have efs := im_strs ifs
          obtain ⟨kd, hk, hmk⟩ := List.mem_flatMap.mp (List.mem_of_getElem? hm)
          have l4 := (ok.mkk _ hk _ hmk).2
          have m16 := s6 _ _ m15
          refine ⟨pp, _, rfl, hpp.sq, rfl, .str m.1, _, rfl, .ref pf, _, rfl, rfl, ?_⟩
          refine ⟨.ref pf, rfl, pf, rfl, ⟨_, hpf.sq⟩, fun D3 hD3 => ?_⟩
          refine lc_all (walk_tup (xs := fs)) (fun i H2 => Same Hc H2 ∧ H2 D3 = some (.lst ((List.replicate i true).map V.bl))) ⟨same_new hD3, upd_same⟩ (fun i H2 _ z => (hpf.mono (tk_same z.1)).sq) (fun i x H2 H3 hi zz y => ?_) (fun H2 zz => ?_)
          · obtain ⟨s7, eD3⟩ := zz
            obtain ⟨rfl, hxi⟩ := y
            rw [efs] at hxi hi
            rw [List.length_map] at hi
            rw [List.getElem?_map] at hxi
            obtain ⟨f, hf, rfl⟩ := Option.map_eq_some_iff.mp hxi
            have fin : ∃ acc, H3 D3 = some (.lst acc) ∧ acc.length < sizeLine ∧ Same Hc (upd H3 D3 (.lst (acc ++ [V.bl true]))) ∧ (upd H3 D3 (.lst (acc ++ [V.bl true]))) D3 = some (.lst ((List.replicate (i + 1) true).map V.bl)) := by
              refine ⟨_, eD3, ?_, fun b o e => ?_, ?_⟩
              · rw [List.length_map, List.length_replicate]; exact small1000 (by omega)
              · rw [upd_ne (ne_of_none e hD3)]; exact s7 _ _ e
              · rw [upd_same, List.replicate_succ', List.map_append]; rfl
            refine ⟨rfl, .str f, rfl, .str f, _, .type "str", _, true, rfl, .ty _, .base (.str f), kit_ty (by decide +kernel), true, rfl, iteT ⟨.str f, rfl, rfl, _, rfl, ?_⟩⟩
            rw [dec_str]
            by_cases hnum : f = "number"
            · rw [decide_eq_true hnum]
              exact iteT fin
            · rw [decide_eq_false hnum]
              refine iteF ⟨.str f, rfl, .ref e1, rfl, e1, _, rfl, .inl (.of (s7 _ _ m16)), rfl, flat_strs' _, ?_⟩
              rw [if_neg Bool.false_ne_true, inV_strs, decide_eq_true ((ok.flds _ hk _ hmk f (List.mem_of_getElem? hf)).resolve_left hnum)]
              exact fin
          · refine ⟨D3, List.replicate fs.length true, rfl, .of zz.2, ?_⟩
            have e : (List.replicate fs.length true).all id = true := by simp
            rw [e]
            exact ⟨true, rfl, iteF ⟨_, _, rfl, s6.trans zz.1⟩⟩
        · rintro σ Hb ⟨y5, y6, rfl, s6⟩
          exact q Hb ((sm.trans s5).trans s6)
end
end K63

set_option Elab.async false
set_option linter.all false
set_option maxRecDepth 100000
set_option exponentiation.threshold 20000
set_option pp.deepTerms false
set_option pp.deepTerms.threshold 8
namespace K63
open PySem PySem.Spec PyProof.Rows L2 Ly Mt
/-! ### the table of makers -/
def noS : Str := ""
/-- the place of a kind's name, -1 where there is none -/
def placeOf (ns : List Str) (f : Str) : Int := if f ∈ ns then (ns.idxOf f : Int) else -1
/-- a maker's row: its name, kind, place, fields -/
abbrev Row := Str × Nat × Nat × List Int
def rowD (r : Row) : PyData := .tuple [.int r.2.1, .int r.2.2.1, .tuple (r.2.2.2.map .int)]
def mkRow (ns : List Str) (i j : Nat) (m : Mk) : Row := (m.1, i, j, m.2.map (placeOf ns))
def kindRows (ns : List Str) (i : Nat) (k : Kd) : List Row := (List.range k.2.length).map fun j => mkRow ns i j (k.2.getD j (noS, []))
def rowsOf (ks : List Kd) (n : Nat) : List Row := (List.range n).flatMap fun i => kindRows (ks.map (·.1)) i (ks.getD i (noS, []))
/-- at d stands the dict of these rows -/
structure TableAt (K : PySem.W.Frag) (H : Hp) (d : Addr) (rs : List Row) : Prop where
  ex : ∃ kvs : List (Key × V), H d = some (.dK kvs) ∧ kvs.map (·.1) = rs.map (fun r => Sum.inr r.1) ∧ ImAll K H (kvs.map (·.2)) (rs.map rowD)
theorem TableAt.same {K : PySem.W.Frag} {H H' : Hp} {d : Addr} {rs : List Row} (h : TableAt K H d rs) (s : Same H H') : TableAt K H' d rs := by
  obtain ⟨kvs, e, h1, h2⟩ := h
  exact ⟨kvs, s _ _ e, h1, ImAll.mono (tk_same s) _ h2⟩
theorem tk_dK {H : Hp} {p : Addr} {o : HO} {xs : List (Key × V)} (h : H p = some (.dK xs)) : TK H (upd H p o) := fun b ys e => by
  rw [upd_ne (fun z => by rw [z, h] at e; cases e)]; exact e
theorem valV_none {kvs : List (Key × V)} {k : Key} (h : k ∉ kvs.map (·.1)) : valV kvs k = none := by
  induction kvs with
  | nil => rfl
  | cons p r ih =>
    rw [List.map_cons, List.mem_cons] at h
    rw [valV_neg (fun e => h (.inl e.symm))]
    exact ih fun z => h (.inr z)
theorem valV_at {K : PySem.W.Frag} {H : Hp} : ∀ {kvs : List (Key × V)} {rs : List Row} {i : Nat} {r : Row}, kvs.map (·.1) = rs.map (fun r => Sum.inr r.1) → (rs.map (·.1)).Nodup → ImAll K H (kvs.map (·.2)) (rs.map rowD) → rs[i]? = some r → ∃ v, valV kvs (Sum.inr r.1) = some v ∧ Im K H v (rowD r)
  | [], [], i, r, _, _, _, h => by simp at h
  | p :: kvs, q :: rs, 0, r, h1, nd, im, h => by
    obtain rfl : q = r := by simpa using h
    rw [List.map_cons, List.map_cons] at h1
    injection h1 with e1 e2
    obtain ⟨v, vs, e3, i1, _⟩ := im.cons_inv
    injection e3 with e4 e5
    exact ⟨p.2, valV_pos e1, by have e5 : p.2 = v := e4; rw [e5]; exact i1⟩
  | p :: kvs, q :: rs, i + 1, r, h1, nd, im, h => by
    have hr : rs[i]? = some r := by simpa using h
    rw [List.map_cons, List.map_cons] at h1
    injection h1 with e1 e2
    obtain ⟨v, vs, e3, i1, ir⟩ := im.cons_inv
    injection e3 with e4 e5
    rw [List.map_cons, List.nodup_cons] at nd
    rw [← e5] at ir
    obtain ⟨u, h3, h4⟩ := valV_at e2 nd.2 ir hr
    refine ⟨u, ?_, h4⟩
    rw [valV_neg (fun z => nd.1 ?_)]
    · exact h3
    · rw [e1] at z
      have : q.1 = r.1 := Sum.inr.inj z
      rw [this]
      exact List.mem_map.mpr ⟨r, List.mem_of_getElem? hr, rfl⟩
  | [], _ :: _, _, _, h1, _, _, _ => by simp at h1
  | _ :: _, [], _, _, h1, _, _, _ => by simp at h1
theorem TableAt.get {K : PySem.W.Frag} {H : Hp} {d : Addr} {rs : List Row} (h : TableAt K H d rs) (nd : (rs.map (·.1)).Nodup) {i : Nat} {r : Row} (e : rs[i]? = some r) : ∃ kvs v, H d = some (.dK kvs) ∧ valV kvs (Sum.inr r.1) = some v ∧ Im K H v (rowD r) := by
  obtain ⟨kvs, e0, h1, h2⟩ := h
  obtain ⟨v, h3, h4⟩ := valV_at h1 nd h2 e
  exact ⟨kvs, v, e0, h3, h4⟩
/-! ### the places of the kinds -/
def placesV (ns : List Str) (n : Nat) : List (Key × V) := (List.range n).map fun i => (Sum.inr (ns.getD i noS), V.int (i : Nat))
theorem placesV_succ (ns : List Str) (n : Nat) : placesV ns (n + 1) = placesV ns n ++ [(Sum.inr (ns.getD n noS), V.int (n : Nat))] := by
  unfold placesV
  rw [List.range_succ, List.map_append]; rfl
theorem getD_inj {ns : List Str} (nd : ns.Nodup) {i j : Nat} (hi : i < ns.length) (hj : j < ns.length) (h : ns.getD i noS = ns.getD j noS) : i = j := by
  rw [List.getD_eq_getElem?_getD, List.getD_eq_getElem?_getD, List.getElem?_eq_getElem hi, List.getElem?_eq_getElem hj] at h
  have h2 : ns[i] = ns[j] := h
  exact (List.getElem?_inj hi nd).mp (by rw [List.getElem?_eq_getElem hi, List.getElem?_eq_getElem hj, h2])
theorem places_new {ns : List Str} (nd : ns.Nodup) {n : Nat} (h : n < ns.length) : valV (placesV ns n) (Sum.inr (ns.getD n noS)) = none := valV_none fun z => by
  obtain ⟨p, hp, e⟩ := List.mem_map.mp z
  obtain ⟨i, hi, rfl⟩ := List.mem_map.mp hp
  have hi' := List.mem_range.mp hi
  have := getD_inj nd (by omega) h (Sum.inr.inj e)
  omega
theorem places_at {ns : List Str} (nd : ns.Nodup) : ∀ n, n ≤ ns.length → ∀ i, i < n → valV (placesV ns n) (Sum.inr (ns.getD i noS)) = some (.int (i : Nat))
  | 0, _, i, h => by omega
  | n + 1, hn, i, h => by
    rw [placesV_succ, valV_snoc _ _ _ _ (places_new nd (by omega))]
    by_cases e : i = n
    · subst e; rw [if_pos rfl]
    · rw [if_neg (fun z => e (getD_inj nd (by omega) (by omega) (Sum.inr.inj z)))]
      exact places_at nd n (by omega) i (by omega)
theorem places_get {ns : List Str} (nd : ns.Nodup) (f : Str) : (valV (placesV ns ns.length) (Sum.inr f)).getD (.int (-1)) = .int (placeOf ns f) := by
  unfold placeOf
  by_cases h : f ∈ ns
  · rw [if_pos h]
    have hi := List.idxOf_lt_length_of_mem h
    have e : ns.getD (ns.idxOf f) noS = f := by
      rw [List.getD_eq_getElem?_getD, List.getElem?_eq_getElem hi]
      exact List.getElem_idxOf hi
    have := places_at nd _ (Nat.le_refl _) _ hi
    rw [e] at this
    rw [this]; rfl
  · rw [if_neg h, valV_none fun z => h ?_]
    · rfl
    · obtain ⟨p, hp, e⟩ := List.mem_map.mp z
      obtain ⟨i, hi, rfl⟩ := List.mem_map.mp hp
      have hi' := List.mem_range.mp hi
      have e2 : ns.getD i noS = f := Sum.inr.inj e
      rw [← e2, List.getD_eq_getElem?_getD, List.getElem?_eq_getElem hi']
      exact List.getElem_mem hi'
theorem rows_names (ks : List Kd) : ((rowsOf ks ks.length).map (·.1)) = (allMk ks).map (·.1) := by
  have h : ∀ (l : List Kd) (ns : List Str) (f : Nat → Nat), ((List.range l.length).flatMap fun i => kindRows ns (f i) (l.getD i (noS, []))).map (·.1) = (allMk l).map (·.1) := by
    intro l ns
    induction l with
    | nil => intro f; rfl
    | cons k l ih =>
      intro f
      rw [List.length_cons, List.range_succ_eq_map, List.flatMap_cons, List.map_append]
      unfold allMk
      rw [List.flatMap_cons, List.map_append]
      congr 1
      · unfold kindRows
        rw [List.map_map]
        show (List.range k.2.length).map (fun j => (k.2.getD j (noS, [])).1) = _
        refine List.ext_getElem? fun j => ?_
        rw [List.getElem?_map, List.getElem?_map]
        by_cases hj : j < k.2.length
        · rw [List.getElem?_range hj, List.getElem?_eq_getElem hj]
          show some (k.2.getD j (noS, [])).1 = some _
          rw [List.getD_eq_getElem?_getD, List.getElem?_eq_getElem hj]; rfl
        · rw [List.getElem?_eq_none (by simp; omega), List.getElem?_eq_none (by omega)]; rfl
      · have := ih (fun i => f (i + 1))
        unfold allMk at this
        rw [← this, List.flatMap_map]
        rfl
  exact h ks _ id
theorem rows_succ (ks : List Kd) (n : Nat) : rowsOf ks (n + 1) = rowsOf ks n ++ kindRows (ks.map (·.1)) n (ks.getD n (noS, [])) := by
  unfold rowsOf
  rw [List.range_succ, List.flatMap_append, List.flatMap_cons, List.flatMap_nil, List.append_nil]
theorem rows_prefix (ks : List Kd) (i : Nat) : ∀ n, i ≤ n → rowsOf ks i <+: rowsOf ks n
  | 0, h => by
    obtain rfl : i = 0 := by omega
    exact List.prefix_refl _
  | n + 1, h => by
    by_cases e : i = n + 1
    · rw [e]; exact List.prefix_refl _
    · exact (rows_prefix ks i n (by omega)).trans (by rw [rows_succ]; exact List.prefix_append ..)
theorem kindRows_at {ns : List Str} {i j : Nat} {kd : Kd} {m : Mk} (h : kd.2[j]? = some m) : (kindRows ns i kd)[j]? = some (mkRow ns i j m) := by
  have hj := (List.getElem?_eq_some_iff.mp h).1
  unfold kindRows
  rw [List.getElem?_map, List.getElem?_range hj]
  show some (mkRow ns i j (kd.2.getD j (noS, []))) = _
  rw [List.getD_eq_getElem?_getD, h]; rfl
theorem kindRows_length {ns : List Str} {i : Nat} {kd : Kd} : (kindRows ns i kd).length = kd.2.length := by unfold kindRows; simp
theorem ints_im {K : PySem.W.Frag} {H : Hp} : ∀ (ns : List Int), ImAll K H (ns.map V.int) (ns.map .int)
  | [] => .nil
  | n :: ns => .cons (.int n) (ints_im ns)
/-- the name of the next row is new -/
theorem row_new {ks : List Kd} (nd : ((allMk ks).map (·.1)).Nodup) {i j : Nat} {kd : Kd} {m : Mk} (hk : ks[i]? = some kd) (hm : kd.2[j]? = some m) : m.1 ∉ (rowsOf ks i ++ (kindRows (ks.map (·.1)) i kd).take j).map (·.1) := by
  have hi := (List.getElem?_eq_some_iff.mp hk).1
  have e1 : ks.getD i (noS, []) = kd := by rw [List.getD_eq_getElem?_getD, hk]; rfl
  have p1 := rows_prefix ks (i + 1) ks.length hi
  rw [rows_succ, e1] at p1
  have p2 : rowsOf ks i ++ (kindRows (ks.map (·.1)) i kd).take (j + 1) <+: rowsOf ks ks.length := by
    refine List.IsPrefix.trans ?_ p1
    obtain ⟨t, ht⟩ := List.take_prefix (j + 1) (kindRows (ks.map (·.1)) i kd)
    exact ⟨t, by rw [List.append_assoc, ht]⟩
  rw [List.take_add_one, kindRows_at hm, ← List.append_assoc] at p2
  have nd2 : ((rowsOf ks ks.length).map (·.1)).Nodup := by rw [rows_names]; exact nd
  have p3 := (List.IsPrefix.map (·.1) p2).sublist.nodup nd2
  rw [List.map_append] at p3
  intro z
  exact (List.nodup_append.mp p3).2.2 _ z _ (List.mem_singleton.mpr rfl) rfl
theorem rows_few {ks : List Kd} (h : ∀ k ∈ ks, k.2.length ≤ 6) : ∀ n, n ≤ ks.length → (rowsOf ks n).length ≤ 6 * n
  | 0, _ => Nat.le_refl _
  | n + 1, hn => by
    have := rows_few h n (by omega)
    rw [rows_succ, List.length_append, kindRows_length]
    have hk : ks.getD n (noS, []) ∈ ks := by
      rw [List.getD_eq_getElem?_getD, List.getElem?_eq_getElem (by omega)]
      exact List.getElem_mem _
    have := h _ hk
    omega
theorem TableAt.put {K : PySem.W.Frag} {H : Hp} {d T : Addr} {rs : List Row} {r : Row} {kvs : List (Key × V)} (e : H d = some (.dK kvs)) (h1 : kvs.map (·.1) = rs.map (fun r => Sum.inr r.1)) (h2 : ImAll K H (kvs.map (·.2)) (rs.map rowD)) (hn : r.1 ∉ rs.map (·.1)) (iT : Im K H (.ref T) (rowD r)) :
    TableAt K (upd H d (.dK (putK kvs (Sum.inr r.1) (.ref T)))) d (rs ++ [r]) := by
  have hv : valV kvs (Sum.inr r.1) = none := valV_none (by
    rw [h1]
    intro z
    obtain ⟨x, hx, ex⟩ := List.mem_map.mp z
    exact hn (List.mem_map.mpr ⟨x, hx, Sum.inr.inj ex⟩))
  rw [putK_new _ hv]
  have tk := tk_dK (o := .dK (kvs ++ [(Sum.inr r.1, V.ref T)])) e
  refine ⟨_, upd_same, by rw [List.map_append, List.map_append, h1]; rfl, ?_⟩
  rw [List.map_append, List.map_append]
  exact (ImAll.mono tk _ h2).snoc (Im.mono tk _ iT)
section
variable {P : Program} {w : World} {K : PySem.W.Frag} {mg : Str → Option Value} {base : Heap}
abbrev s_maker_table : Stmt := topS 33
theorem sc_maker_table : FnScope ["kinds", "places", "table", "index", "_", "makers", "at", "maker", "fields", "name", "field"] ["kinds"] (defScope s_maker_table) := ⟨rfl, rfl, rfl, by decide +kernel, rfl, by decide +kernel, by decide +kernel⟩
def sp_maker_table (K : PySem.W.Frag) : Sp := fun vs H Q _ => ∃ v ks, vs = [v] ∧ Im K H v (ksD ks) ∧ KindsOk ks ∧ ∀ d H', Same H H' → H d = none → TableAt K H' d (rowsOf ks ks.length) → Q (.ref d) H'
set_option maxHeartbeats 1000000 in
theorem ok_maker_table {f : Addr} {fd : FuncData} {k : Nat} (F : Fun K "maker_table" "maker_table" s_maker_table f fd) (T : Tx K mg) : FnOk P w K mg base CX0 (k + 1) f fd ["kinds"] (sp_maker_table K) := by
  have nd := sc_maker_table.nd
  refine F.ok sc_maker_table (fun vs H Q E h => ?_) (fun cdv A outer s H vs Q E hr h => ?_)
  · obtain ⟨_, _, rfl, _⟩ := h
    rfl
  · obtain ⟨v, ks, rfl, iv, ok, q⟩ := h
    obtain ⟨a, xs, rfl, ha, hx⟩ := iv.tuple_inv
    have lx : xs.length = ks.length := all_len hx
    have few := ok.few
    have ln : (ks.map (·.1)).length = ks.length := List.length_map ..
    refine ⟨_, (pss_cons (ps_set (i := 1) nd rfl (.inr rfl) (pe_dc (own := [("index", 3), ("name", 9), ("_", 4)]) (g := _) (tt := tYes) rfl nd (kpi_enumT K (by rfl) T.m_enumerate (pa_cons (pv 0) pa_nil)) (blkOk_by (by rfl)) (fun _ _ _ _ _ => (kpg_tup K (n := 2) rfl (pgs_cons (pg_name (i := 3) nd rfl (.inl rfl)) (pgs_cons (kpg_tup K (n := 2) rfl (pgs_cons (pg_name (i := 9) nd rfl (.inl rfl)) (pgs_cons (pg_name (i := 4) nd rfl (.inl rfl)) pgs_nil))) pgs_nil)))) (fun _ _ _ _ _ => pts_nil) (fun _ _ _ _ _ => (pv 9)) (fun _ _ _ _ _ => (pv 3))))
      (pss_cons (ps_set (i := 2) nd rfl (.inl rfl) pe_dnewK)
      (pss_cons (ps_for PassesOwn.never rfl (kpi_enumT K (by rfl) T.m_enumerate (pa_cons (pv 0) pa_nil)) (kpg_tup K (n := 2) rfl (pgs_cons (pg_name (i := 3) nd rfl (.inl rfl)) (pgs_cons (kpg_tup K (n := 2) rfl (pgs_cons (pg_name (i := 4) nd rfl (.inl rfl)) (pgs_cons (pg_name (i := 5) nd rfl (.inl rfl)) pgs_nil))) pgs_nil)))
        (pss_one (ps_for PassesOwn.never rfl (kpi_enumT K (by rfl) T.m_enumerate (pa_cons (pv 5) pa_nil)) (kpg_tup K (n := 2) rfl (pgs_cons (pg_name (i := 6) nd rfl (.inl rfl)) (pgs_cons (kpg_tup K (n := 2) rfl (pgs_cons (pg_name (i := 7) nd rfl (.inl rfl)) (pgs_cons (pg_name (i := 8) nd rfl (.inl rfl)) pgs_nil))) pgs_nil)))
          (pss_one (ps_dput (hu_of hr) (pv 2) (pv 7) (pe_tup (pa_cons (pv 3) (pa_cons (pv 6) (pa_cons (pe_callTy (kcall_tuple K) (by rfl) T.m_tuple (by decide +kernel) (pa_cons (pe_lc (own := [("field", 10)]) (g := gName 10) (tt := tYes) rfl nd (kpi_tup K (pv 8)) (blkOk_by (by rfl)) (fun _ _ _ _ _ => (pg_name (i := 10) nd rfl (.inl rfl))) (fun _ _ _ _ _ => pts_nil) (fun _ _ _ _ _ => (pe_dget2 (hu_of hr) (pv 1) (pv 10) (pe_gv rfl T.g_NUMBER) ⟨rfl, rfl, rfl, rfl⟩))) pa_nil)) pa_nil)))) rfl)))))
      (pss_one (ps_ret (pv 2)))))), ?_⟩
    refine ⟨.ref a, rfl, a, xs, rfl, ha.sq, fun d0 hd0 => ?_⟩
    refine dc_all (walk_enumT (xs := xs)) (fun i Hx => Same H Hx ∧ Hx d0 = some (.dK (placesV (ks.map (·.1)) i))) ⟨same_new hd0, upd_same⟩ (fun i Hx _ z => (ha.mono (tk_same z.1)).sq) (fun i x Hx Hy hi z y => ?_) (fun H1 z => ?_)
    · obtain ⟨sm, eD⟩ := z
      obtain ⟨T, x1, x2, rfl, hT, rfl, e1, e2⟩ := y
      obtain rfl := Option.some.inj e1
      obtain ⟨kd, hkd, ikd⟩ := all_get (ImAll.mono (tk_same sm) _ hx) e2
      obtain ⟨pk, u1, u2, rfl, hpk, iu1, iu2⟩ := im_pair ikd
      obtain rfl := iu1.str_inv
      have sT := same_new (o := .tup [.int (i : Nat), .ref pk]) hT
      have en : (ks.map (·.1)).getD i noS = kd.1 := by
        rw [List.getD_eq_getElem?_getD, List.getElem?_map, hkd]; rfl
      refine ⟨T, _, rfl, .of upd_same, rfl, .int (i : Nat), _, rfl, .ref pk, _, rfl, pk, _, rfl, (hpk.mono (tk_same sT)).sq, rfl, .str kd.1, _, rfl, u2, _, rfl, rfl, rfl, rfl, .str kd.1, rfl, .int (i : Nat), rfl, placesV (ks.map (·.1)) i, Sum.inr kd.1, rfl, sT _ _ eD, small1000 (by unfold placesV; rw [List.length_map, List.length_range]; omega), fun b o e => ?_, ?_⟩
      · rw [upd_ne (ne_of_none e hd0)]; exact sT _ _ (sm _ _ e)
      · rw [upd_same, placesV_succ, en]
        congr 2
        exact putK_new _ (by rw [← en]; exact places_new ok.nd (by omega))
    · obtain ⟨sm1, e0⟩ := z
      rw [lx] at e0
      refine fun d2 hd2 => ?_
      have n02 : d0 ≠ d2 := ne_of_none e0 hd2
      have s2 : Same H1 (upd H1 d2 (.dK [])) := same_new hd2
      have e2 : (upd H1 d2 (.dK [])) d2 = some (.dK []) := upd_same
      have e02 := s2 _ _ e0
      have sm2 := sm1.trans s2
      have hd20 : H d2 = none := sm1.free hd2
      generalize upd H1 d2 (.dK []) = H2 at *
      refine ⟨.ref a, rfl, a, xs, rfl, (ha.mono (tk_same sm2)).sq, ?_⟩
      refine for_it (walk_enumT (xs := xs)) (fun i σ Ha => ∃ (y3 y4 y5 y6 y7 y8 : Option V), σ = [some (.ref a), some (.ref d0), some (.ref d2), y3, y4, y5, y6, y7, y8, none, none] ∧ Same H Ha ∧ Ha d0 = some (.dK (placesV (ks.map (·.1)) ks.length)) ∧ TableAt K Ha d2 (rowsOf ks i)) ⟨_, _, _, _, _, _, rfl, sm2, e02, [], e2, rfl, .nil⟩ (fun i σ Ha _ z => ?_) ?_ ?_
      · obtain ⟨_, _, _, _, _, _, _, sm, _⟩ := z
        exact (ha.mono (tk_same sm)).sq
      · rintro i x σ Ha Hb hi ⟨y3, y4, y5, y6, y7, y8, rfl, sm, ed0, tb⟩ ⟨T, x1, x2, rfl, hT, rfl, e1, ex⟩
        obtain rfl := Option.some.inj e1
        obtain ⟨kd, hkd, ikd⟩ := all_get (ImAll.mono (tk_same sm) _ hx) ex
        have kmem := List.mem_of_getElem? hkd
        obtain ⟨pk, u1, u2, rfl, hpk, iu1, iu2⟩ := im_pair ikd
        obtain rfl := iu1.str_inv
        obtain ⟨pm, us, rfl, hpm, ius⟩ := iu2.tuple_inv
        have lus : us.length = kd.2.length := all_len ius
        have sT := same_new (o := .tup [.int (i : Nat), .ref pk]) hT
        refine ⟨T, _, rfl, .of upd_same, rfl, .int (i : Nat), _, rfl, .ref pk, _, rfl, pk, _, rfl, (hpk.mono (tk_same sT)).sq, rfl, .str kd.1, _, rfl, .ref pm, _, rfl, rfl, rfl, ?_⟩
        have hpmT := hpm.mono (tk_same sT)
        have iusT := ImAll.mono (tk_same sT) _ ius
        have smT := sm.trans sT
        have edT := sT _ _ ed0
        have tbT := tb.same sT
        generalize upd Ha T (.tup [.int (i : Nat), .ref pk]) = H3 at *
        refine ⟨.ref pm, rfl, pm, us, rfl, hpmT.sq, ?_⟩
        refine for_it (walk_enumT (xs := us)) (fun j σ Hb => ∃ (y6 y7 y8 : Option V), σ = [some (.ref a), some (.ref d0), some (.ref d2), some (.int (i : Nat)), some (.str kd.1), some (.ref pm), y6, y7, y8, none, none] ∧ Same H Hb ∧ ITup K Hb pm us ∧ ImAll K Hb us (kd.2.map mkD) ∧ Hb d0 = some (.dK (placesV (ks.map (·.1)) ks.length)) ∧ TableAt K Hb d2 (rowsOf ks i ++ (kindRows (ks.map (·.1)) i kd).take j)) ⟨_, _, _, rfl, smT, hpmT, iusT, edT, by rw [List.take_zero, List.append_nil]; exact tbT⟩ (fun j σ Hb _ z => ?_) ?_ ?_
        · obtain ⟨_, _, _, _, _, hp, _⟩ := z
          exact hp.sq
        · rintro j x σ Hb Hc hj ⟨y6, y7, y8, rfl, smb, hpmb, iub, edb, tbb⟩ ⟨T2, x1, x2, rfl, hT2, rfl, e1, ex⟩
          obtain rfl := Option.some.inj e1
          obtain ⟨m, hm, imm⟩ := all_get iub ex
          have mmem := List.mem_of_getElem? hm
          obtain ⟨pp, u1, u2, rfl, hpp, iu1, iu2⟩ := im_pair imm
          obtain rfl := iu1.str_inv
          obtain ⟨pf, fs, rfl, hpf, ifs⟩ := iu2.tuple_inv
          have efs := im_strs ifs
          have l4 := (ok.mkk _ kmem _ mmem).2
          have sT2 := same_new (o := .tup [.int (j : Nat), .ref pp]) hT2
          refine ⟨T2, _, rfl, .of upd_same, rfl, .int (j : Nat), _, rfl, .ref pp, _, rfl, pp, _, rfl, (hpp.mono (tk_same sT2)).sq, rfl, .str m.1, _, rfl, .ref pf, _, rfl, rfl, rfl, ?_⟩
          have hpf2 := hpf.mono (tk_same sT2)
          have smc := smb.trans sT2
          have edc := sT2 _ _ edb
          have tbc := tbb.same sT2
          have hpmc := hpmb.mono (tk_same sT2)
          have iuc := ImAll.mono (tk_same sT2) _ iub
          generalize upd Hb T2 (.tup [.int (j : Nat), .ref pp]) = H4 at *
          refine ⟨.int (i : Nat), rfl, .int (j : Nat), rfl, .ref pf, rfl, pf, rfl, ⟨_, hpf2.sq⟩, fun D hD => ?_⟩
          refine lc_all (walk_tup (xs := fs)) (fun t Hx => Same H4 Hx ∧ Hx D = some (.lst (((m.2.take t).map (placeOf (ks.map (·.1)))).map V.int))) ⟨same_new hD, upd_same⟩ (fun t Hx _ z => (hpf2.mono (tk_same z.1)).sq) (fun t x Hx Hy ht z y => ?_) (fun Hx z => ?_)
          · obtain ⟨s5, eD⟩ := z
            obtain ⟨rfl, hxt⟩ := y
            rw [efs] at hxt ht
            rw [List.length_map] at ht
            rw [List.getElem?_map] at hxt
            obtain ⟨f, hf, rfl⟩ := Option.map_eq_some_iff.mp hxt
            have ed5 := s5 _ _ edc
            refine ⟨rfl, .ref d0, rfl, d0, rfl, .inl ⟨_, .inl ed5⟩, .str f, rfl, _, .k (k := Sum.inr f) ed5, ?_⟩
            have pg := places_get ok.nd f
            rw [ln] at pg
            rw [pg]
            refine ⟨_, eD, small1000 (by rw [List.length_map, List.length_map, List.length_take]; omega), fun b o e => ?_, ?_⟩
            · rw [upd_ne (ne_of_none e hD)]; exact s5 _ _ e
            · rw [upd_same, List.take_add_one, hf, List.map_append, List.map_append]; rfl
          · obtain ⟨s5, eD⟩ := z
            rw [efs, List.length_map, List.take_of_length_le (Nat.le_refl _)] at eD
            refine ⟨D, _, rfl, .inl ⟨.of eD, fun l hl => ⟨by show 3 ≤ sizeLine; decide, fun T3 hT3 => ?_⟩⟩⟩
            have s6 := same_new (o := .tup ((m.2.map (placeOf (ks.map (·.1)))).map V.int)) hl
            have il : Im K (upd Hx l (.tup ((m.2.map (placeOf (ks.map (·.1)))).map V.int))) (.ref l) (.tuple ((m.2.map (placeOf (ks.map (·.1)))).map .int)) := .tup (.inl upd_same) (ints_im _)
            generalize upd Hx l (.tup ((m.2.map (placeOf (ks.map (·.1)))).map V.int)) = H6 at *
            have s7 := same_new (o := .tup [.int (i : Nat), .int (j : Nat), .ref l]) hT3
            have iT3 : Im K (upd H6 T3 (.tup [.int (i : Nat), .int (j : Nat), .ref l])) (.ref T3) (rowD (mkRow (ks.map (·.1)) i j m)) := .tup (.inl upd_same) (.cons (.int _) (.cons (.int _) (.cons (Im.mono (tk_same s7) _ il) .nil)))
            generalize upd H6 T3 (.tup [.int (i : Nat), .int (j : Nat), .ref l]) = H7 at *
            have s47 := (s5.trans s6).trans s7
            obtain ⟨kvs, ek, h1, h2⟩ := tbc.same s47
            have few2 := rows_few (fun k hk => (ok.mks k hk).2) i (by omega)
            have lk : kvs.length ≤ 100 := by
              have := congrArg List.length h1
              rw [List.length_map, List.length_map, List.length_append, List.length_take, kindRows_length] at this
              have := (ok.mks _ kmem).2
              omega
            refine ⟨.ref d2, rfl, .str m.1, rfl, d2, _, rfl, .k (k := Sum.inr m.1) ek (small1000 (by omega)), ?_⟩
            refine ⟨_, _, _, rfl, fun b o e => ?_, (hpmc.mono (tk_same s47)).mono (tk_dK ek), ImAll.mono ((tk_same s47).trans (tk_dK ek)) _ iuc, ?_, ?_⟩
            · rw [upd_ne (ne_of_none e hd20)]
              exact s47 _ _ (smc _ _ e)
            · rw [upd_ne n02]; exact s47 _ _ edc
            · rw [List.take_add_one, kindRows_at hm, ← List.append_assoc]
              exact TableAt.put (r := mkRow (ks.map (·.1)) i j m) ek h1 h2 (row_new ok.ndm hkd hm) iT3
        · rintro σ Hb ⟨y6, y7, y8, rfl, smb, hpmb, iub, edb, tbb⟩
          refine ⟨_, _, _, _, _, _, rfl, smb, edb, ?_⟩
          rw [rows_succ, show ks.getD i (noS, []) = kd by rw [List.getD_eq_getElem?_getD, hkd]; rfl]
          rw [lus, List.take_of_length_le (by rw [kindRows_length]; exact Nat.le_refl _)] at tbb
          exact tbb
      · rintro σ Ha ⟨y3, y4, y5, y6, y7, y8, rfl, sm, ed0, tb⟩
        rw [lx] at tb
        exact ⟨.ref d2, rfl, q d2 Ha sm hd20 tb⟩
end
end K63

set_option Elab.async false
set_option linter.all false
set_option maxRecDepth 100000
/-! several except clauses, with and without a name; defs that raise, by name -/
namespace Ly
open PySem PySem.Spec PyProof.Rows L2
abbrev Clause := Value × Option Nat × (Addr → Value → Option Addr → TS)
/-- what a clause's suite is read with -/
def endsAs (i : Nat) (D : Ends) : Ends := { nx := fun σ' H' => D.nx (σ'.set i none) H', rt := D.rt, bk := fun σ' H' => D.bk (σ'.set i none) H', ct := fun σ' H' => D.ct (σ'.set i none) H' }
def wL (K : PySem.W.Frag) (Wout : WX) (D : Ends) : List Clause → WX
  | [] => Wout
  | (c, none, ts) :: r => fun cls d σ H => ∃ b, PySem.W.exmOne K cls c = some b ∧ (b = true → ∀ a, H a = none → ts a cls d D σ H) ∧ (b = false → wL K Wout D r cls d σ H)
  | (c, some i, ts) :: r => fun cls d σ H => ∃ b, PySem.W.exmOne K cls c = some b ∧ (b = true → ∀ a, H a = none → ts a cls d (endsAs i D) (σ.set i (some (.ref a))) H) ∧ (b = false → wL K Wout D r cls d σ H)
inductive HdL (X : Cx) : List ExceptHandler → List Clause → Prop
  | nil : HdL X [] []
  | cons {x : Str} {c : Value} {ts : Addr → Value → Option Addr → TS} {b₀ : Stmt} {suite : List Stmt} {np pos' : Pos} {hds : List ExceptHandler} {l : List Clause} (hc : Names X x c)
      (hsu : ∀ (a : Addr) (oe : Obj) (cls : Value) (d : Option Addr) (pn : List (Addr × Obj)), Zc cls d oe → (∃ vs, oe.data = .fields vs) → PSs (X.suite a ((a, oe) :: pn)) (b₀ :: suite) (ts a cls d)) (r : HdL X hds l) :
      HdL X (.ExceptHandler (some (.Name x np)) none (b₀ :: suite) pos' :: hds) ((c, none, ts) :: l)
  | as {x n : Str} {i : Nat} {c : Value} {ts : Addr → Value → Option Addr → TS} {b₀ : Stmt} {suite : List Stmt} {np pos' : Pos} {hds : List ExceptHandler} {l : List Clause} (hN : X.N.Nodup) (hi : X.N[i]? = some n) (hln : X.env.kindOf n = some .local) (hc : Names X x c)
      (hsu : ∀ (a : Addr) (oe : Obj) (cls : Value) (d : Option Addr) (pn : List (Addr × Obj)), Zc cls d oe → (∃ vs, oe.data = .fields vs) → PSs (X.suite a ((a, oe) :: pn)) (b₀ :: suite) (ts a cls d)) (r : HdL X hds l) :
      HdL X (.ExceptHandler (some (.Name x np)) (some n) (b₀ :: suite) pos' :: hds) ((c, some i, ts) :: l)
section
variable {X : Cx} {body : List Stmt} {h₀ : ExceptHandler} {hds : List ExceptHandler} {l : List Clause} {pos : Pos} {tb : WX → TS} {Wout : WX}
theorem ps_try_list (hs : X.stack = X.env :: X.outer) (hf : X.env.frame = some X.env.locals) (tk : Takes X Wout)
    (hb : ∀ (W : WX) (pn : List (Addr × Obj)) (xe : Value → Shared → Prop), Takes (X.tr pn xe) W → PassesOwn (model X.prog X.w) X.A X.env xe → PSs (X.tr pn xe) body (tb W))
    (hh : HdL X (h₀ :: hds) l) : PS X (.Try body (h₀ :: hds) [] [] pos) (fun D σ H => tb (wL X.K Wout D l) D σ H) := by
  refine ⟨fun pins s σ H D I h => ?_⟩
  have ok := I.ok
  have hfr : X.A.frames = some (X.env :: X.outer) := by rw [ok.frames, hs]
  refine wpAny_Try_except ?_
  refine wpAny_mono ((hb (wL X.K Wout D l) (X.pn ++ pins) (fun e s₁ => wpAny (model X.prog X.w) X.A (noteFrame e X.env) (fun _ s₂ => wpAny (model X.prog X.w) X.A (setFlight e none) (fun _ s₃ =>
    wpAny (model X.prog X.w) X.A (handleBy e X.env (h₀ :: hds)) (SP X pins D) X.xe s₃) X.xe s₂) X.xe s₁) (fun u s' xx => ?_) PassesOwn.looking).run [] s σ H D (I.toTry _) h) (fun f s1 hsp => ?_) (fun e s1 he => he)
  · obtain ⟨a, B, sI, pins', σ', H', cls, d, rfl, J', nb, up, sky, na, os, ag, w⟩ := xx
    have J : Inv X pins σ' H' sI := J'.ofTry ok
    have sky' : Sky B (X.env :: X.outer) a (Zc cls d) X.env.locals s'.heap := by rw [← hs]; exact sky
    show wpAny (model X.prog X.w) X.A (noteFrame (.ref a) X.env) _ _ _
    refine Sky.land Zc.steady hfr hf sky' fun h3 fl3 up3 => ?_
    have J3 : Inv X pins σ' H' { s' with heap := h3 } := J.landed nb fl3.1 (up.trans up3) os ag
    obtain ⟨oe3, vs3, he3, hz3, hd3⟩ := fl3.there
    have notFr : ∀ {h : Heap} {o : Obj} {vs : Array Value}, h.FunFrames B (X.env :: X.outer) → h.get? a = some o → o.data = .fields vs → a ∉ frs (X.env :: X.outer) := fun {h o vs} ff e dd hm => by
      obtain ⟨_, o', e', hnf⟩ := ff.mem hm
      rw [e] at e'; cases e'
      exact hnf _ dd
    have nfr := notFr fl3.2.2.1 he3 hd3
    have nL : a ≠ X.env.locals := fun z => nfr (List.mem_filterMap.mpr ⟨X.env, List.mem_cons_self, by rw [hf, z]⟩)
    have nF : a ∉ X.fs := fun hm => by
      obtain ⟨e, he, q⟩ := List.mem_filterMap.mp hm
      exact nfr (List.mem_filterMap.mpr ⟨e, List.mem_cons_of_mem _ he, q⟩)
    have S3 := J3.suite he3 hd3 na nL nF
    have LT : PySem.W.Looks (model X.prog X.w) h3 (typeOf (.ref a)) cls := fun A Q E s k q => wpAny_typeOf_ref (k _ _ he3) (by rw [hz3.1]; exact q)
    have test : ∀ {x : Str} {c : Value} {np : Pos} {Q : Value → Shared → Prop} {E : Value → Shared → Prop}, Names X x c → Q c { s' with heap := h3 } → wpAny (model X.prog X.w) (X.A.mark (some (.ref a))) (eval (.Name x np) X.env) Q E { s' with heap := h3 } := fun {x c np Q E} hc q => by
      obtain ⟨hg, hdbg, hm | ⟨hm, hv, hnn⟩⟩ := hc
      · exact ld_glob (X := X.suite a ((a, oe3) :: (X.pn ++ pins))) S3 hg hm q hdbg
      · exact ld_blt (X := X.suite a ((a, oe3) :: (X.pn ++ pins))) S3 hg hm hv q hnn hdbg
    have go : ∀ {hds' : List ExceptHandler} {l' : List Clause}, HdL X hds' l' → wL X.K Wout D l' cls d σ' H' →
        wpAny (model X.prog X.w) X.A (handleBy (.ref a) X.env hds') (SP X pins D) X.xe { s' with heap := h3 } := by
      intro hds' l' hk
      induction hk with
      | nil =>
        intro w
        refine wpAny_handleBy_nil ?_
        obtain ⟨k1, k2, k3, oe, vs, T, oT, ts', he, hz, hd, h1, hr⟩ := id fl3
        unfold PySem.passOn
        refine wpAny_bind (wpAny_field he hd h1 ?_)
        rw [if_neg (show ¬ ((Value.ref T == Value.none) = true) from by simp)]
        have fin : wpAny (model X.prog X.w) X.A (setFlight (.ref a) X.env.frame) (fun _ s4 => wpAny (model X.prog X.w) X.A (throw (.ref a) : Sem Flow) (SP X pins D) X.xe s4) X.xe { s' with heap := h3 } := by
          rw [hf]
          refine HandSPX.setFlight_upZ fl3 fun h4 hh4 up4 => wpAny_throw (tk _ _ ?_)
          exact ⟨a, B, sI, pins, σ', H', cls, d, rfl, J, nb, (up.trans up3).trans up4, .inr (.inr (by rw [hs]; exact hh4)), na, os, ag, w⟩
        first
          | exact wpAny_bind (wpAny_pure (wpAny_bind fin))
          | exact wpAny_bind fin
      | @cons x c ts b₀ suite np pos' hds2 l2 hc hsu r ih =>
        intro w
        obtain ⟨b, hb1, hyes, hno⟩ := w
        refine wpAny_handleBy_cons (codeAny_handlers_test ?_) (by intro q; cases q)
        have LM := PySem.W.exm_one (M := model X.prog X.w) (J3.kIn) LT hb1
        refine test hc (LM.here ?_)
        cases b with
        | true =>
          refine codeAny_handlers_suite ?_
          refine HandSPX.lands_againZ fl3 fun h4 fl4 up4 => ?_
          have J4 : Inv X pins σ' H' { s' with heap := h4 } := J.landed nb fl4.1 ((up.trans up3).trans up4) os ag
          obtain ⟨oe4, vs4, he4, hz4, hd4⟩ := fl4.there
          have S4 := J4.suite he4 hd4 na nL nF
          refine wpAny_mono ((hsu a oe4 cls d (X.pn ++ pins) hz4 ⟨_, hd4⟩).run [] _ _ H' _ S4 (hyes rfl a na)) (fun f s6 hsp => ?_) (fun _ _ z => False.elim z)
          cases f with
          | next =>
            obtain ⟨σ6, H6, S6, q6⟩ := hsp
            exact ⟨_, _, S6.unsuite ok, q6⟩
          | brk =>
            obtain ⟨σ6, H6, S6, q6⟩ := hsp
            exact ⟨_, _, S6.unsuite ok, q6⟩
          | cont =>
            obtain ⟨σ6, H6, S6, q6⟩ := hsp
            exact ⟨_, _, S6.unsuite ok, q6⟩
          | ret u =>
            obtain ⟨v6, σ6, H6, S6, r6, q6⟩ := hsp
            exact ⟨_, _, _, S6.unsuite ok, r6, q6⟩
        | false =>
          show wpAny _ X.A (handleBy (.ref a) X.env hds2) _ _ _
          exact ih (hno rfl)
      | @as x n i c ts b₀ suite np pos' hds2 l2 hN hi hln hc hsu r ih =>
        intro w
        obtain ⟨b, hb1, hyes, hno⟩ := w
        have hloc : Loc X.env.scope n := .inl hln
        refine wpAny_handleBy_cons (codeAny_handlers_test ?_) (by intro q; cases q)
        have LM := PySem.W.exm_one (M := model X.prog X.w) (J3.kIn) LT hb1
        refine test hc (LM.here ?_)
        cases b with
        | true =>
          refine codeAny_handlers_suite_as ?_
          refine HandSPX.lands_againZ fl3 fun h4 fl4 up4 => ?_
          have J4 : Inv X pins σ' H' { s' with heap := h4 } := J.landed nb fl4.1 ((up.trans up3).trans up4) os ag
          obtain ⟨oe4, vs4, he4, hz4, hd4⟩ := fl4.there
          have S4 := J4.suite he4 hd4 na nL nF
          refine store_ok (X := X.suite a ((a, oe4) :: (X.pn ++ pins))) (v := .ref a) S4 hN hi hloc rfl (fun s5 S5 => ?_) (.inr hln)
          refine wpAny_mono ((hsu a oe4 cls d (X.pn ++ pins) hz4 ⟨_, hd4⟩).run [] s5 _ H' _ S5 (hyes rfl a na)) (fun f s6 hsp => ?_) (fun _ _ z => False.elim z)
          have end_ : ∀ {σ6 : L2.St} {H6 : Hp} {Q : Shared → Prop}, Inv (X.suite a ((a, oe4) :: (X.pn ++ pins))) [] σ6 H6 s6 → (∀ s7, Inv X pins (σ6.set i none) H6 s7 → Q s7) →
              wpAny (model X.prog X.w) X.A (do bindName X.env n .none; unbindBehindTheSuite X.env n pos') (fun _ s7 => Q s7) X.xe s6 := fun {σ6 H6 Q} S6 hq => gone_ok (S6.unsuite ok) hN hi hln hq
          cases f with
          | next =>
            obtain ⟨σ6, H6, S6, q6⟩ := hsp
            exact end_ S6 fun s7 J7 => ⟨_, _, J7, q6⟩
          | brk =>
            obtain ⟨σ6, H6, S6, q6⟩ := hsp
            exact end_ S6 fun s7 J7 => ⟨_, _, J7, q6⟩
          | cont =>
            obtain ⟨σ6, H6, S6, q6⟩ := hsp
            exact end_ S6 fun s7 J7 => ⟨_, _, J7, q6⟩
          | ret u =>
            obtain ⟨v6, σ6, H6, S6, r6, q6⟩ := hsp
            exact end_ S6 fun s7 J7 => ⟨_, _, _, J7, r6, q6⟩
        | false =>
          show wpAny _ X.A (handleBy (.ref a) X.env hds2) _ _ _
          exact ih (hno rfl)
    exact go hh w
  · cases f with
    | next =>
      obtain ⟨σ', H', J', q⟩ := hsp
      exact wpAny_execs_nil ⟨σ', H', J'.ofTry ok, q⟩
    | brk =>
      obtain ⟨σ', H', J', q⟩ := hsp
      exact ⟨σ', H', J'.ofTry ok, q⟩
    | cont =>
      obtain ⟨σ', H', J', q⟩ := hsp
      exact ⟨σ', H', J'.ofTry ok, q⟩
    | ret u =>
      obtain ⟨v, σ', H', J', r, q⟩ := hsp
      exact ⟨v, σ', H', J'.ofTry ok, r, q⟩
end
/-! ### defs that raise, by their names -/
section
variable (P : Program) (w : World) (K : PySem.W.Frag) (mg : Str → Option Value) (base : Heap)
structure DefX (k : Nat) (x : Str) (st : Stmt) (ps : List Str) (sp : Sp) : Prop where
  ex : ∃ (f : Addr) (fd : FuncData), FnOk P w K mg base (L2.CX P w) k f fd ps sp ∧ mg x = some (.ref f) ∧ PySem.W.keepIn K (.ref f) = true ∧ L2.Binds K fd ps [] ∧ Fun K x x st f fd
end
section
variable {X : Cx} {k : Nat} {x : Str} {st : Stmt} {ps : List Str} {sp : Sp} {p pos : Pos} {e : Expr} {es : List Expr} {t : TA} {W : WX}
theorem pe_defX (O : DefX X.prog X.w X.K X.mg X.base k x st ps sp) (tk : Takes X W) (hr : Room k X.A) (hg : Gl X x) (ha : PA X (e :: es) t) (hdb : (x == ("__debug__" : Str)) = false := by decide)
    (he : starEach (e :: es) X.env = (false, eval e X.env) :: starEach es X.env := by rfl) (hpl : (backTo pos (starEach es X.env)).any (·.1) = false := by rfl) :
    PE X (.Call (.Name x p) (e :: es) [] pos) (tCallS sp (WE W) t) := by
  obtain ⟨f, fd, F, hm, hk, hb, _⟩ := O.ex
  exact pe_callS F hr hg hm hk hb (fun σ => passAt tk σ) ha hdb he hpl
end
section
variable {P : Program} {w : World} {K : PySem.W.Frag} {mg : Str → Option Value} {base : Heap}
theorem Here.toDefX {x : Str} {st : Stmt} {k : Nat} {ps : List Str} {sp : Sp} (z : Here K mg x st) (ok : ∀ {f : Addr} {fd : FuncData}, Fun K x x st f fd → FnOk P w K mg base (L2.CX P w) k f fd ps sp)
    (b : ∀ (kV doc pm : Value) (an : Option Addr) (cdv ct : Value) (us : List Value), us.length = ps.length → bindArgs (PySem.W.fnOf x x (defArgs st) (defBody st) (defScope st) .none kV doc pm an cdv ct) ⟨us, []⟩ = pure (ps.zip us)) : DefX P w K mg base k x st ps sp := by
  obtain ⟨f, fd, hm, F⟩ := z
  exact ⟨f, fd, ok F, hm, F.kp, F.binds b, F⟩
end
section
variable {K : PySem.W.Frag}
/-- isinstance of the error that the suite holds -/
def rIsX (K : PySem.W.Frag) (cls : Value) (d : Option Addr) (a : Addr) : List V → Hp → VK → Prop := fun xs H Q => ∃ (D : Addr) (c : V) (cv : Value) (b : Bool), cls = .ref D ∧ d = none ∧ ExcC K D ∧ xs = [.ref a, c] ∧ (∀ u, RelV c u → u = cv) ∧ PySem.W.kitOne K (.ref D) cv = some b ∧ Q (.bl b) H
theorem call_isX {X : Cx} {a : Addr} {cls : Value} {d : Option Addr} {oe : Obj} {pn : List (Addr × Obj)} (hz : Zc cls d oe) (hf : ∃ vs, oe.data = .fields vs) : CallR (X.suite a ((a, oe) :: pn)) (.builtin "isinstance") (rIsX X.K cls d a) := by
  intro pins s σ H xs us Q I r h
  obtain ⟨D, c, cv, b, rfl, rfl, E, h⟩ := h
  exact call_isE E hz hf pins s σ H xs us Q I r ⟨c, cv, b, h⟩
end
end Ly

set_option Elab.async false
set_option linter.all false
set_option maxRecDepth 100000
set_option exponentiation.threshold 20000
set_option pp.deepTerms false
set_option pp.deepTerms.threshold 8
namespace K63
open PySem PySem.Spec PyProof.Rows L2 Ly Mt
theorem divInt_flip (t b : Int) : Rat.divInt (-t) (-b) = Rat.divInt t b := by
  rw [Rat.neg_divInt_neg]
section
variable {P : Program} {w : World} {K : PySem.W.Frag} {mg : Str → Option Value} {base : Heap}
abbrev s_made : Stmt := topS 24
theorem sc_made : FnScope ["top", "bottom", "common"] ["top", "bottom"] (defScope s_made) := ⟨rfl, rfl, rfl, by decide +kernel, rfl, by decide +kernel, by decide +kernel⟩
def sp_made : Sp := fun vs H Q _ => ∃ t b, vs = [.int t, .int b] ∧ b ≠ 0 ∧ b.natAbs < 2 ^ 9000 ∧ ∀ p, H p = none → Q (.ref p) (upd H p (.tup [.int (Rat.divInt t b).num, .int ((Rat.divInt t b).den : Int)]))
theorem ok_made {f : Addr} {fd : FuncData} {k : Nat} (F : Fun K "made" "made" s_made f fd) (T : Tx K mg) : FnOk P w K mg base CX0 (k + 1) f fd ["top", "bottom"] sp_made := by
  have nd := sc_made.nd
  refine F.ok sc_made (fun vs H Q E h => ?_) (fun cdv A outer s H vs Q E hr h => ?_)
  · obtain ⟨i, xs, rfl, _⟩ := h
    rfl
  · obtain ⟨t, b, rfl, hb, hs, q⟩ := h
    refine ⟨_, (C8.pss_cut (ps_if (pt_cmpR op_lt (pv 1) pe_int (nomark _))
        (pss_one (ps_par (i := 0) (j := 1) (by rfl) nd rfl rfl (by decide) rfl rfl (pa_cons (pe_un un_neg (pv 0)) (pa_cons (pe_un un_neg (pv 1)) pa_nil)) (by rfl)))
        pss_nil)
      (pss_cons (ps_set (i := 2) nd rfl (.inl rfl) (pe_callBfun cr_gcd (by rfl) T.g_gcd (pa_cons (pv 0) (pa_cons (pv 1) pa_nil))))
      (pss_one (ps_ret (pe_tup (pa_cons (pe_op op_fdivW (pv 0) (pv 2)) (pa_cons (pe_op op_fdivW (pv 1) (pv 2)) pa_nil))))))), ?_⟩
    refine ⟨fun σ' H' => H' = H ∧ ∃ t' b', σ' = [some (.int t'), some (.int b'), none] ∧ 0 < b' ∧ b'.natAbs < 2 ^ 9000 ∧ Rat.divInt t' b' = Rat.divInt t b, ?_, ?_⟩
    · refine ⟨.int b, rfl, _, _, rfl, rfl, _, rfl, ?_⟩
      by_cases h0 : b < 0
      · rw [decide_eq_true h0]
        exact iteT ⟨.int t, rfl, t, rfl, .int b, rfl, b, rfl, _, _, rfl, rfl, -t, -b, rfl, by omega, by rw [Int.natAbs_neg]; exact hs, divInt_flip t b⟩
      · rw [decide_eq_false h0]
        exact iteF ⟨rfl, t, b, rfl, by omega, hs, rfl⟩
    · rintro σ' H' ⟨rfl, t', b', rfl, hb', hs', e⟩
      refine ⟨.int t', rfl, .int b', rfl, t', b', rfl, ?_⟩
      have c := wide_div (i := t') (gcd_pos (t := t') hb') (Nat.lt_of_le_of_lt (gcd_le hb') hs') (by decide) (Nat.le_refl _)
      have c' := wide_div (i := b') (gcd_pos (t := t') hb') (Nat.lt_of_le_of_lt (gcd_le hb') hs') (by decide) (Nat.le_refl _)
      refine ⟨.int t', rfl, .int _, rfl, _, _, rfl, rfl, c, .int b', rfl, .int _, rfl, _, _, rfl, rfl, c', by show 2 ≤ sizeLine; decide, fun p hp => ?_⟩
      have z := q p hp
      rw [← e, ← made_num hb', ← made_den hb'] at z
      exact z
abbrev s_plus : Stmt := topS 26
theorem sc_plus : FnScope ["one", "other"] ["one", "other"] (defScope s_plus) := ⟨rfl, rfl, rfl, by decide +kernel, rfl, by decide +kernel, by decide +kernel⟩
def sp_plus (K : PySem.W.Frag) : Sp := fun vs H Q _ => ∃ v u x y, vs = [v, u] ∧ Im K H v (rD x) ∧ Im K H u (rD y) ∧ Bd 29000 2900 x ∧ Bd 58000 5800 y ∧ ∀ p H', Same H H' → H p = none → Im K H' (.ref p) (rD (x + y)) → Q (.ref p) H'
theorem ok_plus {f : Addr} {fd : FuncData} {k : Nat} (F : Fun K "plus" "plus" s_plus f fd) (T : Tx K mg){ki : Nat} (D_made : Def P w K mg base ki "made" s_made ["top", "bottom"] sp_made) (hk : ki ≤ k) : FnOk P w K mg base CX0 (k + 1) f fd ["one", "other"] (sp_plus K) := by
  have nd := sc_plus.nd
  refine F.ok sc_plus (fun vs H Q E h => ?_) (fun cdv A outer s H vs Q E hr h => ?_)
  · obtain ⟨i, xs, _, _, rfl, _⟩ := h
    rfl
  · obtain ⟨v, u, x, y, rfl, hv, hu, bx, bw, q⟩ := h
    obtain ⟨a, rfl, ha⟩ := rat_inv hv
    obtain ⟨b, rfl, hb⟩ := rat_inv hu
    refine ⟨_, (pss_one (ps_ret (pe_def D_made (hr.mono (by omega)) rfl (pa_cons (pe_op op_add (pe_op op_mulW (pe_ix (kix_tup K) (pv 0) pe_int (fun _ _ => rfl)) (pe_ix (kix_tup K) (pv 1) pe_int (fun _ _ => rfl))) (pe_op op_mulW (pe_ix (kix_tup K) (pv 1) pe_int (fun _ _ => rfl)) (pe_ix (kix_tup K) (pv 0) pe_int (fun _ _ => rfl)))) (pa_cons (pe_op op_mulW (pe_ix (kix_tup K) (pv 0) pe_int (fun _ _ => rfl)) (pe_ix (kix_tup K) (pv 1) pe_int (fun _ _ => rfl))) pa_nil))))), ?_⟩
    refine ⟨.ref a, rfl, a, _, 0, _, rfl, rfl, ha.sq, atI_nat (j := 0) rfl, .ref b, rfl, b, _, 1, _, rfl, rfl, hb.sq, atI_nat (j := 1) rfl, _, _, rfl, rfl, wide_mul bx.1 bw.2 (by decide) (by decide) (by decide), ?_⟩
    refine ⟨.ref b, rfl, b, _, 0, _, rfl, rfl, hb.sq, atI_nat (j := 0) rfl, .ref a, rfl, a, _, 1, _, rfl, rfl, ha.sq, atI_nat (j := 1) rfl, _, _, rfl, rfl, wide_mul bw.1 bx.2 (by decide) (by decide) (by decide), ?_⟩
    refine ⟨_, _, rfl, rfl, ?_⟩
    refine ⟨.ref a, rfl, a, _, 1, _, rfl, rfl, ha.sq, atI_nat (j := 1) rfl, .ref b, rfl, b, _, 1, _, rfl, rfl, hb.sq, atI_nat (j := 1) rfl, _, _, rfl, rfl, wide_mul bx.2 bw.2 (by decide) (by decide) (by decide), ?_⟩
    refine ⟨_, _, rfl, Int.ne_of_gt (Int.mul_pos (den_pos x) (den_pos y)), lt_up (lt_mul bx.2 bw.2) (by decide), fun p hp => ?_⟩
    rw [add_as]
    exact q p _ (same_new hp) hp (rat_mk (.inl upd_same))
abbrev s_times : Stmt := topS 27
theorem sc_times : FnScope ["one", "other"] ["one", "other"] (defScope s_times) := ⟨rfl, rfl, rfl, by decide +kernel, rfl, by decide +kernel, by decide +kernel⟩
def sp_times (K : PySem.W.Frag) : Sp := fun vs H Q _ => ∃ v u x y, vs = [v, u] ∧ Im K H v (rD x) ∧ Im K H u (rD y) ∧ Bd 44000 4400 x ∧ Bd 44000 4400 y ∧ ∀ p H', Same H H' → H p = none → Im K H' (.ref p) (rD (x * y)) → Q (.ref p) H'
theorem ok_times {f : Addr} {fd : FuncData} {k : Nat} (F : Fun K "times" "times" s_times f fd) (T : Tx K mg){ki : Nat} (D_made : Def P w K mg base ki "made" s_made ["top", "bottom"] sp_made) (hk : ki ≤ k) : FnOk P w K mg base CX0 (k + 1) f fd ["one", "other"] (sp_times K) := by
  have nd := sc_times.nd
  refine F.ok sc_times (fun vs H Q E h => ?_) (fun cdv A outer s H vs Q E hr h => ?_)
  · obtain ⟨i, xs, _, _, rfl, _⟩ := h
    rfl
  · obtain ⟨v, u, x, y, rfl, hv, hu, bx, bw, q⟩ := h
    obtain ⟨a, rfl, ha⟩ := rat_inv hv
    obtain ⟨b, rfl, hb⟩ := rat_inv hu
    refine ⟨_, (pss_one (ps_ret (pe_def D_made (hr.mono (by omega)) rfl (pa_cons (pe_op op_mulW (pe_ix (kix_tup K) (pv 0) pe_int (fun _ _ => rfl)) (pe_ix (kix_tup K) (pv 1) pe_int (fun _ _ => rfl))) (pa_cons (pe_op op_mulW (pe_ix (kix_tup K) (pv 0) pe_int (fun _ _ => rfl)) (pe_ix (kix_tup K) (pv 1) pe_int (fun _ _ => rfl))) pa_nil))))), ?_⟩
    refine ⟨.ref a, rfl, a, _, 0, _, rfl, rfl, ha.sq, atI_nat (j := 0) rfl, .ref b, rfl, b, _, 0, _, rfl, rfl, hb.sq, atI_nat (j := 0) rfl, _, _, rfl, rfl, wide_mul bx.1 bw.1 (by decide) (by decide) (by decide), ?_⟩
    refine ⟨.ref a, rfl, a, _, 1, _, rfl, rfl, ha.sq, atI_nat (j := 1) rfl, .ref b, rfl, b, _, 1, _, rfl, rfl, hb.sq, atI_nat (j := 1) rfl, _, _, rfl, rfl, wide_mul bx.2 bw.2 (by decide) (by decide) (by decide), ?_⟩
    refine ⟨_, _, rfl, Int.ne_of_gt (Int.mul_pos (den_pos x) (den_pos y)), lt_up (lt_mul bx.2 bw.2) (by decide), fun p hp => ?_⟩
    rw [mul_as]
    exact q p _ (same_new hp) hp (rat_mk (.inl upd_same))
abbrev s_whole : Stmt := topS 25
theorem sc_whole : FnScope ["number"] ["number"] (defScope s_whole) := ⟨rfl, rfl, rfl, by decide +kernel, rfl, by decide +kernel, by decide +kernel⟩
def sp_whole (K : PySem.W.Frag) : Sp := fun vs H Q _ => ∃ (i : Int), vs = [.int i] ∧ ∀ p H', Same H H' → H p = none → Im K H' (.ref p) (rD (i : Rat)) → Q (.ref p) H'
theorem ok_whole {f : Addr} {fd : FuncData} {k : Nat} (F : Fun K "whole" "whole" s_whole f fd) (T : Tx K mg) : FnOk P w K mg base CX0 (k + 1) f fd ["number"] (sp_whole K) := by
  have nd := sc_whole.nd
  refine F.ok sc_whole (fun vs H Q E h => ?_) (fun cdv A outer s H vs Q E hr h => ?_)
  · obtain ⟨i, rfl, _⟩ := h
    rfl
  · obtain ⟨i, rfl, q⟩ := h
    refine ⟨_, (pss_one (ps_ret (pe_tup (pa_cons (pv 0) (pa_cons pe_int pa_nil))))), ?_⟩
    exact ⟨.int i, rfl, by show 2 ≤ sizeLine; decide, fun p hp => q p _ (same_new hp) hp (rat_mk (q := (i : Rat)) (.inl upd_same))⟩
end
end K63

set_option Elab.async false
set_option linter.all false
set_option maxRecDepth 100000
set_option exponentiation.threshold 20000
set_option pp.deepTerms false
set_option pp.deepTerms.threshold 8
namespace K63
open PySem PySem.Spec PyProof.Rows L2 Ly Mt
/-! ### forms as data -/
abbrev Tm := Nat × List Nat × Rat
abbrev Rd := Str × Str × List Rat
def nD (n : Nat) : PyData := .int (n : Int)
def nsD (ns : List Nat) : PyData := .tuple (ns.map nD)
def tmD (t : Tm) : PyData := .tuple [nD t.1, nsD t.2.1, rD t.2.2]
def tsD (ts : List Tm) : PyData := .tuple (ts.map tmD)
def mrD (r : List (List Tm)) : PyData := .tuple (r.map tsD)
def mpD (m : List (List (List Tm))) : PyData := .tuple (m.map mrD)
def rdD (r : Rd) : PyData := .tuple [.str r.1, .str r.2.1, vD r.2.2]
def rdsD (rs : List Rd) : PyData := .tuple (rs.map rdD)
structure Form where
  ks : List Kd
  dims : List Nat
  maps : List (List (List Tm))
  rds : List Rd
def fmD (F : Form) : PyData := .tuple [ksD F.ks, nsD F.dims, mpD F.maps, rdsD F.rds]
/-- the width of a field -/
def wd (ns : List Str) (dims : List Nat) (f : Str) : Nat := if f ∈ ns then dims.getD (ns.idxOf f) 0 else 2
def keyT (t : Tm) : PyData := .tuple [nD t.1, nsD t.2.1]
structure TermOk (dim : Nat) (ws : List Nat) (t : Tm) : Prop where
  row : t.1 < dim
  len : t.2.1.length = ws.length
  cols : ∀ (i c w : Nat), t.2.1[i]? = some c → ws[i]? = some w → c < w
  nz : t.2.2 ≠ 0
structure TermsOk (dim : Nat) (ws : List Nat) (most : Nat) (ts : List Tm) : Prop where
  few : ts.length ≤ most
  each : ∀ t ∈ ts, TermOk dim ws t
  asc : ∀ (i : Nat) a b, ts[i]? = some a → ts[i + 1]? = some b → PySem.W.dataLt (keyT a) (keyT b) = true
structure ReadsOk (ns : List Str) (dims : List Nat) (rs : List Rd) : Prop where
  few : rs.length ≤ 60
  low : ∀ r ∈ rs, NameOk r.1 ∧ ∃ c, r.1.cps[0]? = some c ∧ lowC c = true
  nd : (rs.map (·.1)).Nodup
  kind : ∀ r ∈ rs, r.2.1 ∈ ns ∧ r.2.2.length = dims.getD (ns.idxOf r.2.1) 0
structure FormOk (wide : Nat) (F : Form) : Prop where
  wid : wide ≤ 2
  kinds : KindsOk F.ks
  ld : F.dims.length = F.ks.length
  hd : ∀ d ∈ F.dims, d ≤ 16 * wide
  sd : F.dims.sum ≤ 32 * wide
  lm : F.maps.length = F.ks.length
  lr : ∀ (i : Nat) kd row, F.ks[i]? = some kd → F.maps[i]? = some row → row.length = kd.2.length
  tm : ∀ (i : Nat) kd row, F.ks[i]? = some kd → F.maps[i]? = some row → ∀ (j : Nat) m ts, kd.2[j]? = some m → row[j]? = some ts → TermsOk (F.dims.getD i 0) (m.2.map (wd (F.ks.map (·.1)) F.dims)) (4000 * wide) ts
  rd : ReadsOk (F.ks.map (·.1)) F.dims F.rds
theorem im_nats {K : PySem.W.Frag} {H : Hp} : ∀ {xs : List V} {ns : List Nat}, ImAll K H xs (ns.map nD) → xs = ns.map (fun n => V.int (n : Nat))
  | _, [], h => by obtain rfl := h.nil_inv; rfl
  | _, n :: ns, h => by
    obtain ⟨x, r, rfl, i1, hr⟩ := h.cons_inv
    rw [i1.int_inv, im_nats hr]; rfl
theorem nats_im {K : PySem.W.Frag} {H : Hp} : ∀ (ns : List Nat), ImAll K H (ns.map (fun n => V.int (n : Nat))) (ns.map nD)
  | [] => .nil
  | n :: ns => .cons (.int _) (nats_im ns)
theorem im_ints {K : PySem.W.Frag} {H : Hp} : ∀ {xs : List V} {ns : List Int}, ImAll K H xs (ns.map .int) → xs = ns.map V.int
  | _, [], h => by obtain rfl := h.nil_inv; rfl
  | _, n :: ns, h => by
    obtain ⟨x, r, rfl, i1, hr⟩ := h.cons_inv
    rw [i1.int_inv, im_ints hr]; rfl
theorem nats_sum : ∀ ns : List Nat, (ns.map (fun n : Nat => (n : Int))).sum = (ns.sum : Nat)
  | [] => rfl
  | n :: ns => by rw [List.map_cons, List.sum_cons, List.sum_cons, nats_sum ns]; omega
theorem jRatio_rD (q : Rat) : jRatio (rD q) = true := by
  show (decide (1 ≤ (q.den : Int)) && decide (Nat.gcd q.num.natAbs ((q.den : Int)).natAbs = 1)) = true
  rw [decide_eq_true (show 1 ≤ (q.den : Int) from den_pos q), decide_eq_true (cop q)]; rfl
theorem rep_all (n : Nat) : (List.replicate n true).all id = true := by simp
/-- a comprehension of which each turn gives True -/
theorem lc_yes {J : It} {n : Nat} {G : Hp → Prop} {Y : Nat → Hp → V → Hp → Prop} (w : Walk J n G Y) {g : TG} {te : TE} {vs : List Nat} {σ : L2.St} {H : Hp} {D : Addr} {Qd : Hp → Prop} (hD : H D = none) (hn : n < sizeLine) (hG : ∀ H', Same H H' → G H')
    (hs : ∀ i x H2 H3 (R : VK), i < n → Same H H2 → Y i H2 x H3 → (∀ H5, Same H2 H5 → R (.bl true) H5) → g x (wipe σ vs) H3 fun σ2 H4 => wipe σ2 vs = wipe σ vs ∧ te σ2 H4 R)
    (hd : ∀ H', Same H H' → H' D = some (.lst ((List.replicate n true).map V.bl)) → Qd H') :
    ∃ W : Nat → Nat → Hp → Prop, (∃ m, W 0 m (upd H D (.lst []))) ∧ ∀ i m H, W i m H →
      (J.stop i H ∧ Qd H) ∨ (J.go i H ∧ ∃ Nx : Hp → Prop, (∀ H', Nx H' → ∃ m', m' < m ∧ W (i + 1) m' H') ∧ ∀ x H', J.yld i H x H' → g x (wipe σ vs) H' fun σ2 H2 => wipe σ2 vs = wipe σ vs ∧ tYes σ2 H2 fun b H3 =>
        if b = true then te σ2 H3 fun y H4 => ∃ acc, H4 D = some (.lst acc) ∧ acc.length < sizeLine ∧ Nx (upd H4 D (.lst (acc ++ [y]))) else Nx H3) := by
  refine lc_all w (fun i H2 => Same H H2 ∧ H2 D = some (.lst ((List.replicate i true).map V.bl))) ⟨same_new hD, upd_same⟩ (fun i H2 _ z => hG H2 z.1) (fun i x H2 H3 hi z y => ?_) (fun H2 z => hd H2 z.1 z.2)
  obtain ⟨s2, e2⟩ := z
  refine hs i x H2 H3 _ hi s2 y fun H5 s5 => ?_
  refine ⟨_, s5 _ _ e2, ?_, fun b o e => ?_, ?_⟩
  · rw [List.length_map, List.length_replicate]; omega
  · rw [upd_ne (ne_of_none e hD)]; exact s5 _ _ (s2 _ _ e)
  · rw [upd_same, List.replicate_succ', List.map_append]; rfl
section
variable {P : Program} {w : World} {K : PySem.W.Frag} {mg : Str → Option Value} {base : Heap}
abbrev s_is_vector_of : Stmt := topS 42
theorem sc_is_vector_of : FnScope ["thing", "size", "entry"] ["thing", "size"] (defScope s_is_vector_of) := ⟨rfl, rfl, rfl, by decide +kernel, rfl, by decide +kernel, by decide +kernel⟩
def sp_vec_of (K : PySem.W.Frag) : Sp := fun vs H Q _ => ∃ v r, vs = [v, .int (r.length : Nat)] ∧ Im K H v (vD r) ∧ r.length ≤ 1000 ∧ ∀ H', Same H H' → Q (.bl true) H'
theorem ok_is_vector_of {f : Addr} {fd : FuncData} {k : Nat} (F : Fun K "is_vector_of" "is_vector_of" s_is_vector_of f fd) (T : Tx K mg){k1 : Nat} (D_is_row : Def P w K mg base k1 "is_row" s_is_row ["thing", "low", "high"] (sp_is_row K)) {k2 : Nat} (D_is_ratio : Def P w K mg base k2 "is_ratio" s_is_ratio ["thing"] (sp_is_ratio K)) (e1 : k1 ≤ k) (e2 : k2 ≤ k) : FnOk P w K mg base CX0 (k + 1) f fd ["thing", "size"] (sp_vec_of K) := by
  have nd := sc_is_vector_of.nd
  refine F.ok sc_is_vector_of (fun vs H Q E h => ?_) (fun cdv A outer s H vs Q E hr h => ?_)
  · obtain ⟨_, _, rfl, _⟩ := h
    rfl
  · obtain ⟨v, r, rfl, iv, few, q⟩ := h
    obtain ⟨a, xs, rfl, ha, hx⟩ := vec_inv iv
    have lx := all_len hx
    refine ⟨_, (pss_one (ps_ret (pe_and (pe_def D_is_row (hr.mono (by omega)) rfl (pa_cons (pv 0) (pa_cons (pv 1) (pa_cons (pv 1) pa_nil)))) (pe_one (pe_callB (kcr_all K) (by rfl) T.m_all (by decide +kernel) (pa_cons (pe_lc (own := [("entry", 2)]) (g := gName 2) (tt := tYes) rfl nd (kpi_tup K (pv 0)) (blkOk_by (by rfl)) (fun _ _ _ _ _ => (pg_name (i := 2) nd rfl (.inl rfl))) (fun _ _ _ _ _ => pts_nil) (fun _ _ _ _ _ => (pe_def D_is_ratio (hr.mono (by omega)) rfl (pa_cons (pv 2) pa_nil)))) pa_nil)))))), ?_⟩
    refine ⟨.ref a, rfl, .int (r.length : Nat), rfl, .int (r.length : Nat), rfl, a, xs, _, _, rfl, ha, by omega, by omega, true, rfl, iteT ⟨.ref a, rfl, a, rfl, ⟨_, ha.sq⟩, fun D hD => ?_⟩⟩
    refine lc_yes (walk_tup (xs := xs)) hD (small1000 (by omega)) (fun H' s => (ha.mono (tk_same s)).sq) (fun i x H2 H3 R hi s2 y yes => ?_) (fun H2 s2 e2 => ⟨D, _, rfl, .of e2, ?_⟩)
    · obtain ⟨rfl, hxi⟩ := y
      obtain ⟨q', hq, iq⟩ := all_get (ImAll.mono (tk_same s2) _ hx) hxi
      refine ⟨rfl, x, rfl, x, rD q', rfl, Im.dp _ iq, ?_⟩
      rw [jRatio_rD]
      exact yes _ (Same.refl _)
    · rw [rep_all]
      exact q _ s2
abbrev s_widths_of : Stmt := topS 49
theorem sc_widths_of : FnScope ["fields", "dims", "field"] ["fields", "dims"] (defScope s_widths_of) := ⟨rfl, rfl, rfl, by decide +kernel, rfl, by decide +kernel, by decide +kernel⟩
/-- the width of a field by its place -/
def wdI (dims : List Nat) (f : Int) : Nat := if f = -1 then 2 else dims.getD f.toNat 0
def sp_widths (K : PySem.W.Frag) : Sp := fun vs H Q _ => ∃ (v u : V) (fs : List Int) (dims : List Nat), vs = [v, u] ∧ Im K H v (.tuple (fs.map .int)) ∧ Im K H u (nsD dims) ∧ fs.length ≤ 1000 ∧ (∀ f ∈ fs, f = -1 ∨ 0 ≤ f ∧ f.toNat < dims.length) ∧ ∀ D H', Same H H' → H D = none → H' D = some (.lst ((fs.map (wdI dims)).map (fun n => V.int (n : Nat)))) → Q (.ref D) H'
theorem ok_widths_of {f : Addr} {fd : FuncData} {k : Nat} (F : Fun K "widths_of" "widths_of" s_widths_of f fd) (T : Tx K mg) : FnOk P w K mg base CX0 (k + 1) f fd ["fields", "dims"] (sp_widths K) := by
  have nd := sc_widths_of.nd
  refine F.ok sc_widths_of (fun vs H Q E h => ?_) (fun cdv A outer s H vs Q E hr h => ?_)
  · obtain ⟨_, _, _, _, rfl, _⟩ := h
    rfl
  · obtain ⟨v, u, fs, dims, rfl, iv, iu, few, hf, q⟩ := h
    obtain ⟨a, xs, rfl, ha, hx⟩ := iv.tuple_inv
    obtain rfl := im_ints hx
    obtain ⟨b, ys, rfl, hb, hy⟩ := iu.tuple_inv
    obtain rfl := im_nats hy
    refine ⟨_, (pss_one (ps_ret (pe_lc (own := [("field", 2)]) (g := gName 2) (tt := tYes) rfl nd (kpi_tup K (pv 0)) (blkOk_by (by rfl)) (fun _ _ _ _ _ => (pg_name (i := 2) nd rfl (.inl rfl))) (fun _ _ _ _ _ => pts_nil) (fun _ _ _ _ _ => (pe_ifExp (pt_cmpR op_eq (pv 2) (pe_gv rfl T.g_NUMBER) (nomark _)) pe_int (pe_ix (kix_tup K) (pv 1) (pv 2) (fun _ _ => rfl))))))), ?_⟩
    refine ⟨.ref a, rfl, a, rfl, ⟨_, ha.sq⟩, fun D hD => ?_⟩
    refine lc_all (walk_tup (xs := fs.map V.int)) (fun i Hx => Same H Hx ∧ Hx D = some (.lst (((fs.take i).map (wdI dims)).map (fun n => V.int (n : Nat))))) ⟨same_new hD, upd_same⟩ (fun i Hx _ z => (ha.mono (tk_same z.1)).sq) (fun i x Hx Hy hi z y => ?_) (fun Hx z => ?_)
    · obtain ⟨sm, eD⟩ := z
      obtain ⟨rfl, hxi⟩ := y
      rw [List.getElem?_map] at hxi
      obtain ⟨f, hfi, rfl⟩ := Option.map_eq_some_iff.mp hxi
      rw [List.length_map] at hi
      have hlen : (((fs.take i).map (wdI dims)).map (fun n => V.int (n : Nat))).length < sizeLine := by
        rw [List.length_map, List.length_map, List.length_take]; exact small1000 (by omega)
      have fin : ∀ n : Nat, n = wdI dims f → ∃ acc, Hy D = some (.lst acc) ∧ acc.length < sizeLine ∧ Same H (upd Hy D (.lst (acc ++ [V.int (n : Nat)]))) ∧ (upd Hy D (.lst (acc ++ [V.int (n : Nat)]))) D = some (.lst (((fs.take (i + 1)).map (wdI dims)).map (fun n => V.int (n : Nat)))) := fun n en => by
        refine ⟨_, eD, hlen, fun b o e => ?_, ?_⟩
        · rw [upd_ne (ne_of_none e hD)]; exact sm _ _ e
        · rw [upd_same, List.take_add_one, hfi, List.map_append, List.map_append, en]; rfl
      refine ⟨rfl, .int f, rfl, rfl, _, rfl, ?_⟩
      by_cases h1 : f = -1
      · rw [decide_eq_true (by rw [h1])]
        exact iteT (fin 2 (by rw [wdI, if_pos h1]))
      · rw [decide_eq_false (fun z => h1 (V.int.inj z))]
        obtain ⟨p0, p1⟩ := (hf f (List.mem_of_getElem? hfi)).resolve_left h1
        refine iteF ⟨.ref b, rfl, .int f, rfl, b, _, f, V.int ((dims[f.toNat] : Nat) : Int), rfl, rfl, (hb.mono (tk_same sm)).sq, ?_, ?_⟩
        · obtain ⟨n, rfl⟩ : ∃ n : Nat, f = n := ⟨f.toNat, by omega⟩
          refine atI_nat (j := n) ?_
          rw [List.getElem?_map]
          have p2 : n < dims.length := p1
          show Option.map _ dims[n]? = _
          rw [List.getElem?_eq_getElem p2]; rfl
        · refine fin _ ?_
          rw [wdI, if_neg h1, List.getD_eq_getElem?_getD, List.getElem?_eq_getElem p1]; rfl
    · obtain ⟨sm, eD⟩ := z
      rw [List.length_map, List.take_of_length_le (Nat.le_refl _)] at eD
      exact q D Hx sm hD eD
abbrev s_are_dims : Stmt := topS 43
theorem sc_are_dims : FnScope ["thing", "size", "wide", "dim"] ["thing", "size", "wide"] (defScope s_are_dims) := ⟨rfl, rfl, rfl, by decide +kernel, rfl, by decide +kernel, by decide +kernel⟩
def sp_dims (K : PySem.W.Frag) : Sp := fun vs H Q _ => ∃ v dims wide, vs = [v, .int (dims.length : Nat), .int (wide : Nat)] ∧ Im K H v (nsD dims) ∧ dims.length ≤ 1000 ∧ wide ≤ 2 ∧ (∀ d ∈ dims, d ≤ 16 * wide) ∧ dims.sum ≤ 32 * wide ∧ ∀ H', Same H H' → Q (.bl true) H'
theorem ok_are_dims {f : Addr} {fd : FuncData} {k : Nat} (F : Fun K "are_dims" "are_dims" s_are_dims f fd) (T : Tx K mg){k1 : Nat} (D_is_row : Def P w K mg base k1 "is_row" s_is_row ["thing", "low", "high"] (sp_is_row K)) {k2 : Nat} (D_within : Def P w K mg base k2 "within" s_within ["thing", "low", "high"] (sp_within K)) (e1 : k1 ≤ k) (e2 : k2 ≤ k) : FnOk P w K mg base CX0 (k + 1) f fd ["thing", "size", "wide"] (sp_dims K) := by
  have nd := sc_are_dims.nd
  refine F.ok sc_are_dims (fun vs H Q E h => ?_) (fun cdv A outer s H vs Q E hr h => ?_)
  · obtain ⟨_, _, _, rfl, _⟩ := h
    rfl
  · obtain ⟨v, dims, wide, rfl, iv, few, wid, hd, hsum, q⟩ := h
    obtain ⟨a, xs, rfl, ha, hx⟩ := iv.tuple_inv
    obtain rfl := im_nats hx
    have wm : ∀ x : Int, x.natAbs < 2 ^ 6 → CMulW x ((wide : Nat) : Int) := fun x hx => wide_mul hx (show ((wide : Nat) : Int).natAbs < 2 ^ 2 by omega) (by decide) (by decide) (by decide)
    refine ⟨_, (pss_cons (ps_if (PW.pt (pw_or (pt_not (pt_val (pe_def D_is_row (hr.mono (by omega)) rfl (pa_cons (pv 0) (pa_cons (pv 1) (pa_cons (pv 1) pa_nil)))))) (pw_or1 (pt_not (pt_val (pe_callB (kcr_all K) (by rfl) T.m_all (by decide +kernel) (pa_cons (pe_lc (own := [("dim", 3)]) (g := gName 3) (tt := tYes) rfl nd (kpi_tup K (pv 0)) (blkOk_by (by rfl)) (fun _ _ _ _ _ => (pg_name (i := 3) nd rfl (.inl rfl))) (fun _ _ _ _ _ => pts_nil) (fun _ _ _ _ _ => (pe_def D_within (hr.mono (by omega)) rfl (pa_cons (pv 3) (pa_cons pe_int (pa_cons (pe_op op_mulW (pe_gv rfl T.g_MOST_DIM) (pv 2)) pa_nil)))))) pa_nil)))))))
        (pss_one (ps_ret pe_bl))
        pss_nil)
      (pss_one (ps_ret (pe_cmpR op_le (pe_callB (cr_sumT K) (by rfl) T.m_sum (by decide +kernel) (pa_cons (pv 0) pa_nil)) (pe_op op_mulW (pe_gv rfl T.g_MOST_DIMS) (pv 2)) (nomark _))))), ?_⟩
    refine ⟨.ref a, rfl, .int _, rfl, .int _, rfl, a, _, _, _, rfl, ha, by rw [List.length_map]; omega, by rw [List.length_map]; omega, true, rfl, iteF ⟨.ref a, rfl, a, rfl, ⟨_, ha.sq⟩, fun D hD => ?_⟩⟩
    refine lc_yes (walk_tup (xs := dims.map (fun n => V.int (n : Nat)))) hD (small1000 (by rw [List.length_map]; omega)) (fun H' s => (ha.mono (tk_same s)).sq) (fun i x H2 H3 R hi s2 y yes => ?_) (fun H2 s2 e2 => ⟨D, _, rfl, .of e2, ?_⟩)
    · obtain ⟨rfl, hxi⟩ := y
      rw [List.getElem?_map] at hxi
      obtain ⟨d, hdi, rfl⟩ := Option.map_eq_some_iff.mp hxi
      have hd1 := hd d (List.mem_of_getElem? hdi)
      exact ⟨rfl, .int d, rfl, .int wide, rfl, _, _, rfl, rfl, wm _ (by decide), d, 0, _, rfl, by omega, by omega, yes _ (Same.refl _)⟩
    · rw [rep_all]
      refine ⟨true, rfl, iteF ⟨.ref a, rfl, a, dims.map (fun n : Nat => (n : Int)), rfl, ?_, .int wide, rfl, _, _, rfl, rfl, wm _ (by decide), _, _, rfl, rfl, ?_⟩⟩
      · rw [List.map_map]; exact (ha.mono (tk_same s2)).sq
      · rw [nats_sum]
        dsimp only
        rw [decide_eq_true (by omega)]
        exact q _ s2
end
end K63

set_option Elab.async false
set_option linter.all false
set_option maxRecDepth 100000
set_option exponentiation.threshold 20000
set_option pp.deepTerms false
set_option pp.deepTerms.threshold 8
namespace K63
open PySem PySem.Spec PyProof.Rows L2 Ly Mt
theorem alike_nats : ∀ (a b : List Nat), PySem.W.alikeAll (a.map nD) (b.map nD) = true
  | [], b => by cases b <;> rfl
  | _ :: _, [] => rfl
  | x :: a, y :: b => by
    show (PySem.W.alike (nD x) (nD y) && PySem.W.alikeAll (a.map nD) (b.map nD)) = true
    rw [alike_nats a b]; rfl
theorem alike_keyT (a b : Tm) : PySem.W.alike (keyT a) (keyT b) = true := by
  show (PySem.W.alike (nD a.1) (nD b.1) && (PySem.W.alike (nsD a.2.1) (nsD b.2.1) && true)) = true
  rw [show PySem.W.alike (nsD a.2.1) (nsD b.2.1) = true from alike_nats _ _]; rfl
theorem depth_nats : ∀ a : List Nat, PyData.depthAll (a.map nD) ≤ 0
  | [] => by decide
  | x :: a => by
    have := depth_nats a
    show max 0 (PyData.depthAll (a.map nD)) ≤ 0
    omega
theorem keyT_depth (a : Tm) : (keyT a).depth ≤ 64 := by
  have := depth_nats a.2.1
  show max 0 (max (PyData.depthAll (a.2.1.map nD) + 1) 0) + 1 ≤ 64
  omega
theorem cut_drop {ws : List V} {n : Nat} (h : n ≤ ws.length) : cutV ws (some (n : Int)) none = ws.drop n := by
  unfold cutV
  rw [HT.sIx_nat, HT.sIx_none, Nat.min_eq_left h, List.take_of_length_le (by rw [List.length_drop]; omega)]
theorem all_drop {K : PySem.W.Frag} {H : Hp} {α : Type} {f : α → PyData} : ∀ {xs : List V} {l : List α} {n : Nat}, ImAll K H xs (l.map f) → ImAll K H (xs.drop n) ((l.drop n).map f)
  | xs, l, 0, h => h
  | [], [], n + 1, _ => .nil
  | x :: xs, [], n + 1, h => by cases h
  | [], a :: l, n + 1, h => by cases h
  | x :: xs, a :: l, n + 1, h => by
    cases h with | cons _ r => exact all_drop (xs := xs) (l := l) (n := n) r
theorem cut_take {ws : List V} {n : Nat} (h : n ≤ ws.length) : cutV ws none (some (n : Int)) = ws.take n := by
  unfold cutV
  rw [HT.sIx_none, HT.sIx_nat, Nat.min_eq_left h]
  rfl
theorem all_take {K : PySem.W.Frag} {H : Hp} {α : Type} {f : α → PyData} : ∀ {xs : List V} {l : List α} {n : Nat}, ImAll K H xs (l.map f) → ImAll K H (xs.take n) ((l.take n).map f)
  | [], [], n, _ => by rw [List.take_nil, List.take_nil]; exact .nil
  | x :: xs, a :: l, 0, _ => .nil
  | x :: xs, a :: l, n + 1, .cons h r => .cons h (all_take r)
section
variable {K : PySem.W.Frag}
theorem cut_whole {xs : List V} {lo hi : Option Int} (h : HT.sIx xs.length 0 lo = 0 ∧ HT.sIx xs.length xs.length hi = xs.length) : cutV xs lo hi = xs := by
  unfold cutV
  rw [h.1, h.2]; simp
theorem sl_any {a : Addr} {xs : List V} {lo hi : Option Int} {H : Hp} {Q : VK} (h : ITup K H a xs) (q : ∀ p H', Same H H' → ITup K H' p (cutV xs lo hi) → Q (.ref p) H') : rSlA K (.ref a) lo hi H Q :=
  ⟨a, xs, rfl, h.sq, fun w => q a H (Same.refl H) (by rw [cut_whole w]; exact h), fun _ p hp => q p _ (same_new hp) (.inl upd_same)⟩
theorem cat_any {a b : Addr} {xs ys : List V} {H : Hp} {Q : VK} (h : ITup K H a xs) (h2 : ITup K H b ys) (hz : xs.length + ys.length ≤ 1000) (q : ∀ p H', Same H H' → ITup K H' p (xs ++ ys) → Q (.ref p) H') : rCatA K (.ref a) (.ref b) H Q := by
  refine ⟨a, b, xs, ys, rfl, rfl, h.sq, h2.sq, Nat.le_of_lt (small1000 hz), fun e => q b H (Same.refl H) (by rw [e]; exact h2), fun _ e => q a H (Same.refl H) (by rw [e, List.append_nil]; exact h), fun _ _ p hp => q p _ (same_new hp) (.inl upd_same)⟩
theorem rep_any {l : Addr} {x : V} {H : Hp} {n : Nat} {Q : VK} (h : ITup K H l [x]) (hn : n ≤ 1000) (q : ∀ p H', Same H H' → ITup K H' p (List.replicate n x) → Q (.ref p) H') : rRepTA K (.ref l) (.int n) H Q := by
  refine ⟨l, n, [x], rfl, rfl, h.sq, by simp, by omega, by omega, by show 1 ≤ 1000; decide, fun e => ?_, fun _ p hp => q p _ (same_new hp) (.inl ?_)⟩
  · have e1 : n = 1 := by omega
    subst e1
    exact q l H (Same.refl H) h
  · show (upd H p (.tup (List.replicate n [x]).flatten)) p = _
    rw [flat1]
    exact upd_same
end
section
variable {P : Program} {w : World} {K : PySem.W.Frag} {mg : Str → Option Value} {base : Heap}
abbrev s_is_term : Stmt := topS 44
theorem sc_is_term : FnScope ["thing", "dim", "widths", "col", "width"] ["thing", "dim", "widths"] (defScope s_is_term) := ⟨rfl, rfl, rfl, by decide +kernel, rfl, by decide +kernel, by decide +kernel⟩
def sp_term (K : PySem.W.Frag) : Sp := fun vs H Q _ => ∃ v l t dim ws, vs = [v, .int (dim : Nat), .ref l] ∧ Im K H v (tmD t) ∧ H l = some (.lst (ws.map (fun n : Nat => V.int (n : Nat)))) ∧ ws.length ≤ 1000 ∧ TermOk dim ws t ∧ ∀ H', Same H H' → Q (.bl true) H'
theorem ok_is_term {f : Addr} {fd : FuncData} {k : Nat} (F : Fun K "is_term" "is_term" s_is_term f fd) (T : Tx K mg){k1 : Nat} (D_is_row : Def P w K mg base k1 "is_row" s_is_row ["thing", "low", "high"] (sp_is_row K)) {k2 : Nat} (D_within : Def P w K mg base k2 "within" s_within ["thing", "low", "high"] (sp_within K)) {k3 : Nat} (D_is_ratio : Def P w K mg base k3 "is_ratio" s_is_ratio ["thing"] (sp_is_ratio K)) (e1 : k1 ≤ k) (e2 : k2 ≤ k) (e3 : k3 ≤ k) : FnOk P w K mg base CX0 (k + 1) f fd ["thing", "dim", "widths"] (sp_term K) := by
  have nd := sc_is_term.nd
  obtain ⟨az, g_ZERO0, iz⟩ := T.zero
  have g_ZERO : ∃ u, mg "ZERO" = some u ∧ L2.RelV (.ref az) u := ⟨_, g_ZERO0, rfl⟩
  refine F.ok sc_is_term (fun vs H Q E h => ?_) (fun cdv A outer s H vs Q E hr h => ?_)
  · obtain ⟨_, _, _, _, _, rfl, _⟩ := h
    rfl
  · obtain ⟨v, l, t, dim, ws, rfl, iv, hl, few, ok, q⟩ := h
    obtain ⟨a, x, y, z, rfl, ha, ix, iy, iz'⟩ := im_trip iv
    obtain rfl := ix.int_inv
    obtain ⟨b, ys, rfl, hb, hy⟩ := iy.tuple_inv
    obtain rfl := im_nats hy
    have hrow := ok.row
    have hlen := ok.len
    refine ⟨_, (pss_cons (ps_if (PW.pt (pw_or (pt_not (pt_val (pe_def D_is_row (hr.mono (by omega)) rfl (pa_cons (pv 0) (pa_cons pe_int (pa_cons pe_int pa_nil)))))) (pw_or (pt_not (pt_val (pe_def D_within (hr.mono (by omega)) rfl (pa_cons (pe_ix (kix_tup K) (pv 0) pe_int (fun _ _ => rfl)) (pa_cons pe_int (pa_cons (pe_op op_sub (pv 1) pe_int) pa_nil)))))) (pw_or1 (pt_not (pt_val (pe_def D_is_row (hr.mono (by omega)) rfl (pa_cons (pe_ix (kix_tup K) (pv 0) pe_int (fun _ _ => rfl)) (pa_cons (pe_callB (kcall_len K) (by rfl) T.m_len PySem.boot_len (pa_cons (pv 2) pa_nil)) (pa_cons (pe_callB (kcall_len K) (by rfl) T.m_len PySem.boot_len (pa_cons (pv 2) pa_nil)) pa_nil))))))))))
        (pss_one (ps_ret pe_bl))
        pss_nil)
      (pss_cons (ps_if (pt_not (pt_val (pe_callB (kcr_all K) (by rfl) T.m_all (by decide +kernel) (pa_cons (pe_lc (own := [("col", 3), ("width", 4)]) (g := _) (tt := tYes) rfl nd (kpi_zipN K (by rfl) T.m_zip (pa_cons (pe_ix (kix_tup K) (pv 0) pe_int (fun _ _ => rfl)) (pa_cons (pv 2) pa_nil))) (blkOk_by (by rfl)) (fun _ _ _ _ _ => (kpg_tup K (n := 2) rfl (pgs_cons (pg_name (i := 3) nd rfl (.inl rfl)) (pgs_cons (pg_name (i := 4) nd rfl (.inl rfl)) pgs_nil)))) (fun _ _ _ _ _ => pts_nil) (fun _ _ _ _ _ => (pe_def D_within (hr.mono (by omega)) rfl (pa_cons (pv 3) (pa_cons pe_int (pa_cons (pe_op op_sub (pv 4) pe_int) pa_nil)))))) pa_nil))))
        (pss_one (ps_ret pe_bl))
        pss_nil)
      (pss_one (ps_ret (pe_and (pe_def D_is_ratio (hr.mono (by omega)) rfl (pa_cons (pe_ix (kix_tup K) (pv 0) pe_int (fun _ _ => rfl)) pa_nil)) (pe_one (pe_cmpR (kop_neD K hr.units) (pe_ix (kix_tup K) (pv 0) pe_int (fun _ _ => rfl)) (pe_gv rfl g_ZERO) (nomark _)))))))), ?_⟩
    refine ⟨.ref a, rfl, a, _, 3, 3, rfl, ha, (by show (3 : Int) ≤ 3; decide), (by show (3 : Int) ≤ 3; decide), true, rfl, iteF ?_⟩
    refine ⟨.ref a, rfl, a, _, 0, _, rfl, rfl, ha.sq, atI_nat (j := 0) rfl, .int dim, rfl, _, _, rfl, rfl, t.1, 0, _, rfl, by omega, by omega, true, rfl, iteF ?_⟩
    refine ⟨.ref a, rfl, a, _, 1, _, rfl, rfl, ha.sq, atI_nat (j := 1) rfl, .ref l, rfl, l, _, rfl, .inl (.of hl), .ref l, rfl, l, _, rfl, .inl (.of hl), b, _, _, _, rfl, hb, by rw [List.length_map, List.length_map]; omega, by rw [List.length_map, List.length_map]; omega, true, rfl, iteF ?_⟩
    refine ⟨.ref a, rfl, a, _, 1, _, rfl, rfl, ha.sq, atI_nat (j := 1) rfl, .ref l, rfl, b, l, _, _, rfl, hb.sq, .of hl, fun D hD => ?_⟩
    refine lc_yes (walk_zipN (xs := t.2.1.map (fun n : Nat => V.int (n : Nat))) (ys := ws.map (fun n : Nat => V.int (n : Nat))) (by rw [List.length_map, List.length_map]; exact hlen)) hD (small1000 (by rw [List.length_map]; omega)) (fun H' s => ⟨(hb.mono (tk_same s)).sq, .of (s _ _ hl)⟩) (fun i x H2 H3 R hi s2 y yes => ?_) (fun H2 s2 e2 => ⟨D, _, rfl, .of e2, ?_⟩)
    · obtain ⟨T, x1, x2, rfl, hT, rfl, e1, e2⟩ := y
      simp only [List.getElem?_map] at e1 e2
      obtain ⟨c, hc, rfl⟩ := Option.map_eq_some_iff.mp e1
      obtain ⟨w', hw, rfl⟩ := Option.map_eq_some_iff.mp e2
      have lt := ok.cols i c w' hc hw
      exact ⟨T, _, rfl, .of upd_same, rfl, .int c, _, rfl, .int w', _, rfl, rfl, rfl, .int c, rfl, .int w', rfl, _, _, rfl, rfl, c, 0, _, rfl, by omega, by omega, yes _ (same_new hT)⟩
    · rw [rep_all]
      have ha2 := ha.mono (tk_same s2)
      have iz2 := Im.mono (tk_same s2) _ iz'
      refine ⟨true, rfl, iteF ⟨.ref a, rfl, a, _, 2, _, rfl, rfl, ha2.sq, atI_nat (j := 2) rfl, z, _, rfl, Im.dp _ iz2, jRatio (rD t.2.2), rfl, ?_⟩⟩
      rw [jRatio_rD]
      refine iteT ⟨.ref a, rfl, a, _, 2, _, rfl, rfl, ha2.sq, atI_nat (j := 2) rfl, rD t.2.2, .tuple [.int 0, .int 1], Im.dp _ iz2, .tup (iz H2).sq (.cons (.int 0) (.cons (.int 1) .nil)), rfl, rfl, ?_⟩
      have e : PyData.eqv (rD t.2.2) (.tuple [.int 0, .int 1]) = false := by
        show ((t.2.2.num == 0) && (((t.2.2.den : Int) == 1) && true)) = false
        have : ¬ t.2.2.num = 0 := fun h => ok.nz (num_zero h)
        rw [beq_eq_false_iff_ne.mpr this]; rfl
      rw [e]
      exact q _ s2
abbrev s_are_terms : Stmt := topS 45
theorem sc_are_terms : FnScope ["thing", "dim", "widths", "most", "term", "at"] ["thing", "dim", "widths", "most"] (defScope s_are_terms) := ⟨rfl, rfl, rfl, by decide +kernel, rfl, by decide +kernel, by decide +kernel⟩
def sp_terms (K : PySem.W.Frag) : Sp := fun vs H Q _ => ∃ v l ts dim ws most, vs = [v, .int (dim : Nat), .ref l, .int (most : Nat)] ∧ Im K H v (tsD ts) ∧ H l = some (.lst (ws.map (fun n : Nat => V.int (n : Nat)))) ∧ ws.length ≤ 1000 ∧ most ≤ 8000 ∧ TermsOk dim ws most ts ∧ ∀ H', Same H H' → Q (.bl true) H'
theorem ok_are_terms {f : Addr} {fd : FuncData} {k : Nat} (F : Fun K "are_terms" "are_terms" s_are_terms f fd) (T : Tx K mg){k1 : Nat} (D_is_row : Def P w K mg base k1 "is_row" s_is_row ["thing", "low", "high"] (sp_is_row K)) {k2 : Nat} (D_is_term : Def P w K mg base k2 "is_term" s_is_term ["thing", "dim", "widths"] (sp_term K)) (e1 : k1 ≤ k) (e2 : k2 ≤ k) : FnOk P w K mg base CX0 (k + 1) f fd ["thing", "dim", "widths", "most"] (sp_terms K) := by
  have nd := sc_are_terms.nd
  refine F.ok sc_are_terms (fun vs H Q E h => ?_) (fun cdv A outer s H vs Q E hr h => ?_)
  · obtain ⟨_, _, _, _, _, _, rfl, _⟩ := h
    rfl
  · obtain ⟨v, l, ts, dim, ws, most, rfl, iv, hl, few, hmost, ok, q⟩ := h
    obtain ⟨a, xs, rfl, ha, hx⟩ := iv.tuple_inv
    have lx := all_len hx
    have lts := ok.few
    refine ⟨_, (pss_cons (ps_if (PW.pt (pw_or (pt_not (pt_val (pe_def D_is_row (hr.mono (by omega)) rfl (pa_cons (pv 0) (pa_cons pe_int (pa_cons (pv 3) pa_nil)))))) (pw_or1 (pt_not (pt_val (pe_callB (kcr_all K) (by rfl) T.m_all (by decide +kernel) (pa_cons (pe_lc (own := [("term", 4)]) (g := gName 4) (tt := tYes) rfl nd (kpi_tup K (pv 0)) (blkOk_by (by rfl)) (fun _ _ _ _ _ => (pg_name (i := 4) nd rfl (.inl rfl))) (fun _ _ _ _ _ => pts_nil) (fun _ _ _ _ _ => (pe_def D_is_term (hr.mono (by omega)) rfl (pa_cons (pv 4) (pa_cons (pv 1) (pa_cons (pv 2) pa_nil)))))) pa_nil)))))))
        (pss_one (ps_ret pe_bl))
        pss_nil)
      (pss_one (ps_ret (pe_callB (kcr_all K) (by rfl) T.m_all (by decide +kernel) (pa_cons (pe_lc (own := [("at", 5)]) (g := gName 5) (tt := tYes) rfl nd (pi_range2 rfl T.m_range (pa_cons pe_int (pa_cons (pe_callB (kcall_len K) (by rfl) T.m_len PySem.boot_len (pa_cons (pv 0) pa_nil)) pa_nil))) (blkOk_by (by rfl)) (fun _ _ _ _ _ => (pg_name (i := 5) nd rfl (.inl rfl))) (fun _ _ _ _ _ => pts_nil) (fun _ _ _ _ _ => (pe_cmpR (op_ltD K hr.units) (pe_slice (ksl_tupA K) (pe_ix (kix_tup K) (pv 0) (pe_op op_sub (pv 5) pe_int) (fun _ _ => rfl)) po_none (po_some pe_int)) (pe_slice (ksl_tupA K) (pe_ix (kix_tup K) (pv 0) (pv 5) (fun _ _ => rfl)) po_none (po_some pe_int)) (nomark _)))) pa_nil))))), ?_⟩
    refine ⟨.ref a, rfl, .int most, rfl, a, _, 0, _, rfl, ha, by omega, by omega, true, rfl, iteF ⟨.ref a, rfl, a, rfl, ⟨_, ha.sq⟩, fun D hD => ?_⟩⟩
    have sz : ts.length < sizeLine := Nat.lt_of_le_of_lt (show ts.length ≤ 8000 by omega) (by decide)
    refine lc_yes (walk_tup (xs := xs)) hD (by omega) (fun H' s => (ha.mono (tk_same s)).sq) (fun i x H2 H3 R hi s2 y yes => ?_) (fun H2 s2 e2 => ⟨D, _, rfl, .of e2, ?_⟩)
    · obtain ⟨rfl, hxi⟩ := y
      obtain ⟨t, ht, it⟩ := all_get (ImAll.mono (tk_same s2) _ hx) hxi
      exact ⟨rfl, x, rfl, .int dim, rfl, .ref l, rfl, x, l, t, dim, ws, rfl, it, s2 _ _ hl, few, ok.each t (List.mem_of_getElem? ht), fun H5 s5 => yes H5 s5⟩
    · rw [rep_all]
      refine ⟨true, rfl, iteF ?_⟩
      have ha2 := ha.mono (tk_same s2)
      have hx2 := ImAll.mono (tk_same s2) _ hx
      refine ⟨.ref a, rfl, a, xs, rfl, .inr ha2.sq, 1, (xs.length : Nat), rfl, ⟨by omega, by omega, by omega, by omega⟩, fun D2 hD2 => ?_⟩
      refine lc_yes walk_range hD2 (by omega) (fun H' s => trivial) (fun i x H3 H4 R hi s3 y yes => ?_) (fun H3 s3 e3 => ⟨D2, _, rfl, .of e3, ?_⟩)
      · obtain ⟨rfl, rfl⟩ := y
        have ha3 := ha2.mono (tk_same s3)
        have hx3 := ImAll.mono (tk_same s3) _ hx2
        have i1 : i < ts.length := by omega
        have i2 : i + 1 < ts.length := by omega
        obtain ⟨x, ex, ix⟩ := all_at hx3 (List.getElem?_eq_getElem i1)
        obtain ⟨y, ey, iy⟩ := all_at hx3 (List.getElem?_eq_getElem i2)
        have lt := ok.asc i _ _ (List.getElem?_eq_getElem i1) (List.getElem?_eq_getElem i2)
        generalize ts[i] = t1 at *
        generalize ts[i + 1] = t2 at *
        obtain ⟨pa, a1, a2, a3, rfl, hpa, ja1, ja2, ja3⟩ := im_trip ix
        obtain ⟨pb, b1, b2, b3, rfl, hpb, jb1, jb2, jb3⟩ := im_trip iy
        refine ⟨rfl, .ref a, rfl, .int (1 + (i : Int)), rfl, _, _, rfl, rfl, a, _, (1 + (i : Int)) - 1, .ref pa, rfl, rfl, ha3.sq, (by rw [show (1 + (i : Int)) - 1 = (i : Nat) by omega]; exact atI_nat ex), 2, rfl, sl_any hpa fun p1 H5 s5 hp1 => ?_⟩
        refine ⟨.ref a, rfl, .int (1 + (i : Int)), rfl, a, _, (1 + (i : Int)), .ref pb, rfl, rfl, (ha3.mono (tk_same s5)).sq, (by rw [show (1 + (i : Int)) = ((i + 1 : Nat) : Int) by omega]; exact atI_nat ey), 2, rfl, sl_any (hpb.mono (tk_same s5)) fun p2 H6 s6 hp2 => ?_⟩
        have c1 : cutV [a1, a2, a3] none (some 2) = [a1, a2] := cut_take (n := 2) (by show 2 ≤ 3; decide)
        have c2 : cutV [b1, b2, b3] none (some 2) = [b1, b2] := cut_take (n := 2) (by show 2 ≤ 3; decide)
        rw [c1] at hp1
        rw [c2] at hp2
        have t56 := (tk_same s5).trans (tk_same s6)
        refine ⟨keyT t1, keyT t2, ?_, ?_, alike_keyT _ _, by simp [keyT], keyT_depth _, ?_⟩
        · exact .tup (hp1.mono (tk_same s6)).sq (.cons (Im.dp _ (Im.mono t56 _ ja1)) (.cons (Im.dp _ (Im.mono t56 _ ja2)) .nil))
        · exact .tup hp2.sq (.cons (Im.dp _ (Im.mono t56 _ jb1)) (.cons (Im.dp _ (Im.mono t56 _ jb2)) .nil))
        · rw [lt]
          exact yes _ (s5.trans s6)
      · rw [rep_all]
        exact q _ (s2.trans s3)
end
end K63

set_option Elab.async false
set_option linter.all false
set_option maxRecDepth 100000
namespace Ly
open PySem PySem.Spec PyProof.Rows L2
section
variable {X : Cx}
theorem sw_trueD {kx vx : Expr} {gs : List Comprehension} {scope : Scope} {pos py : Pos} {y : Str} {l : Nat} {env : Env} (hk : env.scope.kind = .function) (hy : env.scope.names.lookup y = some .local) (hl : (py.line == pos.line) = true)
    (ha : (scope.names.any fun (n, k) => n == y && (k == .local || k == .cell)) = false) : swapsWith (.DictComp kx vx gs scope pos) (some (.Name y py)) l env = pure true := by
  have ky : env.kindOf y = some .local := hy
  have hb : env.blockKind = .function := by unfold Env.blockKind; rw [hk]; rfl
  unfold swapsWith
  simp only [hb, ky, ha, Expr.pos, hl]
  rfl
/-- name = {k: v ..} on one line, the name a local -/
theorem ps_setDc {i : Nat} {y : Str} {py : Pos} {kx vx tg iter : Expr} {ifs : List Expr} {scope : Scope} {own : List (Str × Nat)} {pos spos : Pos} {wi : TI} {g : TG} {tt : TT} {tk tv : TE} (hc : X.calm = true) (hN : X.N.Nodup) (hy : X.N[i]? = some y) (hyl : X.env.scope.names.lookup y = some .local)
    (hsw : swapsWith (.DictComp kx vx [⟨tg, iter, ifs, 0⟩] scope pos) (some (.Name y py)) spos.line X.env = pure true) (hi : PI X tg iter wi) (ok : BlkOk X.N X.env.scope scope own)
    (hg : ∀ (s : Shared) (H : Hp) (C : Addr) (cl : List (Str × Addr)) (fp : List Addr), PG (X.blk s H scope (compEnvC scope cl C X.env) fp) tg g) (ht : ∀ (s : Shared) (H : Hp) (C : Addr) (cl : List (Str × Addr)) (fp : List Addr), PTs (X.blk s H scope (compEnvC scope cl C X.env) fp) ifs tt)
    (hk : ∀ (s : Shared) (H : Hp) (C : Addr) (cl : List (Str × Addr)) (fp : List Addr), PE (X.blk s H scope (compEnvC scope cl C X.env) fp) kx tk)
    (he : ∀ (s : Shared) (H : Hp) (C : Addr) (cl : List (Str × Addr)) (fp : List Addr), PE (X.blk s H scope (compEnvC scope cl C X.env) fp) vx tv) (hs : ∀ x, foldedSetIterable iter X.env x = pure x := by intro _; rfl) :
    PS X (.Assign [.Name y py] (.DictComp kx vx [⟨tg, iter, ifs, 0⟩] scope pos) spos) (tAsg (tDc wi g tt tk tv (own.map (·.2))) (gName i)) := by
  refine ⟨fun pins s σ H D I h => ?_⟩
  rw [exec_Assign_Name_used _ _ _ _ hsw]
  refine wpAny_bind (wpAny_standAt (wpAny_bind ?_))
  show wpAny _ X.A (do let _ ← comprehension (.DictComp kx vx [⟨tg, iter, ifs, 0⟩] scope pos) scope X.env (firstIterPos [⟨tg, iter, ifs, 0⟩] pos) newDict false (eval iter X.env) (some (assign (.Name y py) X.env))) _ _ s
  have h : tDc wi g tt tk tv (own.map (·.2)) σ H (fun x H1 => gName i x σ H1 D.nx) := h
  refine wpAny_bind (thn (dc_core (Qf := fun _ s' => SP X pins D .next s') hc hN I hi ok hg ht hk he hs h fun L C s' m H' I' q hn f => ?_) fun _ s' hq => wpAny_pure (wpAny_pure hq))
  show wpAny _ _ (assign (.Name y py) X.env (.ref L)) _ _ _
  refine wpAny_assign_Name (store_ok2 (v := V.ref L) I' hN hy (.inl hyl) rfl (fun s2 I2 ⟨a, sb, ha⟩ => ?_) (.inr hyl))
  obtain ⟨f0, f1, f2, f3, f4, f5⟩ := f
  have haC : C ≠ a := by
    rcases ha with z | z
    · rw [z]; exact f1
    · exact fun e => f4 y a z e.symm
  refine ⟨m, hn.sameBut sb haC, fun h3 sb3 => ?_⟩
  exact ⟨_, H', I2.turned (t' := s2.toks) (fun b o hb e => (sb3.2 b hb).trans e) f0 f1 f3 f4 f5, q⟩
end
end Ly

set_option Elab.async false
set_option linter.all false
set_option maxRecDepth 100000
set_option exponentiation.threshold 20000
set_option pp.deepTerms false
set_option pp.deepTerms.threshold 8
namespace K63
open PySem PySem.Spec PyProof.Rows L2 Ly Mt
/-! ### a dict by the kinds' names -/
def tabV (ns : List Str) (g : Nat → V) (n : Nat) : List (Key × V) := (List.range n).map fun i => (Sum.inr (ns.getD i noS), g i)
theorem tabV_succ (ns : List Str) (g : Nat → V) (n : Nat) : tabV ns g (n + 1) = tabV ns g n ++ [(Sum.inr (ns.getD n noS), g n)] := by
  unfold tabV
  rw [List.range_succ, List.map_append]; rfl
theorem tab_new {ns : List Str} {g : Nat → V} (nd : ns.Nodup) {n : Nat} (h : n < ns.length) : valV (tabV ns g n) (Sum.inr (ns.getD n noS)) = none := valV_none fun z => by
  obtain ⟨p, hp, e⟩ := List.mem_map.mp z
  obtain ⟨i, hi, rfl⟩ := List.mem_map.mp hp
  have hi' := List.mem_range.mp hi
  have := getD_inj nd (by omega) h (Sum.inr.inj e)
  omega
theorem tab_at {ns : List Str} {g : Nat → V} (nd : ns.Nodup) : ∀ n, n ≤ ns.length → ∀ i, i < n → valV (tabV ns g n) (Sum.inr (ns.getD i noS)) = some (g i)
  | 0, _, i, h => by omega
  | n + 1, hn, i, h => by
    rw [tabV_succ, valV_snoc _ _ _ _ (tab_new nd (by omega))]
    by_cases e : i = n
    · subst e; rw [if_pos rfl]
    · rw [if_neg (fun z => e (getD_inj nd (by omega) (by omega) (Sum.inr.inj z)))]
      exact tab_at nd n (by omega) i (by omega)
theorem tab_get {ns : List Str} {g : Nat → V} (nd : ns.Nodup) {f : Str} (h : f ∈ ns) : valV (tabV ns g ns.length) (Sum.inr f) = some (g (ns.idxOf f)) := by
  have hi := List.idxOf_lt_length_of_mem h
  have e : ns.getD (ns.idxOf f) noS = f := by
    rw [List.getD_eq_getElem?_getD, List.getElem?_eq_getElem hi]
    exact List.getElem_idxOf hi
  have := tab_at (g := g) nd _ (Nat.le_refl _) _ hi
  rw [e] at this
  exact this
/-! ### the table's rows -/
theorem row_mem {ks : List Kd} {i j : Nat} {kd : Kd} {m : Mk} (hk : ks[i]? = some kd) (hm : kd.2[j]? = some m) : mkRow (ks.map (·.1)) i j m ∈ rowsOf ks ks.length := by
  have hi := (List.getElem?_eq_some_iff.mp hk).1
  have e1 : ks.getD i (noS, []) = kd := by rw [List.getD_eq_getElem?_getD, hk]; rfl
  unfold rowsOf
  refine List.mem_flatMap.mpr ⟨i, List.mem_range.mpr hi, ?_⟩
  rw [e1]
  exact List.mem_of_getElem? (kindRows_at hm)
theorem tb_get {K : PySem.W.Frag} {H : Hp} {d : Addr} {ks : List Kd} (tb : TableAt K H d (rowsOf ks ks.length)) (ok : KindsOk ks) {i j : Nat} {kd : Kd} {m : Mk} (hk : ks[i]? = some kd) (hm : kd.2[j]? = some m) : ∃ v, DGet H d (.str m.1) (some v) ∧ Im K H v (rowD (mkRow (ks.map (·.1)) i j m)) := by
  obtain ⟨n, hn⟩ := List.getElem?_of_mem (row_mem hk hm)
  have nd : ((rowsOf ks ks.length).map (·.1)).Nodup := by rw [rows_names]; exact ok.ndm
  obtain ⟨kvs, v, e, hv, iv⟩ := tb.get nd hn
  refine ⟨v, ?_, iv⟩
  have g : DGet H d (kV (Sum.inr m.1)) (valV kvs (Sum.inr m.1)) := .k e
  have hv' : valV kvs (Sum.inr m.1) = some v := hv
  rw [hv'] at g
  exact g
theorem wdI_place {ns : List Str} {dims : List Nat} (f : Str) : wdI dims (placeOf ns f) = wd ns dims f := by
  unfold wdI placeOf wd
  by_cases h : f ∈ ns
  · rw [if_pos h, if_pos h, if_neg (by omega), Int.toNat_natCast]
  · rw [if_neg h, if_neg h, if_pos rfl]
theorem place_in {ns : List Str} (f : Str) : placeOf ns f = -1 ∨ 0 ≤ placeOf ns f ∧ (placeOf ns f).toNat < ns.length := by
  unfold placeOf
  by_cases h : f ∈ ns
  · rw [if_pos h]
    have := List.idxOf_lt_length_of_mem h
    exact .inr ⟨by omega, by rw [Int.toNat_natCast]; exact this⟩
  · rw [if_neg h]; exact .inl rfl
section
variable {P : Program} {w : World} {K : PySem.W.Frag} {mg : Str → Option Value} {base : Heap}
abbrev s_are_reads : Stmt := topS 46
theorem sc_are_reads : FnScope ["thing", "kinds", "dims", "sizes", "_", "kind", "vector", "read", "dim"] ["thing", "kinds", "dims"] (defScope s_are_reads) := ⟨rfl, rfl, rfl, by decide +kernel, rfl, by decide +kernel, by decide +kernel⟩
def sp_reads (K : PySem.W.Frag) : Sp := fun vs H Q _ => ∃ v u z rs ks dims, vs = [v, u, z] ∧ Im K H v (rdsD rs) ∧ Im K H u (ksD ks) ∧ Im K H z (nsD dims) ∧ KindsOk ks ∧ dims.length = ks.length ∧ (∀ d ∈ dims, d ≤ 32) ∧ ReadsOk (ks.map (·.1)) dims rs ∧ ∀ H', Same H H' → Q (.bl true) H'
set_option maxHeartbeats 1000000 in
theorem ok_are_reads {f : Addr} {fd : FuncData} {k : Nat} (F : Fun K "are_reads" "are_reads" s_are_reads f fd) (T : Tx K mg){k1 : Nat} (D_is_row : Def P w K mg base k1 "is_row" s_is_row ["thing", "low", "high"] (sp_is_row K)) {k2 : Nat} (D_is_vector_of : Def P w K mg base k2 "is_vector_of" s_is_vector_of ["thing", "size"] (sp_vec_of K)) {k3 : Nat} (D_is_low : Def P w K mg base k3 "is_low" s_is_low ["thing"] sp_is_low) {k4 : Nat} (D_all_unlike : Def P w K mg base k4 "all_unlike" s_all_unlike ["names"] (sp_unlike K)) (e1 : k1 ≤ k) (e2 : k2 ≤ k) (e3 : k3 ≤ k) (e4 : k4 ≤ k) : FnOk P w K mg base CX0 (k + 1) f fd ["thing", "kinds", "dims"] (sp_reads K) := by
  have nd := sc_are_reads.nd
  refine F.ok sc_are_reads (fun vs H Q E h => ?_) (fun cdv A outer s H vs Q E hr h => ?_)
  · obtain ⟨_, _, _, _, _, _, rfl, _⟩ := h
    rfl
  · obtain ⟨v, u, z, rs, ks, dims, rfl, iv, iu, iz, ok, ld, d32, ro, q⟩ := h
    obtain ⟨a, xs, rfl, ha, hx⟩ := iv.tuple_inv
    obtain ⟨b, ys, rfl, hb, hy⟩ := iu.tuple_inv
    obtain ⟨c, zs, rfl, hc, hz⟩ := iz.tuple_inv
    obtain rfl := im_nats hz
    have lx := all_len hx
    have ly := all_len hy
    have few := ro.few
    have kf := ok.few
    refine ⟨_, (pss_cons (ps_if (PW.pt (pw_or (pt_not (pt_val (pe_def D_is_row (hr.mono (by omega)) rfl (pa_cons (pv 0) (pa_cons pe_int (pa_cons (pe_gv rfl T.g_MOST_READS) pa_nil)))))) (pw_or1 (pt_not (pt_val (pe_callB (kcr_all K) (by rfl) T.m_all (by decide +kernel) (pa_cons (pe_lc (own := [("read", 7)]) (g := gName 7) (tt := tYes) rfl nd (kpi_tup K (pv 0)) (blkOk_by (by rfl)) (fun _ _ _ _ _ => (pg_name (i := 7) nd rfl (.inl rfl))) (fun _ _ _ _ _ => pts_nil) (fun _ _ _ _ _ => (pe_and (pe_def D_is_row (hr.mono (by omega)) rfl (pa_cons (pv 7) (pa_cons pe_int (pa_cons pe_int pa_nil)))) (pe_one (pe_def D_is_low (hr.mono (by omega)) rfl (pa_cons (pe_ix (kix_tup K) (pv 7) pe_int (fun _ _ => rfl)) pa_nil)))))) pa_nil)))))))
        (pss_one (ps_ret pe_bl))
        pss_nil)
      (pss_cons (ps_setDc (i := 3) (own := [("kind", 5), ("dim", 8)]) (g := _) (tt := tYes) rfl nd rfl rfl (sw_trueD rfl rfl rfl (by decide +kernel)) (kpi_zip K (by rfl) T.m_zip (pa_cons (pv 1) (pa_cons (pv 2) pa_nil))) (blkOk_by (by rfl)) (fun _ _ _ _ _ => (kpg_tup K (n := 2) rfl (pgs_cons (pg_name (i := 5) nd rfl (.inl rfl)) (pgs_cons (pg_name (i := 8) nd rfl (.inl rfl)) pgs_nil)))) (fun _ _ _ _ _ => pts_nil) (fun _ _ _ _ _ => (pe_ix (kix_tup K) (pv 5) pe_int (fun _ _ => rfl))) (fun _ _ _ _ _ => (pv 8)))
      (pss_cons (ps_for PassesOwn.never rfl (kpi_tup K (pv 0)) (kpg_tup K (n := 3) rfl (pgs_cons (pg_name (i := 4) nd rfl (.inl rfl)) (pgs_cons (pg_name (i := 5) nd rfl (.inl rfl)) (pgs_cons (pg_name (i := 6) nd rfl (.inl rfl)) pgs_nil))))
        (pss_one (ps_if (PW.pt (pw_or (pt_not (pt_val (pe_callB (kcall_isi K) (by rfl) T.m_isinstance (by decide +kernel) (pa_cons (pv 5) (pa_cons (pe_bltn (v := .ty "str") (u := .type "str") (by rfl) T.m_str (by decide +kernel) rfl) pa_nil))))) (pw_or (pt_cmp (pc_dnotin (hu_of hr) (pv 5) (pv 3))) (pw_or1 (pt_not (pt_val (pe_def D_is_vector_of (hr.mono (by omega)) rfl (pa_cons (pv 6) (pa_cons (pe_dget (hu_of hr) (pv 3) (pv 5) (fun _ _ => rfl)) pa_nil)))))))))
          (pss_one (ps_ret pe_bl))
          pss_nil)))
      (pss_one (ps_ret (pe_def D_all_unlike (hr.mono (by omega)) rfl (pa_cons (pe_lc (own := [("read", 7)]) (g := gName 7) (tt := tYes) rfl nd (kpi_tup K (pv 0)) (blkOk_by (by rfl)) (fun _ _ _ _ _ => (pg_name (i := 7) nd rfl (.inl rfl))) (fun _ _ _ _ _ => pts_nil) (fun _ _ _ _ _ => (pe_ix (kix_tup K) (pv 7) pe_int (fun _ _ => rfl)))) pa_nil))))))), ?_⟩
    refine ⟨.ref a, rfl, a, xs, 0, 60, rfl, ha, by omega, by omega, true, rfl, iteF ⟨.ref a, rfl, a, rfl, ⟨_, ha.sq⟩, fun D hD => ?_⟩⟩
    refine lc_yes (walk_tup (xs := xs)) hD (small1000 (by omega)) (fun H' s => (ha.mono (tk_same s)).sq) (fun i x H2 H3 R hi s2 y yes => ?_) (fun H2 s2 e2 => ⟨D, _, rfl, .of e2, ?_⟩)
    · obtain ⟨rfl, hxi⟩ := y
      obtain ⟨r, hr', ir⟩ := all_get (ImAll.mono (tk_same s2) _ hx) hxi
      obtain ⟨p, x1, x2, x3, rfl, hp, i1, i2, i3⟩ := im_trip ir
      obtain rfl := i1.str_inv
      obtain ⟨nok, lo⟩ := ro.low r (List.mem_of_getElem? hr')
      exact ⟨rfl, .ref p, rfl, p, _, 3, 3, rfl, hp, (by show (3 : Int) ≤ 3; decide), (by show (3 : Int) ≤ 3; decide), true, rfl, iteT ⟨.ref p, rfl, p, _, 0, _, rfl, rfl, hp.sq, atI_nat (j := 0) rfl, r.1, rfl, nok, lo, fun H5 s5 => yes H5 s5⟩⟩
    · rw [rep_all]
      refine ⟨true, rfl, iteF ?_⟩
      refine ⟨.ref b, rfl, .ref c, rfl, b, c, _, _, rfl, .inr ⟨(hb.mono (tk_same s2)).sq, (hc.mono (tk_same s2)).sq, fun d0 hd0 => ?_⟩⟩
      have lz : ys.length = (dims.map fun n : Nat => V.int (n : Nat)).length := by rw [List.length_map, ly]; exact ld.symm
      refine dc_all (walk_zipT (xs := ys) (ys := dims.map fun n : Nat => V.int (n : Nat)) lz) (fun i Hx => Same H2 Hx ∧ Hx d0 = some (.dK (tabV (ks.map (·.1)) (fun t => V.int ((dims.getD t 0 : Nat) : Int)) i))) ⟨same_new hd0, upd_same⟩ (fun i Hx _ z => ⟨(hb.mono (tk_same (s2.trans z.1))).sq, (hc.mono (tk_same (s2.trans z.1))).sq⟩) (fun i x Hx Hy hi z y => ?_) (fun H3 z => ?_)
      · obtain ⟨sm, eD⟩ := z
        obtain ⟨T, x1, x2, rfl, hT, rfl, e1, e2⟩ := y
        simp only [List.getElem?_map] at e2
        obtain ⟨dm, hdm, rfl⟩ := Option.map_eq_some_iff.mp e2
        obtain ⟨kd, hkd, ikd⟩ := all_get (ImAll.mono (tk_same (s2.trans sm)) _ hy) e1
        obtain ⟨pk, u1, u2, rfl, hpk, iu1, iu2⟩ := im_pair ikd
        obtain rfl := iu1.str_inv
        have sT := same_new (o := .tup [.ref pk, .int (dm : Nat)]) hT
        have en : (ks.map (·.1)).getD i noS = kd.1 := by
          rw [List.getD_eq_getElem?_getD, List.getElem?_map, hkd]; rfl
        have ed : dims.getD i 0 = dm := by rw [List.getD_eq_getElem?_getD, hdm]; rfl
        refine ⟨T, _, rfl, .of upd_same, rfl, .ref pk, _, rfl, .int (dm : Nat), _, rfl, rfl, rfl, .ref pk, rfl, pk, _, 0, _, rfl, rfl, (hpk.mono (tk_same sT)).sq, atI_nat (j := 0) rfl, .int (dm : Nat), rfl, _, Sum.inr kd.1, rfl, sT _ _ eD, small1000 (by unfold tabV; rw [List.length_map, List.length_range]; omega), fun b' o e => ?_, ?_⟩
        · rw [upd_ne (ne_of_none e hd0)]; exact sT _ _ (sm _ _ e)
        · rw [upd_same, tabV_succ, en, ed]
          congr 2
          exact putK_new _ (by rw [← en]; exact tab_new ok.nd (by rw [List.length_map]; omega))
      · obtain ⟨sm, eD⟩ := z
        rw [ly] at eD
        have s3 := s2.trans sm
        refine ⟨.ref a, rfl, a, rfl, ⟨_, (ha.mono (tk_same s3)).sq⟩, ?_⟩
        refine for_it (walk_tup (xs := xs)) (fun j σ Hb => ∃ (y4 y5 y6 : Option V), σ = [some (.ref a), some (.ref b), some (.ref c), some (.ref d0), y4, y5, y6, none, none] ∧ Same H3 Hb) ⟨_, _, _, rfl, Same.refl _⟩ (fun j σ Hb _ z => ?_) ?_ ?_
        · obtain ⟨_, _, _, _, s6⟩ := z
          exact (ha.mono (tk_same (s3.trans s6))).sq
        · rintro j x σ Hb Hc hj ⟨y4, y5, y6, rfl, s6⟩ ⟨rfl, hxj⟩
          have s7 := s3.trans s6
          obtain ⟨r, hr', ir⟩ := all_get (ImAll.mono (tk_same s7) _ hx) hxj
          obtain ⟨p, x1, x2, x3, rfl, hp, i1, i2, i3⟩ := im_trip ir
          obtain rfl := i2.str_inv
          obtain ⟨hk, hl⟩ := ro.kind r (List.mem_of_getElem? hr')
          have g : DGet Hc d0 (kV (Sum.inr r.2.1)) (valV (tabV (ks.map (·.1)) (fun t => V.int ((dims.getD t 0 : Nat) : Int)) ks.length) (Sum.inr r.2.1)) := .k (s6 _ _ eD)
          have tg := tab_get (g := fun t => V.int ((dims.getD t 0 : Nat) : Int)) ok.nd hk
          rw [List.length_map] at tg
          rw [tg, ← hl] at g
          have g2 : DGet Hc d0 (.str r.2.1) (some (.int (r.2.2.length : Nat))) := g
          have l32 : r.2.2.length ≤ 32 := by
            rw [hl, List.getD_eq_getElem?_getD]
            by_cases hh : (ks.map (·.1)).idxOf r.2.1 < dims.length
            · rw [List.getElem?_eq_getElem hh]
              exact d32 _ (List.getElem_mem hh)
            · rw [List.getElem?_eq_none (by omega)]; decide
          refine ⟨p, _, rfl, hp.sq, rfl, x1, _, rfl, .str r.2.1, _, rfl, x3, _, rfl, rfl, ?_⟩
          refine ⟨.str r.2.1, rfl, .str r.2.1, _, .type "str", _, true, rfl, .ty _, .base (.str r.2.1), kit_ty (by decide +kernel), true, rfl, iteF ?_⟩
          refine ⟨.str r.2.1, rfl, .ref d0, rfl, d0, _, rfl, g2, false, rfl, iteF ?_⟩
          exact ⟨x3, rfl, .ref d0, rfl, .str r.2.1, rfl, d0, _, rfl, g2, x3, r.2.2, rfl, i3, by omega, fun H5 s5 => ⟨true, rfl, iteF ⟨_, _, _, rfl, s6.trans s5⟩⟩⟩
        · rintro σ Hb ⟨y4, y5, y6, rfl, s6⟩
          have s7 := s3.trans s6
          have ha7 := ha.mono (tk_same s7)
          refine ⟨.ref a, rfl, a, rfl, ⟨_, ha7.sq⟩, fun D3 hD3 => ?_⟩
          refine lc_all (walk_tup (xs := xs)) (fun i Hx => Same Hb Hx ∧ Hx D3 = some (.lst (((rs.take i).map (·.1)).map V.str))) ⟨same_new hD3, upd_same⟩ (fun i Hx _ z => (ha7.mono (tk_same z.1)).sq) (fun i x Hx Hy hi z y => ?_) (fun Hx z => ?_)
          · obtain ⟨s8, eD3⟩ := z
            obtain ⟨rfl, hxi⟩ := y
            obtain ⟨r, hr', ir⟩ := all_get (ImAll.mono (tk_same (s7.trans s8)) _ hx) hxi
            obtain ⟨p, x1, x2, x3, rfl, hp, i1, i2, i3⟩ := im_trip ir
            obtain rfl := i1.str_inv
            refine ⟨rfl, .ref p, rfl, p, _, 0, _, rfl, rfl, hp.sq, atI_nat (j := 0) rfl, _, eD3, small1000 (by rw [List.length_map, List.length_map, List.length_take]; omega), fun b o e => ?_, ?_⟩
            · rw [upd_ne (ne_of_none e hD3)]; exact s8 _ _ e
            · rw [upd_same, List.take_add_one, hr', List.map_append, List.map_append]; rfl
          · obtain ⟨s8, eD3⟩ := z
            rw [lx, List.take_of_length_le (Nat.le_refl _)] at eD3
            exact ⟨D3, rs.map (·.1), rfl, eD3, ro.nd, by rw [List.length_map]; omega, q _ (s7.trans s8)⟩
abbrev s_are_maps : Stmt := topS 47
theorem sc_are_maps : FnScope ["thing", "kinds", "dims", "most", "table", "_", "makers", "dim", "row", "maker", "terms"] ["thing", "kinds", "dims", "most"] (defScope s_are_maps) := ⟨rfl, rfl, rfl, by decide +kernel, rfl, by decide +kernel, by decide +kernel⟩
structure MapsOk (ks : List Kd) (dims : List Nat) (most : Nat) (maps : List (List (List Tm))) : Prop where
  lm : maps.length = ks.length
  lr : ∀ (i : Nat) kd row, ks[i]? = some kd → maps[i]? = some row → row.length = kd.2.length
  tm : ∀ (i : Nat) kd row, ks[i]? = some kd → maps[i]? = some row → ∀ (j : Nat) m ts, kd.2[j]? = some m → row[j]? = some ts → TermsOk (dims.getD i 0) (m.2.map (wd (ks.map (·.1)) dims)) most ts
def sp_maps (K : PySem.W.Frag) : Sp := fun vs H Q _ => ∃ v u z maps ks dims most, vs = [v, u, z, .int (most : Nat)] ∧ Im K H v (mpD maps) ∧ Im K H u (ksD ks) ∧ Im K H z (nsD dims) ∧ KindsOk ks ∧ dims.length = ks.length ∧ most ≤ 8000 ∧ MapsOk ks dims most maps ∧ ∀ H', Same H H' → Q (.bl true) H'
set_option maxHeartbeats 1000000 in
theorem ok_are_maps {f : Addr} {fd : FuncData} {k : Nat} (F : Fun K "are_maps" "are_maps" s_are_maps f fd) (T : Tx K mg){k1 : Nat} (D_is_row : Def P w K mg base k1 "is_row" s_is_row ["thing", "low", "high"] (sp_is_row K)) {k2 : Nat} (D_maker_table : Def P w K mg base k2 "maker_table" s_maker_table ["kinds"] (sp_maker_table K)) {k3 : Nat} (D_are_terms : Def P w K mg base k3 "are_terms" s_are_terms ["thing", "dim", "widths", "most"] (sp_terms K)) {k4 : Nat} (D_widths_of : Def P w K mg base k4 "widths_of" s_widths_of ["fields", "dims"] (sp_widths K)) (e1 : k1 ≤ k) (e2 : k2 ≤ k) (e3 : k3 ≤ k) (e4 : k4 ≤ k) : FnOk P w K mg base CX0 (k + 1) f fd ["thing", "kinds", "dims", "most"] (sp_maps K) := by
  have nd := sc_are_maps.nd
  refine F.ok sc_are_maps (fun vs H Q E h => ?_) (fun cdv A outer s H vs Q E hr h => ?_)
  · obtain ⟨_, _, _, _, _, _, _, rfl, _⟩ := h
    rfl
  · obtain ⟨v, u, z, maps, ks, dims, most, rfl, iv, iu, iz, ok, ld, m8, mo, q⟩ := h
    obtain ⟨a, xs, rfl, ha, hx⟩ := iv.tuple_inv
    obtain ⟨b, ys, rfl, hb, hy⟩ := iu.tuple_inv
    obtain ⟨c, zs, rfl, hc, hz⟩ := iz.tuple_inv
    obtain rfl := im_nats hz
    have lx := all_len hx
    have ly := all_len hy
    have lm := mo.lm
    have kf := ok.few
    refine ⟨_, (pss_cons (ps_if (pt_not (pt_val (pe_def D_is_row (hr.mono (by omega)) rfl (pa_cons (pv 0) (pa_cons (pe_callB (kcall_len K) (by rfl) T.m_len PySem.boot_len (pa_cons (pv 1) pa_nil)) (pa_cons (pe_callB (kcall_len K) (by rfl) T.m_len PySem.boot_len (pa_cons (pv 1) pa_nil)) pa_nil))))))
        (pss_one (ps_ret pe_bl))
        pss_nil)
      (pss_cons (ps_set (i := 4) nd rfl (.inl rfl) (pe_def D_maker_table (hr.mono (by omega)) rfl (pa_cons (pv 1) pa_nil)))
      (pss_cons (ps_for PassesOwn.never rfl (kpi_zipT3 K (by rfl) T.m_zip (pa_cons (pv 1) (pa_cons (pv 2) (pa_cons (pv 0) pa_nil)))) (kpg_tup K (n := 3) rfl (pgs_cons (kpg_tup K (n := 2) rfl (pgs_cons (pg_name (i := 5) nd rfl (.inl rfl)) (pgs_cons (pg_name (i := 6) nd rfl (.inl rfl)) pgs_nil))) (pgs_cons (pg_name (i := 7) nd rfl (.inl rfl)) (pgs_cons (pg_name (i := 8) nd rfl (.inl rfl)) pgs_nil))))
        (pss_cons (ps_if (pt_not (pt_val (pe_def D_is_row (hr.mono (by omega)) rfl (pa_cons (pv 8) (pa_cons (pe_callB (kcall_len K) (by rfl) T.m_len PySem.boot_len (pa_cons (pv 6) pa_nil)) (pa_cons (pe_callB (kcall_len K) (by rfl) T.m_len PySem.boot_len (pa_cons (pv 6) pa_nil)) pa_nil))))))
          (pss_one (ps_ret pe_bl))
          pss_nil)
        (pss_one (ps_for PassesOwn.never rfl (kpi_zip K (by rfl) T.m_zip (pa_cons (pv 6) (pa_cons (pv 8) pa_nil))) (kpg_tup K (n := 2) rfl (pgs_cons (kpg_tup K (n := 2) rfl (pgs_cons (pg_name (i := 9) nd rfl (.inl rfl)) (pgs_cons (pg_name (i := 5) nd rfl (.inl rfl)) pgs_nil))) (pgs_cons (pg_name (i := 10) nd rfl (.inl rfl)) pgs_nil)))
          (pss_one (ps_if (pt_not (pt_val (pe_def D_are_terms (hr.mono (by omega)) rfl (pa_cons (pv 10) (pa_cons (pv 7) (pa_cons (pe_def D_widths_of (hr.mono (by omega)) rfl (pa_cons (pe_ix (kix_tup K) (pe_dget (hu_of hr) (pv 4) (pv 9) (fun _ _ => rfl)) pe_int (fun _ _ => rfl)) (pa_cons (pv 2) pa_nil))) (pa_cons (pv 3) pa_nil)))))))
            (pss_one (ps_ret pe_bl))
            pss_nil))))))
      (pss_one (ps_ret pe_bl))))), ?_⟩
    refine ⟨.ref a, rfl, .ref b, rfl, b, ys, rfl, .inr hb.sq, .ref b, rfl, b, ys, rfl, .inr hb.sq, a, xs, _, _, rfl, ha, by omega, by omega, true, rfl, iteF ?_⟩
    refine ⟨.ref b, rfl, .ref b, ks, rfl, .tup hb hy, ok, fun d H1 s1 hd1 tb => ?_⟩
    have hb1 := hb.mono (tk_same s1)
    have hc1 := hc.mono (tk_same s1)
    have ha1 := ha.mono (tk_same s1)
    refine ⟨.ref b, rfl, .ref c, rfl, .ref a, rfl, b, c, a, _, _, _, rfl, hb1.sq, hc1.sq, ha1.sq, ?_⟩
    have lz : ys.length = (dims.map fun n : Nat => V.int (n : Nat)).length := by rw [List.length_map, ly]; exact ld.symm
    refine for_it (walk_zipT3 (xs := ys) (ys := dims.map fun n : Nat => V.int (n : Nat)) (zs := xs) lz (by omega)) (fun j σ Hb => ∃ (y5 y6 y7 y8 y9 y10 : Option V), σ = [some (.ref a), some (.ref b), some (.ref c), some (.int (most : Nat)), some (.ref d), y5, y6, y7, y8, y9, y10] ∧ Same H1 Hb) ⟨_, _, _, _, _, _, rfl, Same.refl _⟩ (fun j σ Hb _ z => ?_) ?_ ?_
    · obtain ⟨_, _, _, _, _, _, _, s6⟩ := z
      exact ⟨(hb1.mono (tk_same s6)).sq, (hc1.mono (tk_same s6)).sq, (ha1.mono (tk_same s6)).sq⟩
    · rintro i x σ Hb Hc hi ⟨y5, y6, y7, y8, y9, y10, rfl, s6⟩ ⟨T, x1, x2, x3, rfl, hT, rfl, e1, e2, e3⟩
      simp only [List.getElem?_map] at e2
      obtain ⟨dm, hdm, rfl⟩ := Option.map_eq_some_iff.mp e2
      have sH := s1.trans s6
      obtain ⟨kd, hkd, ikd⟩ := all_get (ImAll.mono (tk_same sH) _ hy) e1
      obtain ⟨row, hrow, irow⟩ := all_get (ImAll.mono (tk_same sH) _ hx) e3
      obtain ⟨pk, u1, u2, rfl, hpk, iu1, iu2⟩ := im_pair ikd
      obtain rfl := iu1.str_inv
      obtain ⟨pm, us, rfl, hpm, ius⟩ := iu2.tuple_inv
      obtain ⟨pr, ws, rfl, hpr, iws⟩ := irow.tuple_inv
      have kmem := List.mem_of_getElem? hkd
      have lus : us.length = kd.2.length := all_len ius
      have lws : ws.length = row.length := all_len iws
      have lrow := mo.lr i kd row hkd hrow
      have mk6 := ok.mks kd kmem
      have sT := same_new (o := .tup [.ref pk, .int (dm : Nat), .ref pr]) hT
      refine ⟨T, _, rfl, .of upd_same, rfl, .ref pk, _, rfl, pk, _, rfl, (hpk.mono (tk_same sT)).sq, rfl, .str kd.1, _, rfl, .ref pm, _, rfl, rfl, .int (dm : Nat), _, rfl, .ref pr, _, rfl, rfl, ?_⟩
      have hpm2 := hpm.mono (tk_same sT)
      have hpr2 := hpr.mono (tk_same sT)
      have ius2 := ImAll.mono (tk_same sT) _ ius
      have iws2 := ImAll.mono (tk_same sT) _ iws
      have s7 := s6.trans sT
      generalize upd Hb T (.tup [.ref pk, .int (dm : Nat), .ref pr]) = H2 at *
      refine ⟨.ref pr, rfl, .ref pm, rfl, pm, us, rfl, .inr hpm2.sq, .ref pm, rfl, pm, us, rfl, .inr hpm2.sq, pr, ws, _, _, rfl, hpr2, by omega, by omega, true, rfl, iteF ?_⟩
      refine ⟨.ref pm, rfl, .ref pr, rfl, pm, pr, _, _, rfl, .inr ⟨hpm2.sq, hpr2.sq, ?_⟩⟩
      refine for_it (walk_zipT (xs := us) (ys := ws) (by omega)) (fun j σ Hd => ∃ (y5 y9 y10 : Option V), σ = [some (.ref a), some (.ref b), some (.ref c), some (.int (most : Nat)), some (.ref d), y5, some (.ref pm), some (.int (dm : Nat)), some (.ref pr), y9, y10] ∧ Same H2 Hd) ⟨_, _, _, rfl, Same.refl _⟩ (fun j σ Hd _ z => ?_) ?_ ?_
      · obtain ⟨_, _, _, _, s8⟩ := z
        exact ⟨(hpm2.mono (tk_same s8)).sq, (hpr2.mono (tk_same s8)).sq⟩
      · rintro j x σ Hd He hj ⟨y5, y9, y10, rfl, s8⟩ ⟨T2, x1, x2, rfl, hT2, rfl, f1, f2⟩
        obtain ⟨m, hm, im⟩ := all_get (ImAll.mono (tk_same s8) _ ius2) f1
        obtain ⟨ts, hts, its⟩ := all_get (ImAll.mono (tk_same s8) _ iws2) f2
        obtain ⟨pp, w1, w2, rfl, hpp, iw1, iw2⟩ := im_pair im
        obtain rfl := iw1.str_inv
        have to := mo.tm i kd row hkd hrow j m ts hm hts
        have sT2 := same_new (o := .tup [.ref pp, x2]) hT2
        refine ⟨T2, _, rfl, .of upd_same, rfl, .ref pp, _, rfl, pp, _, rfl, (hpp.mono (tk_same sT2)).sq, rfl, .str m.1, _, rfl, w2, _, rfl, rfl, x2, _, rfl, rfl, ?_⟩
        have s9 := (s7.trans s8).trans sT2
        have tb9 := tb.same s9
        obtain ⟨vr, gr, ir⟩ := tb_get tb9 ok hkd hm
        obtain ⟨qr, r1, r2, r3, rfl, hqr, ir1, ir2, ir3⟩ := im_trip ir
        have its9 := Im.mono (tk_same sT2) _ its
        have iz9 : Im K (upd Hd T2 (.tup [.ref pp, x2])) (.ref c) (nsD dims) := Im.mono (tk_same (s1.trans s9)) _ (.tup hc hz)
        generalize upd Hd T2 (.tup [.ref pp, x2]) = H9 at *
        have l4 := (ok.mkk _ kmem _ (List.mem_of_getElem? hm)).2
        have ir3' : Im K H9 r3 (.tuple ((m.2.map (placeOf (ks.map (·.1)))).map .int)) := ir3
        refine ⟨x2, rfl, .int (dm : Nat), rfl, .ref d, rfl, .str m.1, rfl, d, _, rfl, gr, qr, _, 2, r3, rfl, rfl, hqr.sq, atI_nat (j := 2) rfl, .ref c, rfl, r3, .ref c, _, dims, rfl, ir3', iz9, by rw [List.length_map]; omega, fun f hf => ?_, fun Dw H10 s10 hDw eDw => ?_⟩
        · obtain ⟨f', _, rfl⟩ := List.mem_map.mp hf
          have := place_in (ns := ks.map (·.1)) f'
          rw [List.length_map] at this
          rw [ld]; exact this
        · have edm : dims.getD i 0 = dm := by rw [List.getD_eq_getElem?_getD, hdm]; rfl
          rw [edm] at to
          have ewd : (m.2.map (placeOf (ks.map (·.1)))).map (wdI dims) = m.2.map (wd (ks.map (·.1)) dims) := by
            rw [List.map_map]
            exact List.map_congr_left fun f _ => wdI_place f
          rw [ewd] at eDw
          exact ⟨.int (most : Nat), rfl, x2, Dw, ts, dm, _, most, rfl, Im.mono (tk_same s10) _ its9, eDw, by rw [List.length_map]; omega, m8, to, fun H11 s11 => ⟨true, rfl, iteF ⟨_, _, _, rfl, ((s8.trans sT2).trans s10).trans s11⟩⟩⟩
      · rintro σ Hd ⟨y5, y9, y10, rfl, s8⟩
        exact ⟨_, _, _, _, _, _, rfl, s7.trans s8⟩
    · rintro σ Hb ⟨y5, y6, y7, y8, y9, y10, rfl, s6⟩
      exact q _ (s1.trans s6)
end
end K63

set_option Elab.async false
set_option linter.all false
set_option maxRecDepth 100000
set_option exponentiation.threshold 20000
set_option pp.deepTerms false
set_option pp.deepTerms.threshold 8
namespace K63
open PySem PySem.Spec PyProof.Rows L2 Ly Mt
/-- where the errors' classes stand -/
structure Er where
  (t r f n : Addr)
structure Tr (K : PySem.W.Frag) (mg : Str → Option Value) (er : Er) : Prop where
  g_TreeError : mg "TreeError" = some (.ref er.t)
  x_TreeError : PySem.W.excIn K er.t [.type "ValueError", .type "Exception", .type "BaseException", .type "object"] "ValueError.__new__" = true
  k_TreeError : PySem.W.keepIn K (.ref er.t) = true
  b_TreeError : PySem.W.subIn K (.ref er.t) (.type "BaseException") = some true
  t_TreeError : PySem.W.typeIn K (.ref er.t) = some (.type "type")
  g_BadRows : mg "BadRows" = some (.ref er.r)
  x_BadRows : PySem.W.excIn K er.r [.type "ValueError", .type "Exception", .type "BaseException", .type "object"] "ValueError.__new__" = true
  k_BadRows : PySem.W.keepIn K (.ref er.r) = true
  b_BadRows : PySem.W.subIn K (.ref er.r) (.type "BaseException") = some true
  t_BadRows : PySem.W.typeIn K (.ref er.r) = some (.type "type")
  e_rn : PySem.W.exmOne K (.ref er.r) (.ref er.n) = some false
  e_rr : PySem.W.exmOne K (.ref er.r) (.ref er.r) = some true
  g_BadForm : mg "BadForm" = some (.ref er.f)
  x_BadForm : PySem.W.excIn K er.f [.type "ValueError", .type "Exception", .type "BaseException", .type "object"] "ValueError.__new__" = true
  k_BadForm : PySem.W.keepIn K (.ref er.f) = true
  b_BadForm : PySem.W.subIn K (.ref er.f) (.type "BaseException") = some true
  t_BadForm : PySem.W.typeIn K (.ref er.f) = some (.type "type")
  g_BadName : mg "BadName" = some (.ref er.n)
  x_BadName : PySem.W.excIn K er.n [.type "ValueError", .type "Exception", .type "BaseException", .type "object"] "ValueError.__new__" = true
  k_BadName : PySem.W.keepIn K (.ref er.n) = true
  b_BadName : PySem.W.subIn K (.ref er.n) (.type "BaseException") = some true
  t_BadName : PySem.W.typeIn K (.ref er.n) = some (.type "type")
  e_nn : PySem.W.exmOne K (.ref er.n) (.ref er.n) = some true
/-! ### rows of trees as data -/
abbrev Rw := Str × List Int
def rwD (r : Rw) : PyData := .tuple [.str r.1, .tuple (r.2.map .int)]
def rwsD (rs : List Rw) : PyData := .tuple (rs.map rwD)
/-- the row's maker -/
structure At (ks : List Kd) (r : Rw) (i j : Nat) (kd : Kd) (m : Mk) : Prop where
  hk : ks[i]? = some kd
  hm : kd.2[j]? = some m
  nm : r.1 = m.1
def KindAt (ks : List Kd) (rows : List Rw) (t i : Nat) : Prop := ∃ r j kd m, rows[t]? = some r ∧ At ks r i j kd m
structure RowsOk (ks : List Kd) (rows : List Rw) : Prop where
  few : 1 ≤ rows.length ∧ rows.length ≤ 96
  each : ∀ (t : Nat) r, rows[t]? = some r → ∃ i j kd m, At ks r i j kd m ∧ r.2.length = m.2.length ∧
    ∀ (s : Nat) f e, m.2[s]? = some f → r.2[s]? = some e → f ∈ ks.map (·.1) → ∃ n : Nat, e = n ∧ n < t ∧ KindAt ks rows n ((ks.map (·.1)).idxOf f)
section
variable {P : Program} {w : World} {K : PySem.W.Frag} {mg : Str → Option Value} {base : Heap}
abbrev s_has_form : Stmt := topS 48
theorem sc_has_form : FnScope ["thing", "wide", "kinds", "dims", "maps", "reads"] ["thing", "wide"] (defScope s_has_form) := ⟨rfl, rfl, rfl, by decide +kernel, rfl, by decide +kernel, by decide +kernel⟩
def sp_need_form (K : PySem.W.Frag) (wide : Nat) : Sp := fun vs H Q _ => ∃ v F, vs = [v] ∧ Im K H v (fmD F) ∧ FormOk wide F ∧ ∀ H', Same H H' → Q .non H'
def sp_has_form (K : PySem.W.Frag) : Sp := fun vs H Q _ => ∃ v F wide, vs = [v, .int (wide : Nat)] ∧ Im K H v (fmD F) ∧ FormOk wide F ∧ ∀ H', Same H H' → Q (.bl true) H'
theorem ok_has_form {f : Addr} {fd : FuncData} {k : Nat} (F : Fun K "has_form" "has_form" s_has_form f fd) (T : Tx K mg){k1 : Nat} (D_is_row : Def P w K mg base k1 "is_row" s_is_row ["thing", "low", "high"] (sp_is_row K)) {k2 : Nat} (D_is_kinds : Def P w K mg base k2 "is_kinds" s_is_kinds ["thing"] (sp_is_kinds K)) {k3 : Nat} (D_are_dims : Def P w K mg base k3 "are_dims" s_are_dims ["thing", "size", "wide"] (sp_dims K)) {k4 : Nat} (D_are_maps : Def P w K mg base k4 "are_maps" s_are_maps ["thing", "kinds", "dims", "most"] (sp_maps K)) {k5 : Nat} (D_are_reads : Def P w K mg base k5 "are_reads" s_are_reads ["thing", "kinds", "dims"] (sp_reads K)) (e1 : k1 ≤ k) (e2 : k2 ≤ k) (e3 : k3 ≤ k) (e4 : k4 ≤ k) (e5 : k5 ≤ k) : FnOk P w K mg base CX0 (k + 1) f fd ["thing", "wide"] (sp_has_form K) := by
  have nd := sc_has_form.nd
  refine F.ok sc_has_form (fun vs H Q E h => ?_) (fun cdv A outer s H vs Q E hr h => ?_)
  · obtain ⟨_, _, _, rfl, _⟩ := h
    rfl
  · obtain ⟨v, F, wide, rfl, iv, ok, q⟩ := h
    obtain ⟨a, x1, x2, x3, x4, rfl, ha, i1, i2, i3, i4⟩ := im_quad iv
    have kf := ok.kinds.few
    have wid := ok.wid
    have ld := ok.ld
    refine ⟨_, (pss_cons (ps_if (PW.pt (pw_or (pt_not (pt_val (pe_def D_is_row (hr.mono (by omega)) rfl (pa_cons (pv 0) (pa_cons pe_int (pa_cons pe_int pa_nil)))))) (pw_or (pt_not (pt_val (pe_def D_is_kinds (hr.mono (by omega)) rfl (pa_cons (pe_ix (kix_tup K) (pv 0) pe_int (fun _ _ => rfl)) pa_nil)))) (pw_or1 (pt_not (pt_val (pe_def D_are_dims (hr.mono (by omega)) rfl (pa_cons (pe_ix (kix_tup K) (pv 0) pe_int (fun _ _ => rfl)) (pa_cons (pe_callB (kcall_len K) (by rfl) T.m_len PySem.boot_len (pa_cons (pe_ix (kix_tup K) (pv 0) pe_int (fun _ _ => rfl)) pa_nil)) (pa_cons (pv 1) pa_nil))))))))))
        (pss_one (ps_ret pe_bl))
        pss_nil)
      (pss_cons (ps_asg (pv 0) (kpg_tup K (n := 4) rfl (pgs_cons (pg_name (i := 2) nd rfl (.inl rfl)) (pgs_cons (pg_name (i := 3) nd rfl (.inl rfl)) (pgs_cons (pg_name (i := 4) nd rfl (.inl rfl)) (pgs_cons (pg_name (i := 5) nd rfl (.inl rfl)) pgs_nil))))))
      (pss_one (ps_ret (pe_and (pe_def D_are_maps (hr.mono (by omega)) rfl (pa_cons (pv 4) (pa_cons (pv 2) (pa_cons (pv 3) (pa_cons (pe_op op_mulW (pe_gv rfl T.g_MOST_TERMS) (pv 1)) pa_nil))))) (pe_one (pe_def D_are_reads (hr.mono (by omega)) rfl (pa_cons (pv 5) (pa_cons (pv 2) (pa_cons (pv 3) pa_nil)))))))))), ?_⟩
    refine ⟨.ref a, rfl, a, _, 4, 4, rfl, ha, (by show (4 : Int) ≤ 4; decide), (by show (4 : Int) ≤ 4; decide), true, rfl, iteF ?_⟩
    refine ⟨.ref a, rfl, a, _, 0, _, rfl, rfl, ha.sq, atI_nat (j := 0) rfl, x1, F.ks, rfl, i1, ok.kinds, fun H1 s1 => ⟨true, rfl, iteF ?_⟩⟩
    have ha1 := ha.mono (tk_same s1)
    obtain ⟨b, ys, rfl, hb, hy⟩ := i1.tuple_inv
    have ly : ys.length = F.ks.length := all_len hy
    have hb1 := hb.mono (tk_same s1)
    refine ⟨.ref a, rfl, a, _, 1, _, rfl, rfl, ha1.sq, atI_nat (j := 1) rfl, .ref a, rfl, a, _, 0, _, rfl, rfl, ha1.sq, atI_nat (j := 0) rfl, b, ys, rfl, .inr hb1.sq, .int (wide : Nat), rfl, x2, F.dims, wide, by rw [ly, ld]; rfl, Im.mono (tk_same s1) _ i2, by omega, wid, ok.hd, ok.sd, fun H2 s2 => ⟨true, rfl, iteF ?_⟩⟩
    have t2 := tk_same (s1.trans s2)
    refine ⟨.ref a, rfl, a, _, rfl, (ha.mono t2).sq, rfl, .ref b, _, rfl, x2, _, rfl, x3, _, rfl, x4, _, rfl, rfl, ?_⟩
    refine ⟨x3, rfl, .ref b, rfl, x2, rfl, .int (wide : Nat), rfl, _, _, rfl, rfl, wide_mul (a := 13) (b := 2) (by decide) (by omega) (by decide) (by decide) (by decide), x3, .ref b, x2, F.maps, F.ks, F.dims, 4000 * wide, by rw [show ((4000 * wide : Nat) : Int) = 4000 * (wide : Int) by omega]; rfl, Im.mono t2 _ i3, Im.mono t2 _ (.tup hb hy), Im.mono t2 _ i2, ok.kinds, ld, by omega, ⟨ok.lm, ok.lr, ok.tm⟩, fun H3 s3 => ⟨true, rfl, iteT ?_⟩⟩
    have t3 := tk_same ((s1.trans s2).trans s3)
    exact ⟨x4, rfl, .ref b, rfl, x2, rfl, x4, .ref b, x2, F.rds, F.ks, F.dims, rfl, Im.mono t3 _ i4, Im.mono t3 _ (.tup hb hy), Im.mono t3 _ i2, ok.kinds, ld, fun d hd => by have := ok.hd d hd; omega, ok.rd, fun H4 s4 => q _ (((s1.trans s2).trans s3).trans s4)⟩
abbrev s_need_form : Stmt := topS 50
theorem sc_need_form : FnScope ["form"] ["form"] (defScope s_need_form) := ⟨rfl, rfl, rfl, by decide +kernel, rfl, by decide +kernel, by decide +kernel⟩
theorem ok_need_form {f : Addr} {fd : FuncData} {k : Nat} (F : Fun K "need_form" "need_form" s_need_form f fd) (T : Tx K mg){er : Er} (TE : Tr K mg er) {k1 : Nat} (D_has_form : Def P w K mg base k1 "has_form" s_has_form ["thing", "wide"] (sp_has_form K)) (e1 : k1 ≤ k) : FnOk P w K mg base (L2.CX P w) (k + 1) f fd ["form"] (sp_need_form K 1) := by
  have nd := sc_need_form.nd
  refine F.okX sc_need_form (fun vs H Q E h => ?_) (fun cdv A outer s H vs Q E hr h => ?_)
  · obtain ⟨_, _, rfl, _⟩ := h
    rfl
  · obtain ⟨v, F, rfl, iv, ok, q⟩ := h
    refine ⟨_, (pss_one (ps_if (pt_not (pt_val (pe_def D_has_form (hr.mono (by omega)) rfl (pa_cons (pv 0) (pa_cons pe_int pa_nil)))))
        (pss_one (ps_raise rfl (takes_of rfl rfl rfl rfl) (pmk_own PySem.F.excBase_ValueError TE.x_BadForm TE.g_BadForm TE.k_BadForm (raises_own TE.b_BadForm TE.t_BadForm) rfl)))
        pss_nil)), ?_⟩
    exact ⟨v, rfl, v, F, 1, rfl, iv, ok, fun H1 s1 => ⟨true, rfl, iteF (q _ s1)⟩⟩
abbrev s_is_entry : Stmt := topS 34
theorem sc_is_entry : FnScope ["table", "rows", "field", "entry", "at"] ["table", "rows", "field", "entry", "at"] (defScope s_is_entry) := ⟨rfl, rfl, rfl, by decide +kernel, rfl, by decide +kernel, by decide +kernel⟩
def sp_entry (K : PySem.W.Frag) : Sp := fun vs H Q _ => ∃ (d : Addr) (v : V) (ks : List Kd) (rows : List Rw) (fl e : Int) (t : Nat), vs = [.ref d, v, .int fl, .int e, .int (t : Nat)] ∧ KindsOk ks ∧ TableAt K H d (rowsOf ks ks.length) ∧ Im K H v (rwsD rows) ∧ (fl = -1 ∨ ∃ n i : Nat, e = n ∧ n < t ∧ fl = i ∧ KindAt ks rows n i) ∧ Q (.bl true) H
theorem ok_is_entry {f : Addr} {fd : FuncData} {k : Nat} (F : Fun K "is_entry" "is_entry" s_is_entry f fd) (T : Tx K mg){k1 : Nat} (D_is_int : Def P w K mg base k1 "is_int" s_is_int ["thing"] (sp_is_int K)) (e1 : k1 ≤ k) : FnOk P w K mg base CX0 (k + 1) f fd ["table", "rows", "field", "entry", "at"] (sp_entry K) := by
  have nd := sc_is_entry.nd
  refine F.ok sc_is_entry (fun vs H Q E h => ?_) (fun cdv A outer s H vs Q E hr h => ?_)
  · obtain ⟨_, _, _, _, _, _, _, rfl, _⟩ := h
    rfl
  · obtain ⟨d, v, ks, rows, fl, e, t, rfl, ok, tb, iv, hf, q⟩ := h
    obtain ⟨a, xs, rfl, ha, hx⟩ := iv.tuple_inv
    refine ⟨_, (pss_cons (ps_if (pt_not (pt_val (pe_def D_is_int (hr.mono (by omega)) rfl (pa_cons (pv 3) pa_nil))))
        (pss_one (ps_ret pe_bl))
        pss_nil)
      (pss_cons (ps_if (pt_cmpR op_eq (pv 2) (pe_gv rfl T.g_NUMBER) (nomark _))
        (pss_one (ps_ret pe_bl))
        pss_nil)
      (pss_one (ps_ret (pe_and (pe_chain op_le op_lt pe_int (pv 3) (pv 4)) (pe_one (pe_cmpR op_eq (pe_ix (kix_tup K) (pe_dget (hu_of hr) (pv 0) (pe_ix (kix_tup K) (pe_ix (kix_tup K) (pv 1) (pv 3) (fun _ _ => rfl)) pe_int (fun _ _ => rfl)) (fun _ _ => rfl)) pe_int (fun _ _ => rfl)) (pv 2) (nomark _)))))))), ?_⟩
    refine ⟨.int e, rfl, .int e, .int e, rfl, .int e, true, rfl, iteF ?_⟩
    refine ⟨.int fl, rfl, rfl, _, rfl, ?_⟩
    by_cases h1 : fl = -1
    · rw [decide_eq_true (by rw [h1])]
      exact iteT q
    · rw [decide_eq_false (fun z => h1 (V.int.inj z))]
      obtain ⟨n, i, rfl, hn, rfl, r, j, kd, m, hr', at'⟩ := hf.resolve_left h1
      obtain ⟨x, ex, ix⟩ := all_at hx hr'
      obtain ⟨p, y1, y2, rfl, hp, iy1, iy2⟩ := im_pair ix
      obtain rfl := iy1.str_inv
      obtain ⟨vr, gr, ir⟩ := tb_get tb ok at'.hk at'.hm
      obtain ⟨qr, r1, r2, r3, rfl, hqr, ir1, ir2, ir3⟩ := im_trip ir
      obtain rfl := ir1.int_inv
      rw [← at'.nm] at gr
      refine iteF ⟨.int (n : Nat), rfl, _, _, rfl, rfl, _, rfl, ?_⟩
      rw [decide_eq_true (by omega)]
      refine iteT ⟨.int (t : Nat), rfl, _, _, rfl, rfl, _, rfl, ?_⟩
      rw [decide_eq_true (by omega)]
      refine iteT ⟨.ref d, rfl, .ref a, rfl, .int (n : Nat), rfl, a, xs, _, .ref p, rfl, rfl, ha.sq, atI_nat ex, p, _, 0, _, rfl, rfl, hp.sq, atI_nat (j := 0) rfl, d, _, rfl, gr, qr, _, 0, _, rfl, rfl, hqr.sq, atI_nat (j := 0) rfl, .int (i : Nat), rfl, rfl, ?_⟩
      have e9 : decide (V.int (((mkRow (ks.map (·.1)) i j m).2.1 : Nat) : Int) = V.int (i : Nat)) = true := decide_eq_true rfl
      rw [e9]
      exact q
abbrev s_rows_fit : Stmt := topS 35
theorem sc_rows_fit : FnScope ["table", "thing", "at", "row", "fields", "field", "entry"] ["table", "thing"] (defScope s_rows_fit) := ⟨rfl, rfl, rfl, by decide +kernel, rfl, by decide +kernel, by decide +kernel⟩
def sp_rows_fit (K : PySem.W.Frag) : Sp := fun vs H Q _ => ∃ (d : Addr) (v : V) (ks : List Kd) (rows : List Rw), vs = [.ref d, v] ∧ KindsOk ks ∧ TableAt K H d (rowsOf ks ks.length) ∧ Im K H v (rwsD rows) ∧ RowsOk ks rows ∧ ∀ H', Same H H' → Q (.bl true) H'
set_option maxHeartbeats 1000000 in
theorem ok_rows_fit {f : Addr} {fd : FuncData} {k : Nat} (F : Fun K "rows_fit" "rows_fit" s_rows_fit f fd) (T : Tx K mg){k1 : Nat} (D_is_row : Def P w K mg base k1 "is_row" s_is_row ["thing", "low", "high"] (sp_is_row K)) {k2 : Nat} (D_is_pair : Def P w K mg base k2 "is_pair" s_is_pair ["thing"] (sp_is_pair K)) {k3 : Nat} (D_is_entry : Def P w K mg base k3 "is_entry" s_is_entry ["table", "rows", "field", "entry", "at"] (sp_entry K)) (e1 : k1 ≤ k) (e2 : k2 ≤ k) (e3 : k3 ≤ k) : FnOk P w K mg base CX0 (k + 1) f fd ["table", "thing"] (sp_rows_fit K) := by
  have nd := sc_rows_fit.nd
  refine F.ok sc_rows_fit (fun vs H Q E h => ?_) (fun cdv A outer s H vs Q E hr h => ?_)
  · obtain ⟨_, _, _, _, rfl, _⟩ := h
    rfl
  · obtain ⟨d, v, ks, rows, rfl, ok, tb, iv, ro, q⟩ := h
    obtain ⟨a, xs, rfl, ha, hx⟩ := iv.tuple_inv
    have lx := all_len hx
    have few := ro.few
    refine ⟨_, (pss_cons (ps_if (pt_not (pt_val (pe_def D_is_row (hr.mono (by omega)) rfl (pa_cons (pv 1) (pa_cons pe_int (pa_cons (pe_gv rfl T.g_MOST_ROWS) pa_nil))))))
        (pss_one (ps_ret pe_bl))
        pss_nil)
      (pss_cons (ps_for PassesOwn.never rfl (kpi_enumT K (by rfl) T.m_enumerate (pa_cons (pv 1) pa_nil)) (kpg_tup K (n := 2) rfl (pgs_cons (pg_name (i := 2) nd rfl (.inr rfl)) (pgs_cons (pg_name (i := 3) nd rfl (.inl rfl)) pgs_nil)))
        (pss_cons (ps_if (PW.pt (pw_or (pt_not (pt_val (pe_def D_is_pair (hr.mono (by omega)) rfl (pa_cons (pv 3) pa_nil)))) (pw_or (pt_not (pt_val (pe_callB (kcall_isi K) (by rfl) T.m_isinstance (by decide +kernel) (pa_cons (pe_ix (kix_tup K) (pv 3) pe_int (fun _ _ => rfl)) (pa_cons (pe_bltn (v := .ty "str") (u := .type "str") (by rfl) T.m_str (by decide +kernel) rfl) pa_nil))))) (pw_or1 (pt_cmp (pc_dnotin (hu_of hr) (pe_ix (kix_tup K) (pv 3) pe_int (fun _ _ => rfl)) (pv 0)))))))
          (pss_one (ps_ret pe_bl))
          pss_nil)
        (pss_cons (ps_set (i := 4) nd rfl (.inl rfl) (pe_ix (kix_tup K) (pe_dget (hu_of hr) (pv 0) (pe_ix (kix_tup K) (pv 3) pe_int (fun _ _ => rfl)) (fun _ _ => rfl)) pe_int (fun _ _ => rfl)))
        (pss_cons (ps_if (pt_not (pt_val (pe_def D_is_row (hr.mono (by omega)) rfl (pa_cons (pe_ix (kix_tup K) (pv 3) pe_int (fun _ _ => rfl)) (pa_cons (pe_callB (kcall_len K) (by rfl) T.m_len PySem.boot_len (pa_cons (pv 4) pa_nil)) (pa_cons (pe_callB (kcall_len K) (by rfl) T.m_len PySem.boot_len (pa_cons (pv 4) pa_nil)) pa_nil))))))
          (pss_one (ps_ret pe_bl))
          pss_nil)
        (pss_one (ps_if (pt_not (pt_val (pe_callB (kcr_all K) (by rfl) T.m_all (by decide +kernel) (pa_cons (pe_lc (own := [("field", 5), ("entry", 6)]) (g := _) (tt := tYes) rfl nd (kpi_zip K (by rfl) T.m_zip (pa_cons (pv 4) (pa_cons (pe_ix (kix_tup K) (pv 3) pe_int (fun _ _ => rfl)) pa_nil))) (blkOk_by (by rfl)) (fun _ _ _ _ _ => (kpg_tup K (n := 2) rfl (pgs_cons (pg_name (i := 5) nd rfl (.inl rfl)) (pgs_cons (pg_name (i := 6) nd rfl (.inl rfl)) pgs_nil)))) (fun _ _ _ _ _ => pts_nil) (fun _ _ _ _ _ => (pe_def D_is_entry (hr.mono (by omega)) rfl (pa_cons (pv 0) (pa_cons (pv 1) (pa_cons (pv 5) (pa_cons (pv 6) (pa_cons (pv 2) pa_nil)))))))) pa_nil))))
          (pss_one (ps_ret pe_bl))
          pss_nil))))))
      (pss_one (ps_ret pe_bl)))), ?_⟩
    refine ⟨.ref a, rfl, a, xs, 1, 96, rfl, ha, by omega, by omega, true, rfl, iteF ?_⟩
    refine ⟨.ref a, rfl, a, xs, rfl, ha.sq, ?_⟩
    refine for_it (walk_enumT (xs := xs)) (fun t σ Ha => ∃ (y2 y3 y4 : Option V), σ = [some (.ref d), some (.ref a), y2, y3, y4, none, none] ∧ Same H Ha) ⟨_, _, _, rfl, Same.refl _⟩ (fun t σ Ha _ z => ?_) ?_ ?_
    · obtain ⟨_, _, _, _, sm⟩ := z
      exact (ha.mono (tk_same sm)).sq
    · rintro t x σ Ha Hb ht ⟨y2, y3, y4, rfl, sm⟩ ⟨T, x1, x2, rfl, hT, rfl, e1, e2⟩
      obtain rfl := Option.some.inj e1
      obtain ⟨r, hr', ir⟩ := all_get (ImAll.mono (tk_same sm) _ hx) e2
      obtain ⟨p, z1, z2, rfl, hp, iz1, iz2⟩ := im_pair ir
      obtain rfl := iz1.str_inv
      obtain ⟨pe, es, rfl, hpe, hes⟩ := iz2.tuple_inv
      obtain rfl := im_ints hes
      obtain ⟨i, j, kd, m, at', hl, hent⟩ := ro.each t r hr'
      have sT := same_new (o := .tup [.int (t : Nat), .ref p]) hT
      have ir2 := Im.mono (tk_same sT) _ ir
      have hp2 := hp.mono (tk_same sT)
      have hpe2 := hpe.mono (tk_same sT)
      refine ⟨T, _, rfl, .of upd_same, rfl, .int (t : Nat), _, rfl, .ref p, _, rfl, rfl, ?_⟩
      have s2 := sm.trans sT
      generalize upd Ha T (.tup [.int (t : Nat), .ref p]) = H2 at *
      obtain ⟨vr, gr, irr⟩ := tb_get (tb.same s2) ok at'.hk at'.hm
      obtain ⟨qr, r1, r2, r3, rfl, hqr, ir1, ir22, ir3⟩ := im_trip irr
      have ir3' : Im K H2 r3 (.tuple ((m.2.map (placeOf (ks.map (·.1)))).map .int)) := ir3
      obtain ⟨pf, fs, rfl, hpf, hfs⟩ := ir3'.tuple_inv
      obtain rfl := im_ints hfs
      rw [← at'.nm] at gr
      have l4 := (ok.mkk _ (List.mem_of_getElem? at'.hk) _ (List.mem_of_getElem? at'.hm)).2
      refine ⟨.ref p, rfl, .ref p, rwD r, rfl, Im.dp _ ir2, true, rfl, iteF ?_⟩
      refine ⟨.ref p, rfl, p, _, 0, _, rfl, rfl, hp2.sq, atI_nat (j := 0) rfl, .str r.1, _, .type "str", _, true, rfl, .ty _, .base (.str r.1), kit_ty (by decide +kernel), true, rfl, iteF ?_⟩
      refine ⟨.ref p, rfl, p, _, 0, _, rfl, rfl, hp2.sq, atI_nat (j := 0) rfl, .ref d, rfl, d, _, rfl, gr, false, rfl, iteF ?_⟩
      refine ⟨.ref d, rfl, .ref p, rfl, p, _, 0, _, rfl, rfl, hp2.sq, atI_nat (j := 0) rfl, d, _, rfl, gr, qr, _, 2, _, rfl, rfl, hqr.sq, atI_nat (j := 2) rfl, ?_⟩
      refine ⟨.ref p, rfl, p, _, 1, _, rfl, rfl, hp2.sq, atI_nat (j := 1) rfl, .ref pf, rfl, pf, _, rfl, .inr hpf.sq, .ref pf, rfl, pf, _, rfl, .inr hpf.sq, pe, _, _, _, rfl, hpe2, ?_, ?_, true, rfl, iteF ?_⟩
      · simp only [List.length_map]; omega
      · simp only [List.length_map]; omega
      refine ⟨.ref pf, rfl, .ref p, rfl, p, _, 1, _, rfl, rfl, hp2.sq, atI_nat (j := 1) rfl, pf, pe, _, _, rfl, .inr ⟨hpf.sq, hpe2.sq, fun D hD => ?_⟩⟩
      refine lc_yes (walk_zipT (by simp only [List.length_map]; exact hl.symm)) hD (small1000 (by simp only [List.length_map]; omega)) (fun H' s => ⟨(hpf.mono (tk_same s)).sq, (hpe2.mono (tk_same s)).sq⟩) (fun s x H3 H4 R hi s3 y yes => ?_) (fun H3 s3 e3 => ⟨D, _, rfl, .of e3, ?_⟩)
      · obtain ⟨T2, x1, x2, rfl, hT2, rfl, f1, f2⟩ := y
        simp only [List.getElem?_map, List.map_map] at f1 f2
        obtain ⟨fl, hfl, rfl⟩ := Option.map_eq_some_iff.mp f1
        obtain ⟨e, he, rfl⟩ := Option.map_eq_some_iff.mp f2
        have sT2 := same_new (o := .tup [V.int (placeOf (ks.map (·.1)) fl), .int e]) hT2
        refine ⟨T2, _, rfl, .of upd_same, rfl, .int _, _, rfl, .int e, _, rfl, rfl, rfl, .ref d, rfl, .ref a, rfl, .int _, rfl, .int e, rfl, .int (t : Nat), rfl, d, .ref a, ks, rows, _, e, t, rfl, ok, tb.same ((s2.trans s3).trans sT2), Im.mono (tk_same ((s2.trans s3).trans sT2)) _ (.tup ha hx), ?_, yes _ sT2⟩
        by_cases hin : fl ∈ ks.map (·.1)
        · obtain ⟨n, rfl, hn, ka⟩ := hent s fl e hfl he hin
          exact .inr ⟨n, _, rfl, hn, by show placeOf _ fl = _; unfold placeOf; rw [if_pos hin], ka⟩
        · exact .inl (by show placeOf _ fl = -1; unfold placeOf; rw [if_neg hin])
      · rw [rep_all]
        exact ⟨true, rfl, iteF ⟨_, _, _, rfl, s2.trans s3⟩⟩
    · rintro σ Ha ⟨y2, y3, y4, rfl, sm⟩
      exact q _ sm
abbrev s_need_rows : Stmt := topS 36
theorem sc_need_rows : FnScope ["kinds", "rows"] ["kinds", "rows"] (defScope s_need_rows) := ⟨rfl, rfl, rfl, by decide +kernel, rfl, by decide +kernel, by decide +kernel⟩
def sp_need_rows (K : PySem.W.Frag) : Sp := fun vs H Q _ => ∃ (u v : V) (ks : List Kd) (rows : List Rw), vs = [u, v] ∧ Im K H u (ksD ks) ∧ KindsOk ks ∧ Im K H v (rwsD rows) ∧ RowsOk ks rows ∧ ∀ H', Same H H' → Q .non H'
theorem ok_need_rows {f : Addr} {fd : FuncData} {k : Nat} (F : Fun K "need_rows" "need_rows" s_need_rows f fd) (T : Tx K mg){er : Er} (TE : Tr K mg er) {k1 : Nat} (D_rows_fit : Def P w K mg base k1 "rows_fit" s_rows_fit ["table", "thing"] (sp_rows_fit K)) {k2 : Nat} (D_maker_table : Def P w K mg base k2 "maker_table" s_maker_table ["kinds"] (sp_maker_table K)) (e1 : k1 ≤ k) (e2 : k2 ≤ k) : FnOk P w K mg base (L2.CX P w) (k + 1) f fd ["kinds", "rows"] (sp_need_rows K) := by
  have nd := sc_need_rows.nd
  refine F.okX sc_need_rows (fun vs H Q E h => ?_) (fun cdv A outer s H vs Q E hr h => ?_)
  · obtain ⟨_, _, _, _, rfl, _⟩ := h
    rfl
  · obtain ⟨u, v, ks, rows, rfl, iu, ok, iv, ro, q⟩ := h
    refine ⟨_, (pss_one (ps_if (pt_not (pt_val (pe_def D_rows_fit (hr.mono (by omega)) rfl (pa_cons (pe_def D_maker_table (hr.mono (by omega)) rfl (pa_cons (pv 0) pa_nil)) (pa_cons (pv 1) pa_nil)))))
        (pss_one (ps_raise rfl (takes_of rfl rfl rfl rfl) (pmk_own PySem.F.excBase_ValueError TE.x_BadRows TE.g_BadRows TE.k_BadRows (raises_own TE.b_BadRows TE.t_BadRows) rfl)))
        pss_nil)), ?_⟩
    exact ⟨u, rfl, u, ks, rfl, iu, ok, fun d H1 s1 hd tb => ⟨v, rfl, d, v, ks, rows, rfl, ok, tb, Im.mono (tk_same s1) _ iv, ro, fun H2 s2 => ⟨true, rfl, iteF (q _ (s1.trans s2))⟩⟩⟩
end
end K63

set_option Elab.async false
set_option linter.all false
set_option maxRecDepth 100000
set_option exponentiation.threshold 20000
set_option pp.deepTerms false
set_option pp.deepTerms.threshold 8
namespace K63
open PySem PySem.Spec PyProof.Rows L2 Ly Mt
/-! ### vectors of trees, as rationals -/
/-- the product of the entries at these places -/
def prodT : List (List Rat) → List Nat → Rat
  | p :: ps, c :: cs => p.getD c 0 * prodT ps cs
  | _, _ => 1
def wth (r : Rat) (ps : List (List Rat)) (cs : List Nat) (n : Nat) : Rat := r * prodT (ps.take n) (cs.take n)
theorem prodT_snoc : ∀ {ps : List (List Rat)} {cs : List Nat} {n : Nat} {p : List Rat} {c : Nat}, ps[n]? = some p → cs[n]? = some c → prodT (ps.take (n + 1)) (cs.take (n + 1)) = prodT (ps.take n) (cs.take n) * p.getD c 0
  | [], _, _, _, _, h, _ => by simp at h
  | _ :: _, [], _, _, _, _, h => by simp at h
  | q :: ps, d :: cs, 0, p, c, h1, h2 => by
    obtain rfl : q = p := by simpa using h1
    obtain rfl : d = c := by simpa using h2
    show q.getD d 0 * prodT [] [] = prodT [] [] * q.getD d 0
    show q.getD d 0 * 1 = 1 * q.getD d 0
    rw [Rat.mul_one, Rat.one_mul]
  | q :: ps, d :: cs, n + 1, p, c, h1, h2 => by
    have ih := prodT_snoc (ps := ps) (cs := cs) (n := n) (p := p) (c := c) (by simpa using h1) (by simpa using h2)
    show q.getD d 0 * prodT (ps.take (n + 1)) (cs.take (n + 1)) = q.getD d 0 * prodT (ps.take n) (cs.take n) * p.getD c 0
    rw [ih, Rat.mul_assoc]
theorem wth_zero (r : Rat) (ps : List (List Rat)) (cs : List Nat) : wth r ps cs 0 = r := by
  unfold wth
  show r * prodT (ps.take 0) (cs.take 0) = r
  rw [List.take_zero]
  show r * 1 = r
  rw [Rat.mul_one]
theorem wth_snoc {r : Rat} {ps : List (List Rat)} {cs : List Nat} {n : Nat} {p : List Rat} {c : Nat} (h1 : ps[n]? = some p) (h2 : cs[n]? = some c) : wth r ps cs (n + 1) = wth r ps cs n * p.getD c 0 := by
  unfold wth
  rw [prodT_snoc h1 h2, Rat.mul_assoc]
theorem wth_all {r : Rat} {ps : List (List Rat)} {cs : List Nat} {n : Nat} (h1 : ps.length ≤ n) (h2 : cs.length ≤ n) : wth r ps cs n = r * prodT ps cs := by
  unfold wth
  rw [List.take_of_length_le h1, List.take_of_length_le h2]
/-- a term added -/
def addTerm (ps : List (List Rat)) (acc : List Rat) (t : Tm) : List Rat := acc.set t.1 (acc.getD t.1 0 + t.2.2 * prodT ps t.2.1)
def vecT (dim : Nat) (ts : List Tm) (ps : List (List Rat)) : List Rat := ts.foldl (addTerm ps) (List.replicate dim 0)
theorem vecT_snoc {dim i : Nat} {ts : List Tm} {ps : List (List Rat)} {t : Tm} (h : ts[i]? = some t) : vecT dim (ts.take (i + 1)) ps = addTerm ps (vecT dim (ts.take i) ps) t := by
  unfold vecT
  rw [List.take_add_one, h]
  show (ts.take i ++ [t]).foldl _ _ = _
  rw [List.foldl_append]; rfl
theorem foldl_len (ps : List (List Rat)) : ∀ (ts : List Tm) (acc : List Rat), (ts.foldl (addTerm ps) acc).length = acc.length
  | [], _ => rfl
  | t :: ts, acc => by
    rw [List.foldl_cons, foldl_len ps ts]
    unfold addTerm
    rw [List.length_set]
theorem vecT_len (dim : Nat) (ts : List Tm) (ps : List (List Rat)) : (vecT dim ts ps).length = dim := by
  unfold vecT
  rw [foldl_len, List.length_replicate]
theorem set_getD : ∀ {l : List Rat} {i : Nat}, l.set i (l.getD i 0) = l
  | [], _ => rfl
  | a :: l, 0 => rfl
  | a :: l, i + 1 => by
    show a :: l.set i (l.getD i 0) = _
    rw [set_getD]
theorem addTerm_zero {ps : List (List Rat)} {acc : List Rat} {t : Tm} (h : t.2.2 * prodT ps t.2.1 = 0) : addTerm ps acc t = acc := by
  unfold addTerm
  rw [h, Rat.add_zero, set_getD]
theorem ixN_nat {n j : Nat} (hj : j < n) : ixN n (j : Int) = some j := by
  unfold ixN
  rw [if_pos (by omega), if_pos (by omega), Int.toNat_natCast]
/-- what one makes of a vector of terms -/
structure VecJob (dim : Nat) (ts : List Tm) (ps : List (List Rat)) : Prop where
  few : ps.length ≤ 1000
  row : ∀ t ∈ ts, t.1 < dim
  len : ∀ t ∈ ts, t.2.1.length = ps.length
  col : ∀ t ∈ ts, ∀ (i c : Nat) (v : List Rat), t.2.1[i]? = some c → ps[i]? = some v → c < v.length
  bp : ∀ t ∈ ts, ∀ n, Bd 44000 4400 (wth t.2.2 ps t.2.1 n)
  bv : ∀ v ∈ ps, ∀ q ∈ v, Bd 44000 4400 q
  bs : ∀ n, ∀ q ∈ vecT dim (ts.take n) ps, Bd 29000 2900 q
theorem all_set {K : PySem.W.Frag} {H : Hp} {α : Type} {f : α → PyData} {v : V} {a : α} (iv : Im K H v (f a)) : ∀ {xs : List V} {l : List α} {n : Nat}, ImAll K H xs (l.map f) → ImAll K H (xs.set n v) ((l.set n a).map f)
  | [], [], _, _ => .nil
  | x :: xs, [], n, h => by cases h
  | [], a :: l, n, h => by cases h
  | x :: xs, a :: l, 0, h => by cases h with | cons _ r => exact .cons iv r
  | x :: xs, a :: l, n + 1, h => by cases h with | cons k r => exact .cons k (all_set iv r)
section
variable {P : Program} {w : World} {K : PySem.W.Frag} {mg : Str → Option Value} {base : Heap}
abbrev s_vector_over : Stmt := topS 51
theorem sc_vector_over : FnScope ["form", "kind", "maker", "entries", "found", "row", "cols", "ratio", "worth", "vector", "col"] ["form", "kind", "maker", "entries"] (defScope s_vector_over) := ⟨rfl, rfl, rfl, by decide +kernel, rfl, by decide +kernel, by decide +kernel⟩
def sp_vover (K : PySem.W.Frag) : Sp := fun vs H Q _ => ∃ (v : V) (k m : Nat) (l : Addr) (F : Form) (dim : Nat) (row : List (List Tm)) (ts : List Tm) (es : List V) (ps : List (List Rat)), vs = [v, .int (k : Nat), .int (m : Nat), .ref l] ∧ Im K H v (fmD F) ∧ F.dims[k]? = some dim ∧ F.maps[k]? = some row ∧ row[m]? = some ts ∧
  H l = some (.lst es) ∧ ImAll K H es (ps.map vD) ∧ dim ≤ 32 ∧ VecJob dim ts ps ∧ ∀ p H', Same H H' → Im K H' (.ref p) (vD (vecT dim ts ps)) → Q (.ref p) H'
set_option maxHeartbeats 1000000 in
theorem ok_vector_over {f : Addr} {fd : FuncData} {k : Nat} (F : Fun K "vector_over" "vector_over" s_vector_over f fd) (T : Tx K mg){k1 : Nat} (D_times : Def P w K mg base k1 "times" s_times ["one", "other"] (sp_times K)) {k2 : Nat} (D_plus : Def P w K mg base k2 "plus" s_plus ["one", "other"] (sp_plus K)) (e1 : k1 ≤ k) (e2 : k2 ≤ k) : FnOk P w K mg base CX0 (k + 1) f fd ["form", "kind", "maker", "entries"] (sp_vover K) := by
  have nd := sc_vector_over.nd
  obtain ⟨az, g_ZERO0, iz⟩ := T.zero
  have g_ZERO : ∃ u, mg "ZERO" = some u ∧ L2.RelV (.ref az) u := ⟨_, g_ZERO0, rfl⟩
  refine F.ok sc_vector_over (fun vs H Q E h => ?_) (fun cdv A outer s H vs Q E hr h => ?_)
  · obtain ⟨_, _, _, _, _, _, _, _, _, _, rfl, _⟩ := h
    rfl
  · obtain ⟨v, kk, m, l, F', dim, row, ts, es, ps, rfl, iv, hdim, hrow, hts, hl, hes, d32, job, q⟩ := h
    obtain ⟨a, x1, x2, x3, x4, rfl, ha, i1, i2, i3, i4⟩ := im_quad iv
    obtain ⟨c, ds, rfl, hc, hds⟩ := i2.tuple_inv
    obtain rfl := im_nats hds
    obtain ⟨pm, ms, rfl, hpm, hms⟩ := i3.tuple_inv
    obtain ⟨x, ex, ix⟩ := all_at hms hrow
    obtain ⟨pr, rs, rfl, hpr, hrs⟩ := ix.tuple_inv
    obtain ⟨x, ex2, ix2⟩ := all_at hrs hts
    obtain ⟨pt, xs, rfl, hpt, hxs⟩ := ix2.tuple_inv
    have lx := all_len hxs
    refine ⟨_, (pss_cons (ps_set (i := 4) nd rfl (.inl rfl) (pe_op op_rep (pe_lst (pa_cons (pe_gv rfl g_ZERO) pa_nil)) (pe_ix (kix_tup K) (pe_ix (kix_tup K) (pv 0) pe_int (fun _ _ => rfl)) (pv 1) (fun _ _ => rfl))))
      (pss_cons (ps_for PassesOwn.never rfl (kpi_tup K (pe_ix (kix_tup K) (pe_ix (kix_tup K) (pe_ix (kix_tup K) (pv 0) pe_int (fun _ _ => rfl)) (pv 1) (fun _ _ => rfl)) (pv 2) (fun _ _ => rfl))) (kpg_tup K (n := 3) rfl (pgs_cons (pg_name (i := 5) nd rfl (.inl rfl)) (pgs_cons (pg_name (i := 6) nd rfl (.inl rfl)) (pgs_cons (pg_name (i := 7) nd rfl (.inl rfl)) pgs_nil))))
        (pss_cons (ps_set (i := 8) nd rfl (.inl rfl) (pv 7))
        (pss_cons (ps_for PassesOwn.never rfl (kpi_zipM K (by rfl) T.m_zip (pa_cons (pv 3) (pa_cons (pv 6) pa_nil))) (kpg_tup K (n := 2) rfl (pgs_cons (pg_name (i := 9) nd rfl (.inl rfl)) (pgs_cons (pg_name (i := 10) nd rfl (.inl rfl)) pgs_nil)))
          (pss_one (ps_set (i := 8) nd rfl (.inl rfl) (pe_def D_times (hr.mono (by omega)) rfl (pa_cons (pv 8) (pa_cons (pe_ix (kix_tup K) (pv 9) (pv 10) (fun _ _ => rfl)) pa_nil))))))
        (pss_one (ps_if (pt_cmpR (kop_neD K hr.units) (pv 8) (pe_gv rfl g_ZERO) (nomark _))
          (pss_one (ps_asg (pe_def D_plus (hr.mono (by omega)) rfl (pa_cons (pe_ix (kix_list K) (pv 4) (pv 5) (fun _ _ => rfl)) (pa_cons (pv 8) pa_nil))) (pg_sub (pv 4) (pv 5) set_list)))
          pss_nil)))))
      (pss_one (ps_ret (pe_callTy (kcall_tuple K) (by rfl) T.m_tuple (by decide +kernel) (pa_cons (pv 4) pa_nil)))))), ?_⟩
    have ed : (F'.dims.map (fun n : Nat => V.int (n : Nat)))[kk]? = some (.int (dim : Nat)) := by rw [List.getElem?_map, hdim]; rfl
    refine ⟨by show 1 ≤ sizeLine; decide, fun L hL => ?_⟩
    have sL := same_new (o := .lst [.ref az]) hL
    have eL : (upd H L (.lst [.ref az])) L = some (.lst [.ref az]) := upd_same
    generalize upd H L (.lst [.ref az]) = H1 at *
    refine ⟨.ref a, rfl, a, _, 1, _, rfl, rfl, (ha.mono (tk_same sL)).sq, atI_nat (j := 1) rfl, .int (kk : Nat), rfl, c, _, _, _, rfl, rfl, (hc.mono (tk_same sL)).sq, atI_nat ed, L, dim, [.ref az], rfl, rfl, eL, by omega, by omega, ?_, fun p hp => ?_⟩
    · show 1 * (dim : Int).toNat ≤ sizeLine
      have : (33 : Nat) ≤ sizeLine := by decide
      omega
    rw [Int.toNat_natCast, flat1]
    have hp0 : H p = none := sL.free hp
    have s2 : Same H (upd H1 p (.lst (List.replicate dim (.ref az)))) := sL.trans (same_new hp)
    have ep : (upd H1 p (.lst (List.replicate dim (.ref az)))) p = some (.lst (List.replicate dim (.ref az))) := upd_same
    generalize upd H1 p (.lst (List.replicate dim (.ref az))) = H2 at *
    have t2 := tk_same s2
    refine ⟨.ref a, rfl, a, _, 2, _, rfl, rfl, (ha.mono t2).sq, atI_nat (j := 2) rfl, .int (kk : Nat), rfl, pm, _, _, _, rfl, rfl, (hpm.mono t2).sq, atI_nat ex, .int (m : Nat), rfl, pr, _, _, _, rfl, rfl, (hpr.mono t2).sq, atI_nat ex2, pt, rfl, ⟨_, (hpt.mono t2).sq⟩, ?_⟩
    have iz0 : Im K H2 (.ref az) (rD 0) := .tup (iz H2) (.cons (.int 0) (.cons (.int 1) .nil))
    refine for_it (walk_tup (xs := xs)) (fun i σ Ha => ∃ (y5 y6 y7 y8 y9 y10 : Option V) (ws : List V), σ = [some (.ref a), some (.int (kk : Nat)), some (.int (m : Nat)), some (.ref l), some (.ref p), y5, y6, y7, y8, y9, y10] ∧ Same H Ha ∧ Ha p = some (.lst ws) ∧ ImAll K Ha ws ((vecT dim (ts.take i) ps).map rD)) ⟨_, _, _, _, _, _, _, rfl, s2, ep, all_rep iz0 dim⟩ (fun i σ Ha _ z => ?_) ?_ ?_
    · obtain ⟨_, _, _, _, _, _, _, _, sm, _⟩ := z
      exact (hpt.mono (tk_same sm)).sq
    · rintro i x σ Ha Hb hi ⟨y5, y6, y7, y8, y9, y10, ws, rfl, sm, mp, im⟩ ⟨rfl, hxi⟩
      obtain ⟨t, ht, it⟩ := all_get (ImAll.mono (tk_same sm) _ hxs) hxi
      obtain ⟨px, z1, z2, z3, rfl, hpx, iz1, iz2, iz3⟩ := im_trip it
      obtain rfl := iz1.int_inv
      obtain ⟨pc, cs, rfl, hpc, hcs⟩ := iz2.tuple_inv
      obtain rfl := im_nats hcs
      have tmem := List.mem_of_getElem? ht
      refine ⟨px, _, rfl, hpx.sq, rfl, .int (t.1 : Nat), _, rfl, .ref pc, _, rfl, z3, _, rfl, rfl, z3, rfl, ?_⟩
      have les : es.length = ps.length := all_len hes
      have lcs := job.len t tmem
      refine ⟨.ref l, rfl, .ref pc, rfl, l, pc, _, _, rfl, .of (sm _ _ hl), hpc.sq, ?_⟩
      refine for_it (walk_zipM (xs := es) (ys := t.2.1.map fun n : Nat => V.int (n : Nat)) (by rw [List.length_map]; omega)) (fun j σ Hc => ∃ (u : V) (y9 y10 : Option V), σ = [some (.ref a), some (.int (kk : Nat)), some (.int (m : Nat)), some (.ref l), some (.ref p), some (.int (t.1 : Nat)), some (.ref pc), some z3, some u, y9, y10] ∧ Same Hb Hc ∧ Im K Hc u (rD (wth t.2.2 ps t.2.1 j))) ⟨z3, _, _, rfl, Same.refl _, by rw [wth_zero]; exact iz3⟩ (fun j σ Hc _ z => ?_) ?_ ?_
      · obtain ⟨_, _, _, _, s3, _⟩ := z
        exact ⟨.of (s3 _ _ (sm _ _ hl)), (hpc.mono (tk_same s3)).sq⟩
      · rintro j x σ Hc Hd hj ⟨u, y9, y10, rfl, s3, iu⟩ ⟨T, x1, x2, rfl, hT, rfl, f1, f2⟩
        simp only [List.getElem?_map] at f2
        obtain ⟨cc, hcc, rfl⟩ := Option.map_eq_some_iff.mp f2
        have sT := same_new (o := .tup [x1, .int (cc : Nat)]) hT
        obtain ⟨vec, hvec, ivec⟩ := all_get (ImAll.mono (tk_same (sm.trans s3)) _ hes) f1
        obtain ⟨pv', vx, rfl, hpv, hvx⟩ := vec_inv ivec
        have clt := job.col t tmem j cc vec hcc hvec
        obtain ⟨y, ey, iy⟩ := all_at hvx (List.getElem?_eq_getElem clt)
        have bx := job.bp t tmem j
        have by' := job.bv vec (List.mem_of_getElem? hvec) _ (List.getElem_mem clt)
        refine ⟨T, _, rfl, .of upd_same, rfl, .ref pv', _, rfl, .int (cc : Nat), _, rfl, rfl, ?_⟩
        refine ⟨u, rfl, .ref pv', rfl, .int (cc : Nat), rfl, pv', _, _, y, rfl, rfl, (hpv.mono (tk_same sT)).sq, atI_nat ey, u, y, _, _, rfl, Im.mono (tk_same sT) _ iu, Im.mono (tk_same sT) _ iy, bx, by', fun p' H5 s5 _ i5 => ?_⟩
        refine ⟨_, _, _, rfl, (s3.trans sT).trans s5, ?_⟩
        rw [wth_snoc hvec hcc, List.getD_eq_getElem?_getD, List.getElem?_eq_getElem clt]
        exact i5
      · rintro σ Hc ⟨u, y9, y10, rfl, s3, iu⟩
        rw [wth_all (by omega) (by omega)] at iu
        have vt := vecT_snoc (dim := dim) (ps := ps) ht
        have lv : t.1 < (vecT dim (ts.take i) ps).length := by rw [vecT_len]; exact job.row t tmem
        refine ⟨u, rfl, rD (t.2.2 * prodT ps t.2.1), .tuple [.int 0, .int 1], Im.dp _ iu, .tup (iz Hc).sq (.cons (.int 0) (.cons (.int 1) .nil)), rfl, rfl, _, rfl, ?_⟩
        have e : PyData.eqv (rD (t.2.2 * prodT ps t.2.1)) (.tuple [.int 0, .int 1]) = decide (t.2.2 * prodT ps t.2.1 = 0) := by
          generalize t.2.2 * prodT ps t.2.1 = q0
          show ((q0.num == 0) && (((q0.den : Int) == 1) && true)) = decide (q0 = 0)
          by_cases h : q0 = 0
          · subst h; rfl
          · have : ¬ q0.num = 0 := fun z => h (num_zero z)
            rw [beq_eq_false_iff_ne.mpr this, decide_eq_false h]; rfl
        rw [e]
        by_cases h0 : t.2.2 * prodT ps t.2.1 = 0
        · rw [decide_eq_true h0]
          refine iteF ⟨_, _, _, _, _, _, ws, rfl, sm.trans s3, s3 _ _ mp, ?_⟩
          rw [vt, addTerm_zero h0]
          exact ImAll.mono (tk_same s3) _ im
        · rw [decide_eq_false h0]
          obtain ⟨y, ey, iy⟩ := all_at (ImAll.mono (tk_same s3) _ im) (List.getElem?_eq_getElem lv)
          have b1 := job.bs i _ (List.getElem_mem lv)
          have b2 := job.bp t tmem ps.length
          rw [wth_all (Nat.le_refl _) (by omega)] at b2
          have lw : ws.length = (vecT dim (ts.take i) ps).length := all_len im
          refine iteT ⟨.ref p, rfl, .int (t.1 : Nat), rfl, p, ws, _, y, rfl, rfl, .of (s3 _ _ mp), atI_nat ey, u, rfl, y, u, _, _, rfl, iy, iu, b1, b2.mono (by decide) (by decide), fun p' H5 s5 hp5 i5 => ?_⟩
          have mp5 := s5 _ _ (s3 _ _ mp)
          refine ⟨.ref p, rfl, .int (t.1 : Nat), rfl, p, ws, _, t.1, rfl, rfl, mp5, ixN_nat (by omega), _, _, _, _, _, _, ws.set t.1 (.ref p'), rfl, fun b o eb => ?_, upd_same, ?_⟩
          · rw [upd_ne (ne_of_none eb hp0)]
            exact s5 _ _ (s3 _ _ (sm _ _ eb))
          · rw [vt]
            unfold addTerm
            rw [List.getD_eq_getElem?_getD, List.getElem?_eq_getElem lv]
            have t5 := (tk_same s5).trans (tk_lst (o := .lst (ws.set t.1 (.ref p'))) mp5)
            exact all_set (Im.mono (tk_lst mp5) _ i5) (ImAll.mono ((tk_same s3).trans t5) _ im)
    · rintro σ Ha ⟨y5, y6, y7, y8, y9, y10, ws, rfl, sm, mp, im⟩
      rw [lx, List.take_of_length_le (Nat.le_refl _)] at im
      refine ⟨.ref p, rfl, p, ws, rfl, .inl ⟨.of mp, fun l' hl' => q l' _ (sm.trans (same_new hl')) (.tup (.inl upd_same) (ImAll.mono (tk_new hl') _ im))⟩⟩
end
end K63

set_option Elab.async false
set_option linter.all false
set_option maxRecDepth 100000
set_option exponentiation.threshold 20000
set_option pp.deepTerms false
set_option pp.deepTerms.threshold 8
namespace K63
open PySem PySem.Spec PyProof.Rows L2 Ly Mt
def rowOf (ks : List Kd) (z : Str) : Row := ((rowsOf ks ks.length).find? (fun r => decide (r.1 = z))).getD (noS, 0, 0, [])
theorem fst_inj {l : List Row} (nd : (l.map (·.1)).Nodup) {a b : Row} (ha : a ∈ l) (hb : b ∈ l) (e : a.1 = b.1) : a = b := by
  obtain ⟨i, hi⟩ := List.getElem?_of_mem ha
  obtain ⟨j, hj⟩ := List.getElem?_of_mem hb
  have h1 : (l.map (·.1))[i]? = some a.1 := by rw [List.getElem?_map, hi]; rfl
  have h2 : (l.map (·.1))[j]? = some b.1 := by rw [List.getElem?_map, hj]; rfl
  have li := (List.getElem?_eq_some_iff.mp h1).1
  have hij := (List.getElem?_inj li nd).mp (h1.trans (by rw [e]; exact h2.symm))
  subst hij
  rw [hi] at hj
  exact Option.some.inj hj
theorem rowOf_at {ks : List Kd} (ok : KindsOk ks) {r : Rw} {i j : Nat} {kd : Kd} {m : Mk} (h : At ks r i j kd m) : rowOf ks r.1 = mkRow (ks.map (·.1)) i j m := by
  have nd : ((rowsOf ks ks.length).map (·.1)).Nodup := by rw [rows_names]; exact ok.ndm
  have mem := row_mem h.hk h.hm
  unfold rowOf
  cases e : (rowsOf ks ks.length).find? (fun x => decide (x.1 = r.1)) with
  | none =>
    have := List.find?_eq_none.mp e _ mem
    exact absurd (decide_eq_true (show (mkRow (ks.map (·.1)) i j m).1 = r.1 from h.nm.symm)) this
  | some x =>
    have h1 := List.mem_of_find?_eq_some e
    have h2 : x.1 = r.1 := of_decide_eq_true (List.find?_some (p := fun x : Row => decide (x.1 = r.1)) e)
    exact fst_inj nd h1 mem (h2.trans h.nm)
def partsI (acc : List (List Rat)) (fs es : List Int) : List (List Rat) := List.zipWith (fun (f e : Int) => if f = -1 then [1, (e : Rat)] else acc.getD e.toNat []) fs es
def termsAt (F : Form) (i j : Nat) : List Tm := (F.maps.getD i []).getD j []
def vecStep (F : Form) (acc : List (List Rat)) (r : Rw) : List (List Rat) := acc ++ [vecT (F.dims.getD (rowOf F.ks r.1).2.1 0) (termsAt F (rowOf F.ks r.1).2.1 (rowOf F.ks r.1).2.2.1) (partsI acc (rowOf F.ks r.1).2.2.2 r.2)]
def vecsOf (F : Form) (rows : List Rw) : List (List Rat) := rows.foldl (vecStep F) []
theorem vecsOf_snoc {F : Form} {rows : List Rw} {t : Nat} {r : Rw} (h : rows[t]? = some r) : vecsOf F (rows.take (t + 1)) = vecStep F (vecsOf F (rows.take t)) r := by
  unfold vecsOf
  rw [List.take_add_one, h]
  show (rows.take t ++ [r]).foldl _ _ = _
  rw [List.foldl_append]; rfl
theorem fold_vecs_len (F : Form) : ∀ (rows : List Rw) (acc : List (List Rat)), (rows.foldl (vecStep F) acc).length = acc.length + rows.length
  | [], acc => rfl
  | r :: rows, acc => by
    rw [List.foldl_cons, fold_vecs_len F rows]
    unfold vecStep
    rw [List.length_append, List.length_cons, List.length_cons, List.length_nil]
    omega
theorem vecsOf_len (F : Form) (rows : List Rw) : (vecsOf F rows).length = rows.length := by
  unfold vecsOf
  rw [fold_vecs_len]
  simp
structure VecsJob (F : Form) (rows : List Rw) : Prop where
  each : ∀ (t : Nat) r i j kd m, rows[t]? = some r → At F.ks r i j kd m → VecJob (F.dims.getD i 0) (termsAt F i j) (partsI (vecsOf F (rows.take t)) (m.2.map (placeOf (F.ks.map (·.1)))) r.2)
theorem place_num {ns : List Str} {f : Str} : placeOf ns f = -1 ↔ f ∉ ns := by
  unfold placeOf
  by_cases h : f ∈ ns
  · rw [if_pos h]
    exact ⟨fun z => by omega, fun z => absurd h z⟩
  · rw [if_neg h]
    exact ⟨fun _ => h, fun _ => rfl⟩
theorem FormOk.at {wide : Nat} {F : Form} (ok : FormOk wide F) {i j : Nat} {kd : Kd} {m : Mk} (hk : F.ks[i]? = some kd) (hm : kd.2[j]? = some m) : ∃ dim row ts, F.dims[i]? = some dim ∧ F.maps[i]? = some row ∧ row[j]? = some ts ∧ F.dims.getD i 0 = dim ∧ termsAt F i j = ts := by
  have hi := (List.getElem?_eq_some_iff.mp hk).1
  have hj := (List.getElem?_eq_some_iff.mp hm).1
  have l1 := ok.ld
  have l2 := ok.lm
  have h1 : i < F.dims.length := by omega
  have h2 : i < F.maps.length := by omega
  have lr := ok.lr i kd _ hk (List.getElem?_eq_getElem h2)
  have h3 : j < F.maps[i].length := by omega
  refine ⟨_, _, _, List.getElem?_eq_getElem h1, List.getElem?_eq_getElem h2, List.getElem?_eq_getElem h3, ?_, ?_⟩
  · rw [List.getD_eq_getElem?_getD, List.getElem?_eq_getElem h1]; rfl
  · unfold termsAt
    rw [List.getD_eq_getElem?_getD, List.getD_eq_getElem?_getD, List.getElem?_eq_getElem h2]
    show (F.maps[i][j]?).getD [] = _
    rw [List.getElem?_eq_getElem h3]; rfl
theorem FormOk.dim_le {wide : Nat} {F : Form} (ok : FormOk wide F) (i : Nat) : F.dims.getD i 0 ≤ 32 := by
  rw [List.getD_eq_getElem?_getD]
  have w2 := ok.wid
  by_cases h : i < F.dims.length
  · rw [List.getElem?_eq_getElem h]
    have := ok.hd _ (List.getElem_mem h)
    show F.dims[i] ≤ 32
    omega
  · rw [List.getElem?_eq_none (by omega)]; decide
section
variable {P : Program} {w : World} {K : PySem.W.Frag} {mg : Str → Option Value} {base : Heap}
abbrev s_vecs_of : Stmt := topS 52
theorem sc_vecs_of : FnScope ["form", "rows", "table", "found", "maker", "entries", "kind", "index", "fields", "pairs", "parts", "field", "entry"] ["form", "rows"] (defScope s_vecs_of) := ⟨rfl, rfl, rfl, by decide +kernel, rfl, by decide +kernel, by decide +kernel⟩
def sp_vecs (K : PySem.W.Frag) : Sp := fun vs H Q _ => ∃ (v u : V) (F : Form) (rows : List Rw) (wide : Nat), vs = [v, u] ∧ Im K H v (fmD F) ∧ Im K H u (rwsD rows) ∧ FormOk wide F ∧ RowsOk F.ks rows ∧ VecsJob F rows ∧ ∀ p H', Same H H' → Im K H' (.ref p) (mD (vecsOf F rows)) → Q (.ref p) H'
set_option maxHeartbeats 1000000 in
theorem ok_vecs_of {f : Addr} {fd : FuncData} {k : Nat} (F : Fun K "vecs_of" "vecs_of" s_vecs_of f fd) (T : Tx K mg){k1 : Nat} (D_maker_table : Def P w K mg base k1 "maker_table" s_maker_table ["kinds"] (sp_maker_table K)) {k2 : Nat} (D_vector_over : Def P w K mg base k2 "vector_over" s_vector_over ["form", "kind", "maker", "entries"] (sp_vover K)) {k3 : Nat} (D_whole : Def P w K mg base k3 "whole" s_whole ["number"] (sp_whole K)) (e1 : k1 ≤ k) (e2 : k2 ≤ k) (e3 : k3 ≤ k) : FnOk P w K mg base CX0 (k + 1) f fd ["form", "rows"] (sp_vecs K) := by
  have nd := sc_vecs_of.nd
  obtain ⟨ao, g_ONE0, io⟩ := T.one
  have g_ONE : ∃ u, mg "ONE" = some u ∧ L2.RelV (.ref ao) u := ⟨_, g_ONE0, rfl⟩
  refine F.ok sc_vecs_of (fun vs H Q E h => ?_) (fun cdv A outer s H vs Q E hr h => ?_)
  · obtain ⟨_, _, _, _, _, rfl, _⟩ := h
    rfl
  · obtain ⟨v, u, F', rows, wide, rfl, iv, iu, ok, ro, job, q⟩ := h
    obtain ⟨a, x1, x2, x3, x4, rfl, ha, i1, i2, i3, i4⟩ := im_quad iv
    obtain ⟨b, xs, rfl, hb, hx⟩ := iu.tuple_inv
    have lx := all_len hx
    have few := ro.few
    have kf := ok.kinds
    refine ⟨_, (pss_cons (ps_set (i := 2) nd rfl (.inl rfl) (pe_def D_maker_table (hr.mono (by omega)) rfl (pa_cons (pe_ix (kix_tup K) (pv 0) pe_int (fun _ _ => rfl)) pa_nil)))
      (pss_cons (ps_set (i := 3) nd rfl (.inr rfl) (pe_lst pa_nil))
      (pss_cons (ps_for PassesOwn.never rfl (kpi_tup K (pv 1)) (kpg_tup K (n := 2) rfl (pgs_cons (pg_name (i := 4) nd rfl (.inl rfl)) (pgs_cons (pg_name (i := 5) nd rfl (.inl rfl)) pgs_nil)))
        (pss_cons (ps_asg (pe_dget (hu_of hr) (pv 2) (pv 4) (fun _ _ => rfl)) (kpg_tup K (n := 3) rfl (pgs_cons (pg_name (i := 6) nd rfl (.inl rfl)) (pgs_cons (pg_name (i := 7) nd rfl (.inl rfl)) (pgs_cons (pg_name (i := 8) nd rfl (.inl rfl)) pgs_nil)))))
        (pss_cons (ps_set (i := 9) nd rfl (.inl rfl) (pe_zipV K (by rfl) T.m_zip (pa_cons (pv 8) (pa_cons (pv 5) pa_nil))))
        (pss_cons (ps_setLc (i := 10) (own := [("field", 11), ("entry", 12)]) (g := _) (tt := tYes) rfl nd rfl rfl (sw_true rfl rfl rfl (by decide +kernel)) (pi_zipV K (k := 9) rfl (.inl rfl)) (blkOk_by (by rfl)) (fun _ _ _ _ _ => (kpg_tup K (n := 2) rfl (pgs_cons (pg_name (i := 11) nd rfl (.inl rfl)) (pgs_cons (pg_name (i := 12) nd rfl (.inl rfl)) pgs_nil)))) (fun _ _ _ _ _ => pts_nil) (fun _ _ _ _ _ => (pe_ifExp (pt_cmpR op_eq (pv 11) (pe_gv rfl T.g_NUMBER) (nomark _)) (pe_tup (pa_cons (pe_gv rfl g_ONE) (pa_cons (pe_def D_whole (hr.mono (by omega)) rfl (pa_cons (pv 12) pa_nil)) pa_nil))) (pe_ix (kix_list K) (pv 3) (pv 12) (fun _ _ => rfl)))))
        (pss_one (ps_expr (pe_bm PySem.F.plainAttrs_list PySem.F.slot_list_append PySem.F.type_list_append mt_append (pv 3) (pa_cons (pe_def D_vector_over (hr.mono (by omega)) rfl (pa_cons (pv 0) (pa_cons (pv 6) (pa_cons (pv 7) (pa_cons (pv 10) pa_nil))))) pa_nil))))))))
      (pss_one (ps_ret (pe_callTy (kcall_tuple K) (by rfl) T.m_tuple (by decide +kernel) (pa_cons (pv 3) pa_nil))))))), ?_⟩
    refine ⟨.ref a, rfl, a, _, 0, _, rfl, rfl, ha.sq, atI_nat (j := 0) rfl, x1, F'.ks, rfl, i1, ok.kinds, fun d H1 s1 hd1 tb => ?_⟩
    refine ⟨by show 0 ≤ sizeLine; decide, fun L hL => ?_⟩
    have sL := same_new (o := .lst []) hL
    have eL : (upd H1 L (.lst [])) L = some (.lst []) := upd_same
    have s2 := s1.trans sL
    have tb2 := tb.same sL
    have hL0 : H L = none := s1.free hL
    have ndL : d ≠ L := by
      obtain ⟨kvs, e0, _⟩ := tb.ex
      exact ne_of_none e0 hL
    generalize upd H1 L (.lst []) = H2 at *
    refine ⟨.ref b, rfl, b, rfl, ⟨_, (hb.mono (tk_same s2)).sq⟩, ?_⟩
    refine for_it (walk_tup (xs := xs)) (fun t σ Ha => ∃ (y4 y5 y6 y7 y8 y9 y10 : Option V) (ws : List V), σ = [some (.ref a), some (.ref b), some (.ref d), some (.ref L), y4, y5, y6, y7, y8, y9, y10, none, none] ∧ Same H Ha ∧ TableAt K Ha d (rowsOf F'.ks F'.ks.length) ∧ Ha L = some (.lst ws) ∧ ImAll K Ha ws ((vecsOf F' (rows.take t)).map vD)) ⟨_, _, _, _, _, _, _, [], rfl, s2, tb2, eL, .nil⟩ (fun t σ Ha _ z => ?_) ?_ ?_
    · obtain ⟨_, _, _, _, _, _, _, _, _, sm, _⟩ := z
      exact (hb.mono (tk_same sm)).sq
    · rintro t x σ Ha Hb ht ⟨y4, y5, y6, y7, y8, y9, y10, ws, rfl, sm, tbm, mL, im⟩ ⟨rfl, hxt⟩
      obtain ⟨r, hr', ir⟩ := all_get (ImAll.mono (tk_same sm) _ hx) hxt
      obtain ⟨p, z1, z2, rfl, hp, iz1, iz2⟩ := im_pair ir
      obtain rfl := iz1.str_inv
      obtain ⟨pe, es, rfl, hpe, hes⟩ := iz2.tuple_inv
      obtain rfl := im_ints hes
      obtain ⟨i, j, kd, m, at', hl, hent⟩ := ro.each t r hr'
      obtain ⟨dim, row, ts, hdim, hrow, hts, ed, et⟩ := ok.at at'.hk at'.hm
      obtain ⟨vr, gr, irr⟩ := tb_get tbm ok.kinds at'.hk at'.hm
      obtain ⟨qr, r1, r2, r3, rfl, hqr, ir1, ir22, ir3⟩ := im_trip irr
      obtain rfl := ir1.int_inv
      obtain rfl := ir22.int_inv
      have ir3' : Im K Hb r3 (.tuple ((m.2.map (placeOf (F'.ks.map (·.1)))).map .int)) := ir3
      obtain ⟨pf, fs, rfl, hpf, hfs⟩ := ir3'.tuple_inv
      obtain rfl := im_ints hfs
      rw [← at'.nm] at gr
      have l4 := (kf.mkk _ (List.mem_of_getElem? at'.hk) _ (List.mem_of_getElem? at'.hm)).2
      have vj := job.each t r i j kd m hr' at'
      have ero := rowOf_at ok.kinds at'
      refine ⟨p, _, rfl, hp.sq, rfl, .str r.1, _, rfl, .ref pe, _, rfl, rfl, ?_⟩
      refine ⟨.ref d, rfl, .str r.1, rfl, d, _, rfl, gr, qr, _, rfl, hqr.sq, rfl, .int (i : Nat), _, rfl, .int (j : Nat), _, rfl, .ref pf, _, rfl, rfl, ?_⟩
      refine ⟨.ref pf, rfl, .ref pe, rfl, pf, pe, _, _, rfl, hpf.sq, hpe.sq, fun z H3 s3 hz zv => ?_⟩
      refine ⟨z, pf, pe, _, rfl, zv, fun H4 k4 => fun D hD => ?_⟩
      have s4 : Same Hb H4 := fun b o e => k4 b o e (s3 _ _ e)
      generalize hfl : m.2.map (placeOf (F'.ks.map (·.1))) = fl at *
      have lfl : fl.length = m.2.length := by rw [← hfl, List.length_map]
      refine lc_all (walk_zipT (xs := fl.map V.int) (ys := r.2.map V.int) (by simp only [List.length_map]; omega)) (fun s Hx => Same H4 Hx ∧ ∃ us, Hx D = some (.lst us) ∧ ImAll K Hx us (((partsI (vecsOf F' (rows.take t)) fl r.2).take s).map vD)) ⟨same_new hD, [], upd_same, by rw [List.take_zero]; exact .nil⟩ (fun s Hx _ z => ⟨(hpf.mono (tk_same (s4.trans z.1))).sq, (hpe.mono (tk_same (s4.trans z.1))).sq⟩) (fun s x Hx Hy hi z y => ?_) (fun Hx z => ?_)
      · obtain ⟨s5, us, eD, iD⟩ := z
        obtain ⟨T, x1, x2, rfl, hT, rfl, f1, f2⟩ := y
        simp only [List.getElem?_map] at f1 f2
        obtain ⟨f0, hf0, rfl⟩ := Option.map_eq_some_iff.mp f1
        obtain ⟨e0, he0, rfl⟩ := Option.map_eq_some_iff.mp f2
        have sT := same_new (o := .tup [V.int f0, .int e0]) hT
        have pz : (partsI (vecsOf F' (rows.take t)) fl r.2)[s]? = some (if f0 = -1 then [1, (e0 : Rat)] else (vecsOf F' (rows.take t)).getD e0.toNat []) := by
          unfold partsI
          rw [List.getElem?_zipWith, hf0, he0]
        have lus : us.length ≤ 4 := by
          rw [all_len iD, List.length_take]
          unfold partsI
          rw [List.length_zipWith]
          omega
        have fin : ∀ (y : V) (H9 : Hp), Same (upd Hx T (.tup [V.int f0, .int e0])) H9 → Im K H9 y (vD (if f0 = -1 then [1, (e0 : Rat)] else (vecsOf F' (rows.take t)).getD e0.toNat [])) →
            ∃ acc, H9 D = some (.lst acc) ∧ acc.length < sizeLine ∧ Same H4 (upd H9 D (.lst (acc ++ [y]))) ∧ ∃ us, (upd H9 D (.lst (acc ++ [y]))) D = some (.lst us) ∧ ImAll K (upd H9 D (.lst (acc ++ [y]))) us (((partsI (vecsOf F' (rows.take t)) fl r.2).take (s + 1)).map vD) := fun y H9 s9 iy => by
          have eD9 := s9 _ _ (sT _ _ eD)
          refine ⟨us, eD9, small1000 (by omega), fun b o e => ?_, _, upd_same, ?_⟩
          · rw [upd_ne (ne_of_none e hD)]
            exact s9 _ _ (sT _ _ (s5 _ _ e))
          · rw [List.take_add_one, pz, List.map_append]
            exact (ImAll.mono (((tk_same sT).trans (tk_same s9)).trans (tk_lst eD9)) _ iD).snoc (Im.mono (tk_lst eD9) _ iy)
        refine ⟨T, _, rfl, .of upd_same, rfl, .int f0, _, rfl, .int e0, _, rfl, rfl, rfl, ?_⟩
        refine ⟨.int f0, rfl, rfl, _, rfl, ?_⟩
        by_cases h1 : f0 = -1
        · rw [decide_eq_true (by rw [h1])]
          refine iteT ⟨.int e0, rfl, e0, rfl, fun p' H9 s9 hp' i9 => ⟨by show 2 ≤ sizeLine; decide, fun T2 hT2 => ?_⟩⟩
          refine fin _ _ (s9.trans (same_new hT2)) ?_
          rw [if_pos h1]
          have i1' : Im K H9 (.ref ao) (rD 1) := .tup (io H9) (.cons (.int 1) (.cons (.int 1) .nil))
          exact .tup (.inl upd_same) (.cons (Im.mono (tk_new hT2) _ i1') (.cons (Im.mono (tk_new hT2) _ i9) .nil))
        · rw [decide_eq_false (fun z => h1 (V.int.inj z))]
          have hfin : ∃ f, m.2[s]? = some f ∧ placeOf (F'.ks.map (·.1)) f = f0 := by
            rw [← hfl, List.getElem?_map] at hf0
            exact Option.map_eq_some_iff.mp hf0
          obtain ⟨f, hf, rfl⟩ := hfin
          have hin : f ∈ F'.ks.map (·.1) := by
            refine Decidable.byContradiction fun z => h1 (place_num.mpr z)
          obtain ⟨n, rfl, hn, ka⟩ := hent s f e0 hf he0 hin
          have ln : n < (vecsOf F' (rows.take t)).length := by
            rw [vecsOf_len, List.length_take]
            have := (List.getElem?_eq_some_iff.mp hr').1
            omega
          have s9 := (s4.trans s5).trans sT
          obtain ⟨y, ey, iy⟩ := all_at (ImAll.mono (tk_same s9) _ im) (List.getElem?_eq_getElem ln)
          refine iteF ⟨.ref L, rfl, .int (n : Nat), rfl, L, ws, _, y, rfl, rfl, .of (s9 _ _ mL), atI_nat ey, ?_⟩
          refine fin _ _ (Same.refl _) ?_
          rw [if_neg h1, Int.toNat_natCast, List.getD_eq_getElem?_getD, List.getElem?_eq_getElem ln]
          exact iy
      · obtain ⟨s5, us, eD, iD⟩ := z
        have lp : (partsI (vecsOf F' (rows.take t)) fl r.2).length = fl.length := by
          unfold partsI
          rw [List.length_zipWith]; omega
        rw [List.length_map, ← lp, List.take_of_length_le (Nat.le_refl _)] at iD
        have s9 := s4.trans s5
        have d32 := ok.dim_le i
        rw [ed] at d32
        rw [ed, et] at vj
        have i9 : Im K Hx (.ref a) (fmD F') := Im.mono (tk_same (sm.trans s9)) _ iv
        refine ⟨.ref L, rfl, .inl ⟨rfl, _, .of (s9 _ _ mL)⟩, .ref a, rfl, .int (i : Nat), rfl, .int (j : Nat), rfl, .ref D, rfl, .ref a, i, j, D, F', dim, row, ts, us, _, rfl, i9, hdim, hrow, hts, eD, iD, d32, vj, fun p' H7 s7 i7 => ?_⟩
        have mL7 := s7 _ _ (s9 _ _ mL)
        have lws : ws.length ≤ 96 := by
          rw [all_len im, vecsOf_len, List.length_take]; omega
        refine ⟨L, ws, .ref p', rfl, rfl, mL7, small1000 (by omega), _, _, _, _, _, _, _, _, rfl, fun b o e => ?_, ?_, upd_same, ?_⟩
        · rw [upd_ne (ne_of_none e hL0)]
          exact s7 _ _ (s9 _ _ (sm _ _ e))
        · obtain ⟨kvs, k1, k2, k3⟩ := (tbm.same (s9.trans s7)).ex
          exact ⟨kvs, by rw [upd_ne ndL]; exact k1, k2, ImAll.mono (tk_lst mL7) _ k3⟩
        · rw [vecsOf_snoc hr']
          unfold vecStep
          rw [ero]
          have e3 : (mkRow (F'.ks.map (·.1)) i j m).2.2.2 = fl := hfl
          rw [e3]
          show ImAll K _ _ ((vecsOf F' (rows.take t) ++ [vecT (F'.dims.getD i 0) (termsAt F' i j) _]).map vD)
          rw [ed, et, List.map_append]
          exact (ImAll.mono ((tk_same (s9.trans s7)).trans (tk_lst mL7)) _ im).snoc (Im.mono (tk_lst mL7) _ i7)
    · rintro σ Ha ⟨y4, y5, y6, y7, y8, y9, y10, ws, rfl, sm, tbm, mL, im⟩
      rw [lx, List.take_of_length_le (Nat.le_refl _)] at im
      refine ⟨.ref L, rfl, L, ws, rfl, .inl ⟨.of mL, fun l' hl' => q l' _ (sm.trans (same_new hl')) (.tup (.inl upd_same) (ImAll.mono (tk_new hl') _ im))⟩⟩
end
end K63

set_option Elab.async false
set_option linter.all false
set_option maxRecDepth 100000
/-! list of a dict with nested keys; xs[a::n] of a list -/
namespace Ly
open PySem PySem.Spec PyProof.Rows L2
def rListN (P : Program) (w : World) (K : PySem.W.Frag) : List V → Hp → VK → Prop := fun vs H Q => ∃ a xs, vs = [.ref a] ∧ H a = some (dN P w a xs) ∧ KeysIm K H xs ∧ ∀ p, H p = none → Q (.ref p) (upd H p (.lst (xs.map fun x => V.ref x.2.1)))
theorem call_listN {X : Cx} (hcalm : X.calm = true := by rfl) : CallR X (.type "list") (rListN X.prog X.w X.K) := by
  intro pins s σ H vs us Q I r q
  obtain ⟨a, xs, ex, e, ks, q⟩ := q
  subst ex
  obtain ⟨u, eu, rx⟩ := vals1 r
  subst eu
  cases rx
  obtain ⟨z, lo, dd⟩ := dN_of I e ks
  obtain ⟨es, ep, hr, hsz, he⟩ := dd.raw
  rw [List.length_map] at hsz
  refine PySem.W.kdl_call (PySem.KdlSrc.rawDict (es := es) (ep := ep) lo) (I.ok.hd hcalm) hr (by rw [hsz]; exact z) fun h' tk acc' c' kp e' it => ?_
  have hal : acc'.toList.length = xs.length := by rw [Array.length_toList, it.1, hsz]
  have rv : Vals (xs.map fun x => V.ref x.2.1) acc'.toList := by
    refine vals_of_at (by rw [List.length_map, hal]) fun j x u h1 h2 => ?_
    rw [Array.getElem?_toList] at h2
    obtain ⟨hi, e1⟩ := it.2 j u h2
    obtain ⟨y, hy, h3, _⟩ := he j hi
    rw [List.getElem?_map] at h1 hy
    obtain ⟨b, hb, rfl⟩ := Option.map_eq_some_iff.mp h1
    rw [hb] at hy
    obtain rfl := Option.some.inj hy
    rw [e1, h3]
    exact rfl
  have hz : (xs.map fun x => V.ref x.2.1).length ≤ sizeLine := by rw [List.length_map]; exact z
  refine ⟨.ref s.heap.objs.size, _, I.laid (t' := tk) (o := .lst (xs.map fun x => V.ref x.2.1)) kp (Nat.le_refl _) ?_, rfl, q _ (I.hok.fresh (Nat.le_refl _))⟩
  exact ⟨hz, acc'.toList, c', rv, by rw [Array.toArray_toList]; exact e'⟩
theorem kcall_listN {X : Cx} (P : Program) (w : World) (K : PySem.W.Frag) (hcalm : X.calm = true := by rfl) (e1 : X.prog = P := by rfl) (e2 : X.w = w := by rfl) (e3 : X.K = K := by rfl) : CallR X (.type "list") (rListN P w K) := by
  subst e1 e2 e3; exact call_listN hcalm
/-! ### every n-th item -/
def tStepL (K : PySem.W.Frag) (te tl : TE) : TE := fun σ H Q => te σ H fun x H1 => tPart tl σ H1 fun o H2 => ∃ i a xs, o = some i ∧ x = .ref a ∧ SqL K H2 a xs ∧ ∀ p ys, (∀ v ∈ ys, v ∈ xs) → ys.length ≤ xs.length → H2 p = none → Q (.ref p) (upd H2 p (.lst ys))
def pickV (xs : List V) (ix : List Nat) : List V := ix.filterMap (xs[·]?)
theorem pick_vals {xs : List V} {us : List Value} (r : Vals xs us) : ∀ ix : List Nat, Vals (pickV xs ix) (ix.filterMap (us.toArray[·]?))
  | [] => .nil
  | i :: ix => by
    have ih := pick_vals r ix
    unfold pickV at ih ⊢
    rw [List.filterMap_cons, List.filterMap_cons]
    have e : us.toArray[i]? = us[i]? := by simp
    rw [e]
    cases h : xs[i]? with
    | none =>
      have : us[i]? = none := by
        have hl := r.length
        have := List.getElem?_eq_none_iff.mp h
        exact List.getElem?_eq_none (by omega)
      rw [this]; exact ih
    | some x =>
      obtain ⟨u, h1, h2⟩ := r.get h
      rw [h1]
      exact .cons h2 ih
theorem pick_mem (xs : List V) (ix : List Nat) : ∀ v ∈ pickV xs ix, v ∈ xs := fun v hv => by
  obtain ⟨i, _, h⟩ := List.mem_filterMap.mp hv
  exact List.mem_of_getElem? h
theorem pe_stepL {X : Cx} {e lo : Expr} {te tl : TE} {n : Int} (n0 : n ≠ 0) {k : Nat} {p1 p3 pos : Pos} (he : PE X e te) (hl : PE X lo tl) : PE X (.Subscript e (.Slice (some lo) none (some (.Constant (.int n) k p1)) p3) pos) (tStepL X.K te tl) := by
  refine ⟨fun pins s σ H Q I h => ?_⟩
  refine Subscript_ (thn (he.run pins s σ H _ I h) fun v s1 ⟨x, H1, I1, r1, q1⟩ => ?_)
  have hst : PO X (some (.Constant (.int n) k p1)) (tPart (tC (.int n))) := po_some pe_int
  refine wpAny_Slice (thn ((po_some hl).run pins s1 σ H1 _ I1 q1) fun vl s2 ⟨l, H2, I2, pl, i, a, xs, el, ex, hx, q⟩ => ?_)
  subst el ex
  cases r1
  refine thn (po_none.run pins s2 σ H2 (fun o H3 => o = none ∧ H3 = H2) I2 ⟨rfl, rfl⟩) fun vu s3 ⟨u, H3, I3, pu, eu, e3⟩ => ?_
  subst eu e3
  refine thn (hst.run pins s3 σ H3 (fun o H4 => o = some n ∧ H4 = H3) I3 ⟨n, rfl, rfl, rfl⟩) fun vs s4 ⟨o, H4, I4, ps, eo, e4⟩ => ?_
  subst eo e4
  have I5 : Inv X pins σ H4 { s4 with heap := s4.heap.push { cls := .type "slice", data := .fields #[vl, vu, vs] } } := I4.kept (t' := s4.toks) fun b ob q => Heap.get?_push_of_some _ q
  obtain ⟨its, r, ht, hz⟩ := I5.list hx
  have hlen := r.length
  show wpAny (model X.prog X.w) X.A (subscriptTail e (.Slice (some lo) none (some (.Constant (.int n) k p1)) p3) (.ref a) (.ref s4.heap.objs.size)) (EP X pins σ Q) X.xe { s4 with heap := s4.heap.push { cls := .type "slice", data := .fields #[vl, vu, vs] } }
  refine tail_any (ops := [.ref a, .ref s4.heap.objs.size]) ht.isList.typeIs (PySem.slot_list_getitem.lookup) ?_ (by with_unfolding_all rfl)
  refine wpAny_getItem_list_slice ht.isList (Heap.IsSliceOf.new _ vl vu vs) pl pu ps (fun z => n0 (Option.some.inj z)) ?_ (by rw [List.size_toArray]; omega)
  have hsz := slicePick_size_le its.toArray (some i) none (some n)
  unfold slicePick at hsz ⊢
  rw [List.size_toArray, List.size_toArray] at hsz
  generalize sliceRange (sliceBounds (some i) none (some n) its.toArray.size).1 (sliceBounds (some i) none (some n) its.toArray.size).2.1 (sliceBounds (some i) none (some n) its.toArray.size).2.2 = ix at *
  have rp := pick_vals r ix
  have lp := rp.length
  refine ⟨.ref _, _, I5.laid (t' := s4.toks) (o := .lst (pickV xs ix)) (fun b ob q => Heap.get?_push_of_some _ q) (Nat.le_refl _) ?_, rfl, q _ _ (pick_mem xs ix) (by omega) (I5.hok.fresh (Nat.le_refl _))⟩
  exact ⟨by omega, _, 0, rp, Heap.get?_push_size _ rfl⟩
theorem kpe_stepL {X : Cx} (K : PySem.W.Frag) {e lo : Expr} {te tl : TE} {n : Int} (n0 : n ≠ 0) {k : Nat} {p1 p3 pos : Pos} (he : PE X e te) (hl : PE X lo tl) (eK : X.K = K := by rfl) : PE X (.Subscript e (.Slice (some lo) none (some (.Constant (.int n) k p1)) p3) pos) (tStepL K te tl) := by
  subst eK; exact pe_stepL n0 he hl
end Ly

set_option Elab.async false
set_option linter.all false
set_option maxRecDepth 100000
set_option exponentiation.threshold 20000
set_option pp.deepTerms false
set_option pp.deepTerms.threshold 8
namespace K63
open PySem PySem.Spec PyProof.Rows L2 Ly Mt
/-! ### the store of draws -/
structure Sto (H : Hp) (w : Addr) : Prop where
  ex : ∃ (a : Int) (r : List Int), H w = some (.lst (.int a :: r.map V.int)) ∧ 0 ≤ a ∧ 1 ≤ r.length ∧ r.length ≤ 1000 ∧ ∀ x ∈ r, 0 ≤ x
def But (w : Addr) (H H' : Hp) : Prop := ∀ b o, b ≠ w → H b = some o → H' b = some o
theorem But.refl (w : Addr) (H : Hp) : But w H H := fun _ _ _ h => h
theorem But.trans {w : Addr} {H H1 H2 : Hp} (a : But w H H1) (b : But w H1 H2) : But w H H2 := fun x o h1 h => b x o h1 (a x o h1 h)
theorem but_same {w : Addr} {H H' : Hp} (s : Same H H') : But w H H' := fun b o _ h => s b o h
theorem But.tk {w : Addr} {H H' : Hp} (s : But w H H') (u : Sto H w) : TK H H' := fun b xs e => by
  obtain ⟨g, h, h1, _⟩ := u.ex
  exact s b _ (fun z => by subst z; rw [h1] at e; cases e) e
theorem Sto.same {w : Addr} {H H' : Hp} (u : Sto H w) (s : Same H H') : Sto H' w := by
  obtain ⟨g, h, h1, r⟩ := u.ex
  exact ⟨g, h, s _ _ h1, r⟩
theorem But.free {w : Addr} {H H' : Hp} {p : Addr} (s : But w H H') (u : Sto H' w) (h : H' p = none) : H p = none := by
  obtain ⟨_, _, h1, _⟩ := u.ex
  cases e : H p with
  | none => rfl
  | some o =>
    by_cases q : p = w
    · subst q; rw [h1] at h; cases h
    · rw [s p o q e] at h; cases h
theorem Sto.upd {w D : Addr} {H : Hp} {o : HO} (u : Sto H w) (h1 : D ≠ w) : Sto (upd H D o) w := by
  obtain ⟨a, b, hc, r⟩ := u.ex
  exact ⟨a, b, by rw [upd_ne h1.symm]; exact hc, r⟩
theorem Sto.ne {w D : Addr} {H : Hp} (u : Sto H w) (h : H D = none) : D ≠ w := by
  obtain ⟨a, b, hc, r⟩ := u.ex
  exact (ne_of_none hc h).symm
theorem fmod_in {x m : Int} (h : 0 < m) : 0 ≤ x.fmod m ∧ x.fmod m < m := by
  rw [Int.fmod_eq_emod_of_nonneg _ (by omega)]
  exact ⟨Int.emod_nonneg _ (by omega), Int.emod_lt_of_pos _ h⟩
theorem abs_lt {x : Int} {n : Nat} (h0 : 0 ≤ x) (h : x < 2 ^ n) : x.natAbs < 2 ^ n := by
  have e : ((x.natAbs : Nat) : Int) < ((2 ^ n : Nat) : Int) := by
    rw [Int.natCast_pow]; show ((x.natAbs : Nat) : Int) < (2 : Int) ^ n; omega
  exact Int.ofNat_lt.mp e
theorem rat_int {q : Rat} (h : q.den = 1) : q = (q.num : Rat) := by
  exact Rat.ext rfl h
section
variable {P : Program} {w : World} {K : PySem.W.Frag} {mg : Str → Option Value} {base : Heap}
abbrev s__law_pick : Stmt := topS 57
theorem sc__law_pick : FnScope ["store", "many", "at"] ["store", "many"] (defScope s__law_pick) := ⟨rfl, rfl, rfl, by decide +kernel, rfl, by decide +kernel, by decide +kernel⟩
def sp_pick : Sp := fun vs H Q _ => ∃ (c : Addr) (m : Int), vs = [.ref c, .int m] ∧ Sto H c ∧ 0 < m ∧ ∀ (d : Nat) H', (d : Int) < m → Sto H' c → But c H H' → Q (.int (d : Nat)) H'
theorem ok__law_pick {f : Addr} {fd : FuncData} {k : Nat} (F : Fun K "_law_pick" "_law_pick" s__law_pick f fd) (T : Tx K mg) : FnOk P w K mg base CX0 (k + 1) f fd ["store", "many"] sp_pick := by
  have nd := sc__law_pick.nd
  refine F.ok sc__law_pick (fun vs H Q E h => ?_) (fun cdv A outer s H vs Q E hr h => ?_)
  · obtain ⟨_, _, rfl, _⟩ := h
    rfl
  · obtain ⟨c, m, rfl, u, m0, q⟩ := h
    obtain ⟨a, r, hc, a0, r1, r2, rp⟩ := u.ex
    refine ⟨_, (pss_cons (ps_set (i := 2) nd rfl (.inl rfl) (pe_callTy call_int1 (by rfl) T.m_int (by decide +kernel) (pa_cons (pe_ix (kix_list K) (pv 0) pe_int (fun _ _ => rfl)) pa_nil)))
      (pss_cons (ps_asg (pe_op op_add (pv 2) pe_int) (pg_sub (pv 0) pe_int set_list))
      (pss_one (ps_ret (pe_op op_modN (pe_callTy call_int1 (by rfl) T.m_int (by decide +kernel) (pa_cons (pe_op op_add (pe_ix (kix_list K) (pv 0) (pe_op op_add pe_int (pe_op op_modN (pv 2) (pe_op op_sub (pe_callB (kcall_len K) (by rfl) T.m_len PySem.boot_len (pa_cons (pv 0) pa_nil)) pe_int))) (fun _ _ => rfl)) (pe_op op_mul (pe_op op_fdivW (pv 2) (pe_op op_sub (pe_callB (kcall_len K) (by rfl) T.m_len PySem.boot_len (pa_cons (pv 0) pa_nil)) pe_int)) pe_int)) pa_nil)) (pv 1)))))), ?_⟩
    refine ⟨.ref c, rfl, c, _, 0, _, rfl, rfl, .of hc, atI_nat (j := 0) rfl, .inl ⟨_, rfl, ?_⟩⟩
    refine ⟨.int a, rfl, _, _, rfl, rfl, .ref c, rfl, c, _, 0, 0, rfl, rfl, hc, ixN_nat (j := 0) (by simp), ?_⟩
    dsimp only [List.set]
    have hc2 : (upd H c (.lst (.int (a + 1) :: r.map V.int))) c = some (.lst (.int (a + 1) :: r.map V.int)) := upd_same
    have bt : But c H (upd H c (.lst (.int (a + 1) :: r.map V.int))) := fun y o h1 h => by rw [upd_ne h1]; exact h
    show (tRet _ : TS) _ _ (upd H c (.lst (.int (a + 1) :: r.map V.int)))
    generalize upd H c (.lst (.int (a + 1) :: r.map V.int)) = H2 at *
    have ll : ((.int (a + 1) :: r.map V.int : List V).length : Int) - 1 = (r.length : Nat) := by rw [List.length_cons, List.length_map]; omega
    have h1 := fmod_in (x := a) (m := (r.length : Nat)) (by omega)
    obtain ⟨j, hj⟩ := Int.eq_ofNat_of_zero_le h1.1
    have jl : j < r.length := by omega
    have ej : (.int (a + 1) :: r.map V.int : List V)[j + 1]? = some (.int r[j]) := by
      rw [List.getElem?_cons_succ, List.getElem?_map, List.getElem?_eq_getElem jl]; rfl
    refine ⟨.ref c, rfl, .int a, rfl, .ref c, rfl, c, _, rfl, .inl (.of hc2), _, _, rfl, rfl, _, _, rfl, rfl, (by rw [ll]; show ((r.length : Nat) : Int) ≠ 0; omega), _, _, rfl, rfl, c, _, _, .int r[j], rfl, rfl, .of hc2, ?_, ?_⟩
    · rw [ll, hj, show (1 : Int) + ((j : Nat) : Int) = ((j + 1 : Nat) : Int) by omega]
      exact atI_nat ej
    have hd := wide_div (i := a) (j := (r.length : Nat)) (b := 10) (by omega) (by rw [Int.natAbs_natCast]; omega) (by decide) (by decide)
    refine ⟨.int a, rfl, .ref c, rfl, c, _, rfl, .inl (.of hc2), _, _, rfl, rfl, _, _, rfl, rfl, by rw [ll]; exact hd, _, _, rfl, rfl, .inr ⟨by decide, by decide⟩, _, _, rfl, rfl, .inl ⟨_, rfl, .int m, rfl, _, _, rfl, rfl, (by show m ≠ 0; omega), ?_⟩⟩
    have h2 := fmod_in (x := r[j] + a / (((.int (a + 1) :: r.map V.int : List V).length : Int) - 1) * 7) m0
    obtain ⟨d, hd'⟩ := Int.eq_ofNat_of_zero_le h2.1
    show Q (.int ((r[j] + a / (((.int (a + 1) :: r.map V.int : List V).length : Int) - 1) * 7).fmod m)) H2
    rw [hd']
    exact q d _ (by omega) ⟨a + 1, r, hc2, by omega, r1, r2, rp⟩ bt
abbrev s__law_store : Stmt := topS 56
theorem sc__law_store : FnScope ["cells", "lot", "many", "mixed", "rest", "at", "store", "turn", "cell", "digit"] ["cells", "lot", "many"] (defScope s__law_store) := ⟨rfl, rfl, rfl, by decide +kernel, rfl, by decide +kernel, by decide +kernel⟩
def sp_store (K : PySem.W.Frag) : Sp := fun vs H Q _ => ∃ (p : Addr) (cs : List Int) (lot many : Nat), vs = [.ref p, .int (lot : Nat), .int (many : Nat)] ∧ H p = some (.lst (cs.map V.int)) ∧ cs.length ≤ 100 ∧ lot ≤ 100 ∧ 1 ≤ many ∧ many ≤ 900 ∧ ∀ w H', Same H H' → H w = none → Sto H' w → Q (.ref w) H'
set_option maxHeartbeats 1000000 in
theorem ok__law_store {f : Addr} {fd : FuncData} {k : Nat} (F : Fun K "_law_store" "_law_store" s__law_store f fd) (T : Tx K mg) : FnOk P w K mg base CX0 (k + 1) f fd ["cells", "lot", "many"] (sp_store K) := by
  have nd := sc__law_store.nd
  refine F.ok sc__law_store (fun vs H Q E h => ?_) (fun cdv A outer s H vs Q E hr h => ?_)
  · obtain ⟨_, _, _, _, rfl, _⟩ := h
    rfl
  · obtain ⟨p, cs, lot, many, rfl, hp, c100, lot100, many1, many9, q⟩ := h
    refine ⟨_, (pss_cons (ps_asg (pe_tup (pa_cons (pe_op op_add pe_int (pe_op op_mul pe_int (pv 1))) (pa_cons pe_int (pa_cons pe_int (pa_cons (pe_lst (pa_cons pe_int pa_nil)) pa_nil))))) (kpg_tup K (n := 4) rfl (pgs_cons (pg_name (i := 3) nd rfl (.inl rfl)) (pgs_cons (pg_name (i := 4) nd rfl (.inl rfl)) (pgs_cons (pg_name (i := 5) nd rfl (.inl rfl)) (pgs_cons (pg_name (i := 6) nd rfl (.inl rfl)) pgs_nil))))))
      (pss_cons (ps_for PassesOwn.never rfl (pi_range1 rfl T.m_range (pa_cons (pv 2) pa_nil)) (pg_name (i := 7) nd rfl (.inl rfl))
        (C8.pss_cut (ps_if (PW.pt (pw_and (pt_cmpR op_eq (pv 4) pe_int (nomark _)) (pw_and1 (pt_cmpR op_lt (pv 5) (pe_callB (kcall_len K) (by rfl) T.m_len PySem.boot_len (pa_cons (pv 0) pa_nil)) (nomark _)))))
          (pss_cons (ps_set (i := 8) nd rfl (.inl rfl) (pe_callB call_abs (by rfl) T.m_abs (by decide +kernel) (pa_cons (pe_callTy call_int1 (by rfl) T.m_int (by decide +kernel) (pa_cons (pe_ix (kix_list K) (pv 0) (pv 5) (fun _ _ => rfl)) pa_nil)) pa_nil)))
          (pss_cons (ps_set (i := 5) nd rfl (.inl rfl) (pe_op op_add (pv 5) pe_int))
          (pss_cons (ps_set (i := 3) nd rfl (.inl rfl) (pe_op op_modN (pe_callTy call_int1 (by rfl) T.m_int (by decide +kernel) (pa_cons (pe_op op_add (pe_op op_add (pe_op op_mul (pv 3) pe_int) (pv 8)) (pe_op op_mul pe_int (pv 5))) pa_nil)) pe_int))
          (pss_one (ps_set (i := 4) nd rfl (.inl rfl) (pe_op op_mul (pv 8) (pe_callTy call_int1 (by rfl) T.m_int (by decide +kernel) (pa_cons (pe_cmpR op_ge (pv 8) (pe_op op_pow pe_int pe_int) (nomark _)) pa_nil))))))))
          pss_nil)
        (pss_cons (ps_set (i := 3) nd rfl (.inl rfl) (pe_op op_modN (pe_callTy call_int1 (by rfl) T.m_int (by decide +kernel) (pa_cons (pe_op op_add (pe_op op_add (pe_op op_mul (pv 3) pe_int) (pe_op op_mul (pe_op op_mul (pv 7) (pv 7)) (pv 7))) pe_int) pa_nil)) pe_int))
        (pss_cons (ps_set (i := 9) nd rfl (.inl rfl) (pe_op op_modN (pe_op op_fdivW (pe_op op_modN (pe_callTy call_int1 (by rfl) T.m_int (by decide +kernel) (pa_cons (pe_op op_mul (pv 3) (pe_op op_add (pe_op op_fdivW (pv 3) pe_int) pe_int)) pa_nil)) pe_int) pe_int) pe_int))
        (C8.pss_cut (ps_if (pt_cmpR op_gt (pv 4) pe_int (nomark _))
          (pss_cons (ps_set (i := 9) nd rfl (.inl rfl) (pe_op op_modN (pe_callTy call_int1 (by rfl) T.m_int (by decide +kernel) (pa_cons (pv 4) pa_nil)) pe_int))
          (pss_one (ps_set (i := 4) nd rfl (.inl rfl) (pe_op op_fdivW (pv 4) pe_int))))
          pss_nil)
        (pss_one (ps_expr (pe_bm PySem.F.plainAttrs_list PySem.F.slot_list_append PySem.F.type_list_append mt_append (pv 6) (pa_cons (pv 9) pa_nil)))))))))
      (pss_one (ps_ret (pv 6))))), ?_⟩
    refine ⟨.int (lot : Nat), rfl, _, _, rfl, rfl, .inr ⟨by omega, by omega⟩, _, _, rfl, rfl, by show 1 ≤ sizeLine; decide, fun W hW => ⟨by show 4 ≤ sizeLine; decide, fun T0 hT0 => ?_⟩⟩
    have sW := same_new (o := .lst [.int 0]) hW
    have sT := same_new (o := .tup [.int (11 + 97 * (lot : Nat)), .int 0, .int 0, .ref W]) hT0
    have s1 := sW.trans sT
    have eW := sT _ _ (show (upd H W (.lst [.int 0])) W = some (.lst [.int 0]) from upd_same)
    have eT : (upd (upd H W (.lst [.int 0])) T0 (.tup [.int (11 + 97 * (lot : Nat)), .int 0, .int 0, .ref W])) T0 = some (.tup [.int (11 + 97 * (lot : Nat)), .int 0, .int 0, .ref W]) := upd_same
    generalize upd (upd H W (.lst [.int 0])) T0 (.tup [.int (11 + 97 * (lot : Nat)), .int 0, .int 0, .ref W]) = H1 at *
    refine ⟨T0, _, rfl, .inl (.inl eT), rfl, .int (11 + 97 * (lot : Nat)), _, rfl, .int 0, _, rfl, .int 0, _, rfl, .ref W, _, rfl, rfl, ?_⟩
    refine ⟨.int (many : Nat), rfl, (many : Nat), rfl, by omega, by omega, ?_⟩
    refine for_it (walk_range (lo := 0) (n := ((many : Nat) : Int).toNat)) (fun t σ Ha => ∃ (mx re : Int) (at_ : Nat) (y7 y8 y9 : Option V) (r : List Int), σ = [some (.ref p), some (.int (lot : Nat)), some (.int (many : Nat)), some (.int mx), some (.int re), some (.int (at_ : Nat)), some (.ref W), y7, y8, y9] ∧ 0 ≤ mx ∧ mx < 2147483629 ∧ 0 ≤ re ∧ at_ ≤ 100 ∧ Same H Ha ∧ Ha W = some (.lst (.int 0 :: r.map V.int)) ∧ r.length = t ∧ ∀ x ∈ r, 0 ≤ x) ⟨_, _, 0, _, _, _, [], rfl, by omega, by omega, by decide, by decide, s1, eW, rfl, fun x hx => by simp at hx⟩ (fun _ _ _ _ _ => trivial) ?_ ?_
    · rintro t x σ Ha Hb ht ⟨mx, re, at_, y7, y8, y9, r, rfl, mx0, mx1, re0, at1, sa, eWa, lr, rp⟩ ⟨rfl, rfl⟩
      rw [Int.toNat_natCast] at ht
      show gName 7 (V.int ((0 : Int) + (t : Nat))) _ _ _
      rw [show (0 : Int) + (t : Nat) = (t : Nat) by omega]
      have epa := sa _ _ hp
      refine ⟨fun σ' H' => H' = Hb ∧ ∃ (mx re : Int) (at_ : Nat) (y8 : Option V), σ' = [some (.ref p), some (.int (lot : Nat)), some (.int (many : Nat)), some (.int mx), some (.int re), some (.int (at_ : Nat)), some (.ref W), some (.int (t : Nat)), y8, y9] ∧ 0 ≤ mx ∧ mx < 2147483629 ∧ 0 ≤ re ∧ at_ ≤ 100, ?_, ?_⟩
      · refine ⟨.int re, rfl, rfl, _, rfl, ?_⟩
        by_cases h1 : V.int re = V.int 0
        · rw [decide_eq_true h1]
          refine iteT ⟨.int (at_ : Nat), rfl, .ref p, rfl, p, _, rfl, .inl (.of epa), _, _, rfl, rfl, _, rfl, ?_⟩
          by_cases h2 : ((at_ : Nat) : Int) < ((cs.map V.int).length : Nat)
          · rw [decide_eq_true h2]
            have ha : at_ < cs.length := by rw [List.length_map] at h2; omega
            have ec : (cs.map V.int)[at_]? = some (.int cs[at_]) := by rw [List.getElem?_map, List.getElem?_eq_getElem ha]; rfl
            refine iteT ⟨.ref p, rfl, .int (at_ : Nat), rfl, p, _, _, .int cs[at_], rfl, rfl, .of epa, atI_nat ec, .inl ⟨_, rfl, _, rfl, ?_⟩⟩
            obtain ⟨cl, ecl⟩ : ∃ cl : Nat, (if cs[at_] < 0 then -cs[at_] else cs[at_]) = ((cl : Nat) : Int) := ⟨cs[at_].natAbs, by split <;> omega⟩
            rw [ecl]
            refine ⟨.int (at_ : Nat), rfl, _, _, rfl, rfl, ?_⟩
            refine ⟨.int mx, rfl, _, _, rfl, rfl, .inr ⟨by decide, by decide⟩, .int (cl : Nat), rfl, _, _, rfl, rfl, .int ((at_ : Nat) + 1), rfl, _, _, rfl, rfl, .inl ⟨by decide, by decide⟩, _, _, rfl, rfl, .inl ⟨_, rfl, _, _, rfl, rfl, (by show (2147483629 : Int) ≠ 0; decide), ?_⟩⟩
            have hm := fmod_in (x := mx * 69621 + (cl : Nat) + 13 * ((at_ : Nat) + 1)) (m := 2147483629) (by decide)
            show gName 3 (V.int ((mx * 69621 + (cl : Nat) + 13 * ((at_ : Nat) + 1)).fmod 2147483629)) _ _ _
            generalize (mx * 69621 + (cl : Nat) + 13 * ((at_ : Nat) + 1)).fmod 2147483629 = mx2 at *
            refine ⟨.int (cl : Nat), rfl, .int (cl : Nat), rfl, _, _, rfl, rfl, ⟨by decide, by decide, by decide⟩, _, _, rfl, rfl, .inr ⟨_, rfl, _, _, rfl, rfl, .inr ?_, ?_⟩⟩
            · split <;> exact ⟨by decide, by decide⟩
            · refine ⟨rfl, mx2, _, at_ + 1, _, rfl, hm.1, hm.2, ?_, by omega⟩
              split <;> omega
          · rw [decide_eq_false h2]
            exact iteF ⟨rfl, mx, re, at_, y8, rfl, mx0, mx1, re0, at1⟩
        · rw [decide_eq_false h1]
          exact iteF (iteF ⟨rfl, mx, re, at_, y8, rfl, mx0, mx1, re0, at1⟩)
      · rintro σ' H' ⟨rfl, mx, re, at_, y8, rfl, mx0, mx1, re0, at1⟩
        refine ⟨.int mx, rfl, _, _, rfl, rfl, .inr ⟨by decide, by decide⟩, .int (t : Nat), rfl, .int (t : Nat), rfl, _, _, rfl, rfl, .inl ⟨by omega, by omega⟩, .int (t : Nat), rfl, _, _, rfl, rfl, .inr ⟨by omega, by omega⟩, _, _, rfl, rfl, _, _, rfl, rfl, .inl ⟨_, rfl, _, _, rfl, rfl, (by show (2147483629 : Int) ≠ 0; decide), ?_⟩⟩
        have hm := fmod_in (x := mx * 69069 + (t : Nat) * (t : Nat) * (t : Nat) + 29) (m := 2147483629) (by decide)
        show gName 3 (V.int ((mx * 69069 + (t : Nat) * (t : Nat) * (t : Nat) + 29).fmod 2147483629)) _ _ _
        generalize (mx * 69069 + (t : Nat) * (t : Nat) * (t : Nat) + 29).fmod 2147483629 = mx2 at *
        refine ⟨.int mx2, rfl, .int mx2, rfl, _, _, rfl, rfl, wide_div (b := 10) (by decide) (by decide) (by decide) (by decide), _, _, rfl, rfl, _, _, rfl, rfl, .inl ⟨by omega, by omega⟩, .inl ⟨_, rfl, _, _, rfl, rfl, (by show (2147483587 : Int) ≠ 0; decide), _, _, rfl, rfl, wide_div (b := 10) (by decide) (by decide) (by decide) (by decide), _, _, rfl, rfl, (by show (27720 : Int) ≠ 0; decide), ?_⟩⟩
        have hg := fmod_in (x := (mx2 * (mx2 / 32 + 3)).fmod 2147483587 / 13) (m := 27720) (by decide)
        show gName 9 (V.int (((mx2 * (mx2 / 32 + 3)).fmod 2147483587 / 13).fmod 27720)) _ _ _
        generalize ((mx2 * (mx2 / 32 + 3)).fmod 2147483587 / 13).fmod 27720 = dg at *
        refine ⟨fun σ' H'' => H'' = H' ∧ ∃ (re dg : Int), σ' = [some (.ref p), some (.int (lot : Nat)), some (.int (many : Nat)), some (.int mx2), some (.int re), some (.int (at_ : Nat)), some (.ref W), some (.int (t : Nat)), y8, some (.int dg)] ∧ 0 ≤ re ∧ 0 ≤ dg, ?_, ?_⟩
        · refine ⟨.int re, rfl, _, _, rfl, rfl, _, rfl, ?_⟩
          by_cases h : (0 : Int) < re
          · rw [decide_eq_true h]
            refine iteT ⟨.int re, rfl, .inl ⟨_, rfl, _, _, rfl, rfl, (by show (27720 : Int) ≠ 0; decide), ?_⟩⟩
            have hg2 := fmod_in (x := re) (m := 27720) (by decide)
            exact ⟨.int re, rfl, _, _, rfl, rfl, wide_div (b := 20) (by decide) (by decide) (by decide) (by decide), rfl, re / 27720, re.fmod 27720, rfl, Int.ediv_nonneg re0 (by decide), hg2.1⟩
          · rw [decide_eq_false h]
            exact iteF ⟨rfl, re, dg, rfl, re0, hg.1⟩
        · rintro σ'' H'' ⟨rfl, re, dg, rfl, re0, dg0⟩
          refine ⟨.ref W, rfl, .inl ⟨rfl, _, .of eWa⟩, .int dg, rfl, W, _, .int dg, rfl, rfl, eWa, small1000 (by rw [List.length_cons, List.length_map]; omega), ?_⟩
          refine ⟨mx2, re, at_, _, _, _, r ++ [dg], rfl, hm.1, hm.2, re0, at1, fun b o e => ?_, ?_, by rw [List.length_append, lr]; rfl, fun x hx => ?_⟩
          · rw [upd_ne (ne_of_none e hW)]; exact sa _ _ e
          · rw [upd_same, List.map_append]; rfl
          · rcases List.mem_append.mp hx with hx | hx
            · exact rp x hx
            · rw [List.mem_singleton.mp hx]; exact dg0
    · rintro σ Ha ⟨mx, re, at_, y7, y8, y9, r, rfl, mx0, mx1, re0, at1, sa, eWa, lr, rp⟩
      rw [Int.toNat_natCast] at lr
      exact ⟨.ref W, rfl, q W Ha sa hW ⟨0, r, eWa, by decide, by omega, by omega, rp⟩⟩
end
end K63

set_option Elab.async false
set_option linter.all false
set_option maxRecDepth 100000
set_option exponentiation.threshold 20000
set_option pp.deepTerms false
set_option pp.deepTerms.threshold 8
namespace K63
open PySem PySem.Spec PyProof.Rows L2 Ly Mt
/-! ### ratios of the law's own, and the law's likeness -/
inductive Fl : Nat → PyData → Prop
  | int (d : Nat) (i : Int) : Fl d (.int i)
  | str (d : Nat) (s : Str) : Fl d (.str s)
  | tup (d : Nat) (ds : List PyData) : ds.length ≤ 8000 → (∀ x ∈ ds, Fl d x) → Fl (d + 1) (.tuple ds)
section
variable {P : Program} {w : World} {K : PySem.W.Frag} {mg : Str → Option Value} {base : Heap}
abbrev s__law_ratio : Stmt := topS 58
theorem sc__law_ratio : FnScope ["top", "bottom", "one", "other"] ["top", "bottom"] (defScope s__law_ratio) := ⟨rfl, rfl, rfl, by decide +kernel, rfl, by decide +kernel, by decide +kernel⟩
def sp_ratio (K : PySem.W.Frag) : Sp := fun vs H Q _ => ∃ (t b : Int), vs = [.int t, .int b] ∧ 0 < b ∧ b.natAbs < 2 ^ 9000 ∧ ∀ p H', Same H H' → Im K H' (.ref p) (rD (Rat.divInt t b)) → Q (.ref p) H'
theorem ok__law_ratio {f : Addr} {fd : FuncData} {k : Nat} (F : Fun K "_law_ratio" "_law_ratio" s__law_ratio f fd) (T : Tx K mg) : FnOk P w K mg base CX0 (k + 1) f fd ["top", "bottom"] (sp_ratio K) := by
  have nd := sc__law_ratio.nd
  refine F.ok sc__law_ratio (fun vs H Q E h => ?_) (fun cdv A outer s H vs Q E hr h => ?_)
  · obtain ⟨_, _, rfl, _⟩ := h
    rfl
  · obtain ⟨t, b, rfl, hb, hs, q⟩ := h
    refine ⟨_, (pss_cons (ps_par (i := 2) (j := 3) (by rfl) nd rfl rfl (by decide) rfl rfl (pa_cons (pe_callB call_abs (by rfl) T.m_abs (by decide +kernel) (pa_cons (pv 0) pa_nil)) (pa_cons (pv 1) pa_nil)) (by rfl))
      (pss_cons (ps_while PassesOwn.never (pt_cmpR op_gt (pv 3) pe_int (nomark _))
        (pss_one (ps_par (i := 2) (j := 3) (by rfl) nd rfl rfl (by decide) rfl rfl (pa_cons (pv 3) (pa_cons (pe_op op_modN (pe_callTy call_int1 (by rfl) T.m_int (by decide +kernel) (pa_cons (pv 2) pa_nil)) (pv 3)) pa_nil)) (by rfl))))
      (pss_one (ps_ret (pe_tup (pa_cons (pe_op op_fdivW (pv 0) (pv 2)) (pa_cons (pe_op op_fdivW (pv 1) (pv 2)) pa_nil))))))), ?_⟩
    refine ⟨.int t, rfl, t, rfl, .int b, rfl, _, _, rfl, ?_⟩
    have eb : b = ((b.natAbs : Nat) : Int) := by omega
    have et : (if t < 0 then -t else t) = ((t.natAbs : Nat) : Int) := by split <;> omega
    rw [et]
    refine while_by (fun σ H2 => H2 = H ∧ ∃ x y : Nat, σ = [some (.int t), some (.int b), some (.int x), some (.int y)] ∧ Nat.gcd x y = Nat.gcd t.natAbs b.natAbs) (fun σ _ => match σ with | [_, _, _, some (.int y)] => y.toNat | _ => 0) ⟨rfl, t.natAbs, b.natAbs, by rw [← eb]; rfl, rfl⟩ ?_ ?_
    · rintro σ H2 ⟨rfl, x, y, rfl, hg⟩
      refine ⟨.int y, rfl, _, _, rfl, rfl, _, rfl, ?_⟩
      by_cases hy : 0 < y
      · rw [decide_eq_true (show (y : Int) > 0 by omega)]
        refine iteT ⟨.int y, rfl, .int x, rfl, .inl ⟨_, rfl, .int y, rfl, _, _, rfl, rfl, (by show (y : Int) ≠ 0; omega), _, _, rfl, ⟨rfl, y, x % y, ?_, ?_⟩, ?_⟩⟩
        · have e : (x : Int).fmod (y : Int) = ((x % y : Nat) : Int) := by rw [Int.fmod_eq_emod_of_nonneg _ (by omega)]; rfl
          show [some (V.int t), some (V.int b), some (V.int y), some (V.int ((x : Int).fmod (y : Int)))] = _
          rw [e]
        · rw [Nat.gcd_comm, ← Nat.gcd_rec, Nat.gcd_comm, hg]
        · have e : (x : Int).fmod (y : Int) = ((x % y : Nat) : Int) := by rw [Int.fmod_eq_emod_of_nonneg _ (by omega)]; rfl
          show ((x : Int).fmod (y : Int)).toNat < ((y : Int)).toNat
          rw [e]
          have := Nat.mod_lt x hy
          omega
      · rw [decide_eq_false (show ¬ (y : Int) > 0 by omega)]
        have y0 : y = 0 := by omega
        subst y0
        rw [Nat.gcd_zero_right] at hg
        subst hg
        have c := wide_div (i := t) (gcd_pos (t := t) hb) (Nat.lt_of_le_of_lt (gcd_le hb) hs) (by decide) (Nat.le_refl _)
        have c' := wide_div (i := b) (gcd_pos (t := t) hb) (Nat.lt_of_le_of_lt (gcd_le hb) hs) (by decide) (Nat.le_refl _)
        refine iteF ⟨.int t, rfl, .int _, rfl, _, _, rfl, rfl, c, .int b, rfl, .int _, rfl, _, _, rfl, rfl, c', by show 2 ≤ sizeLine; decide, fun p hp => ?_⟩
        refine q p _ (same_new hp) ?_
        refine rat_mk (.inl ?_)
        rw [← made_num hb, ← made_den hb]
        exact upd_same
    · rintro σ H2 Q1 Q2 hm ⟨v, e, i, j, h1, h2, k', h3, h4⟩
      exact ⟨v, e, i, j, h1, h2, k', h3, hm _ _ h4⟩
abbrev s__law_plus : Stmt := topS 59
theorem sc__law_plus : FnScope ["one", "other"] ["one", "other"] (defScope s__law_plus) := ⟨rfl, rfl, rfl, by decide +kernel, rfl, by decide +kernel, by decide +kernel⟩
def sp_lplus (K : PySem.W.Frag) : Sp := fun vs H Q _ => ∃ (v u : V) (x y : Rat), vs = [v, u] ∧ Im K H v (rD x) ∧ Im K H u (rD y) ∧ Bd 44000 4400 x ∧ Bd 44000 4400 y ∧ ∀ p H', Same H H' → Im K H' (.ref p) (rD (x + y)) → Q (.ref p) H'
theorem ok__law_plus {f : Addr} {fd : FuncData} {k : Nat} (F : Fun K "_law_plus" "_law_plus" s__law_plus f fd) (T : Tx K mg){k1 : Nat} (D__law_ratio : Def P w K mg base k1 "_law_ratio" s__law_ratio ["top", "bottom"] (sp_ratio K)) (e1 : k1 ≤ k) : FnOk P w K mg base CX0 (k + 1) f fd ["one", "other"] (sp_lplus K) := by
  have nd := sc__law_plus.nd
  refine F.ok sc__law_plus (fun vs H Q E h => ?_) (fun cdv A outer s H vs Q E hr h => ?_)
  · obtain ⟨_, _, _, _, rfl, _⟩ := h
    rfl
  · obtain ⟨v, u, x, y, rfl, hv, hu, bx, bw, q⟩ := h
    obtain ⟨a, rfl, ha⟩ := rat_inv hv
    obtain ⟨b, rfl, hb⟩ := rat_inv hu
    refine ⟨_, (pss_one (ps_ret (pe_def D__law_ratio (hr.mono (by omega)) rfl (pa_cons (pe_op op_add (pe_op op_mulW (pe_ix (kix_tup K) (pv 0) pe_int (fun _ _ => rfl)) (pe_ix (kix_tup K) (pv 1) pe_int (fun _ _ => rfl))) (pe_op op_mulW (pe_ix (kix_tup K) (pv 1) pe_int (fun _ _ => rfl)) (pe_ix (kix_tup K) (pv 0) pe_int (fun _ _ => rfl)))) (pa_cons (pe_op op_mulW (pe_ix (kix_tup K) (pv 0) pe_int (fun _ _ => rfl)) (pe_ix (kix_tup K) (pv 1) pe_int (fun _ _ => rfl))) pa_nil))))), ?_⟩
    refine ⟨.ref a, rfl, a, _, 0, _, rfl, rfl, ha.sq, atI_nat (j := 0) rfl, .ref b, rfl, b, _, 1, _, rfl, rfl, hb.sq, atI_nat (j := 1) rfl, _, _, rfl, rfl, wide_mul bx.1 bw.2 (by decide) (by decide) (by decide), ?_⟩
    refine ⟨.ref b, rfl, b, _, 0, _, rfl, rfl, hb.sq, atI_nat (j := 0) rfl, .ref a, rfl, a, _, 1, _, rfl, rfl, ha.sq, atI_nat (j := 1) rfl, _, _, rfl, rfl, wide_mul bw.1 bx.2 (by decide) (by decide) (by decide), _, _, rfl, rfl, ?_⟩
    refine ⟨.ref a, rfl, a, _, 1, _, rfl, rfl, ha.sq, atI_nat (j := 1) rfl, .ref b, rfl, b, _, 1, _, rfl, rfl, hb.sq, atI_nat (j := 1) rfl, _, _, rfl, rfl, wide_mul bx.2 bw.2 (by decide) (by decide) (by decide), ?_⟩
    refine ⟨_, _, rfl, Int.mul_pos (den_pos x) (den_pos y), lt_up (lt_mul bx.2 bw.2) (by decide), fun p H2 s2 i2 => ?_⟩
    rw [add_as] at i2
    exact q p _ s2 i2
abbrev s__law_times : Stmt := topS 60
theorem sc__law_times : FnScope ["one", "other"] ["one", "other"] (defScope s__law_times) := ⟨rfl, rfl, rfl, by decide +kernel, rfl, by decide +kernel, by decide +kernel⟩
def sp_ltimes (K : PySem.W.Frag) : Sp := fun vs H Q _ => ∃ (v u : V) (x y : Rat), vs = [v, u] ∧ Im K H v (rD x) ∧ Im K H u (rD y) ∧ Bd 44000 4400 x ∧ Bd 44000 4400 y ∧ ∀ p H', Same H H' → Im K H' (.ref p) (rD (x * y)) → Q (.ref p) H'
theorem ok__law_times {f : Addr} {fd : FuncData} {k : Nat} (F : Fun K "_law_times" "_law_times" s__law_times f fd) (T : Tx K mg){k1 : Nat} (D__law_ratio : Def P w K mg base k1 "_law_ratio" s__law_ratio ["top", "bottom"] (sp_ratio K)) (e1 : k1 ≤ k) : FnOk P w K mg base CX0 (k + 1) f fd ["one", "other"] (sp_ltimes K) := by
  have nd := sc__law_times.nd
  refine F.ok sc__law_times (fun vs H Q E h => ?_) (fun cdv A outer s H vs Q E hr h => ?_)
  · obtain ⟨_, _, _, _, rfl, _⟩ := h
    rfl
  · obtain ⟨v, u, x, y, rfl, hv, hu, bx, bw, q⟩ := h
    obtain ⟨a, rfl, ha⟩ := rat_inv hv
    obtain ⟨b, rfl, hb⟩ := rat_inv hu
    refine ⟨_, (pss_one (ps_ret (pe_def D__law_ratio (hr.mono (by omega)) rfl (pa_cons (pe_op op_mulW (pe_ix (kix_tup K) (pv 0) pe_int (fun _ _ => rfl)) (pe_ix (kix_tup K) (pv 1) pe_int (fun _ _ => rfl))) (pa_cons (pe_op op_mulW (pe_ix (kix_tup K) (pv 0) pe_int (fun _ _ => rfl)) (pe_ix (kix_tup K) (pv 1) pe_int (fun _ _ => rfl))) pa_nil))))), ?_⟩
    refine ⟨.ref a, rfl, a, _, 0, _, rfl, rfl, ha.sq, atI_nat (j := 0) rfl, .ref b, rfl, b, _, 0, _, rfl, rfl, hb.sq, atI_nat (j := 0) rfl, _, _, rfl, rfl, wide_mul bx.1 bw.1 (by decide) (by decide) (by decide), ?_⟩
    refine ⟨.ref a, rfl, a, _, 1, _, rfl, rfl, ha.sq, atI_nat (j := 1) rfl, .ref b, rfl, b, _, 1, _, rfl, rfl, hb.sq, atI_nat (j := 1) rfl, _, _, rfl, rfl, wide_mul bx.2 bw.2 (by decide) (by decide) (by decide), ?_⟩
    refine ⟨_, _, rfl, Int.mul_pos (den_pos x) (den_pos y), lt_up (lt_mul bx.2 bw.2) (by decide), fun p H2 s2 i2 => ?_⟩
    rw [mul_as] at i2
    exact q p _ s2 i2
abbrev s__law_same : Stmt := topS 61
theorem sc__law_same : FnScope ["found", "due", "k"] ["found", "due"] (defScope s__law_same) := ⟨rfl, rfl, rfl, by decide +kernel, rfl, by decide +kernel, by decide +kernel⟩
def sp_same (K : PySem.W.Frag) : Nat → Sp
  | 0 => fun _ _ _ _ => False
  | d + 1 => fun vs H Q _ => ∃ v1 v2 D, vs = [v1, v2] ∧ Im K H v1 D ∧ Im K H v2 D ∧ Fl d D ∧ ∀ H', Same H H' → Q (.bl true) H'
theorem ok_same0 {f : Addr} {fd : FuncData} {k : Nat} (F : Fun K "_law_same" "_law_same" s__law_same f fd) : FnOk P w K mg base CX0 (k + 1) f fd ["found", "due"] (sp_same K 0) := by
  exact F.ok sc__law_same (fun vs H Q E h => h.elim) (fun cdv A outer s H vs Q E hr h => h.elim)
theorem ok__law_same {f : Addr} {fd : FuncData} {k : Nat} (F : Fun K "_law_same" "_law_same" s__law_same f fd) (T : Tx K mg){ki d : Nat} (D__law_same : Def P w K mg base ki "_law_same" s__law_same ["found", "due"] (sp_same K d)) (hk : ki ≤ k) : FnOk P w K mg base CX0 (k + 1) f fd ["found", "due"] (sp_same K (d + 1)) := by
  have nd := sc__law_same.nd
  refine F.ok sc__law_same (fun vs H Q E h => ?_) (fun cdv A outer s H vs Q E hr h => ?_)
  · obtain ⟨_, _, _, rfl, _⟩ := h
    rfl
  · obtain ⟨v1, v2, D, rfl, i1, i2, fl, q⟩ := h
    refine ⟨_, (pss_cons (ps_if (pt_val (pe_callB (kcall_isi K) (by rfl) T.m_isinstance (by decide +kernel) (pa_cons (pv 1) (pa_cons (pe_bltn (v := .ty "tuple") (u := .type "tuple") (by rfl) T.m_tuple (by decide +kernel) rfl) pa_nil))))
        (pss_cons (ps_if (PW.pt (pw_or (pt_not (pt_val (pe_callB (kcall_isi K) (by rfl) T.m_isinstance (by decide +kernel) (pa_cons (pv 0) (pa_cons (pe_bltn (v := .ty "tuple") (u := .type "tuple") (by rfl) T.m_tuple (by decide +kernel) rfl) pa_nil))))) (pw_or1 (pt_cmpR op_ne (pe_callB (kcall_len K) (by rfl) T.m_len PySem.boot_len (pa_cons (pv 0) pa_nil)) (pe_callB (kcall_len K) (by rfl) T.m_len PySem.boot_len (pa_cons (pv 1) pa_nil)) (nomark _)))))
          (pss_one (ps_ret pe_bl))
          pss_nil)
        (pss_one (ps_ret (pe_callB (kcr_all K) (by rfl) T.m_all (by decide +kernel) (pa_cons (pe_lc (own := [("k", 2)]) (g := gName 2) (tt := tYes) rfl nd (pi_range1 rfl T.m_range (pa_cons (pe_callB (kcall_len K) (by rfl) T.m_len PySem.boot_len (pa_cons (pv 1) pa_nil)) pa_nil)) (blkOk_by (by rfl)) (fun _ _ _ _ _ => (pg_name (i := 2) nd rfl (.inl rfl))) (fun _ _ _ _ _ => pts_nil) (fun _ _ _ _ _ => (pe_def D__law_same (hr.mono (by omega)) rfl (pa_cons (pe_ix (kix_tup K) (pv 0) (pv 2) (fun _ _ => rfl)) (pa_cons (pe_ix (kix_tup K) (pv 1) (pv 2) (fun _ _ => rfl)) pa_nil))))) pa_nil)))))
        pss_nil)
      (pss_cons (ps_if (pt_cmp (pc_isN (pv 1)))
        (pss_one (ps_ret (pe_cmp (pc_isN (pv 0)) rfl)))
        pss_nil)
      (pss_cons (ps_if (pt_val (pe_callB (kcall_isi K) (by rfl) T.m_isinstance (by decide +kernel) (pa_cons (pv 1) (pa_cons (pe_bltn (v := .ty "str") (u := .type "str") (by rfl) T.m_str (by decide +kernel) rfl) pa_nil))))
        (pss_one (ps_ret (pe_and (pe_callB (kcall_isi K) (by rfl) T.m_isinstance (by decide +kernel) (pa_cons (pv 0) (pa_cons (pe_bltn (v := .ty "str") (u := .type "str") (by rfl) T.m_str (by decide +kernel) rfl) pa_nil))) (pe_one (pe_cmpR op_eq (pv 0) (pv 1) (nomark _))))))
        pss_nil)
      (pss_cons (ps_if (pt_val (pe_callB (kcall_isi K) (by rfl) T.m_isinstance (by decide +kernel) (pa_cons (pv 1) (pa_cons (pe_bltn (v := .ty "bool") (u := .type "bool") (by rfl) T.m_bool (by decide +kernel) rfl) pa_nil))))
        (pss_one (ps_ret (pe_and (pe_callB (kcall_isi K) (by rfl) T.m_isinstance (by decide +kernel) (pa_cons (pv 0) (pa_cons (pe_bltn (v := .ty "bool") (u := .type "bool") (by rfl) T.m_bool (by decide +kernel) rfl) pa_nil))) (pe_one (pe_cmpR op_eq (pv 0) (pv 1) (nomark _))))))
        pss_nil)
      (pss_one (ps_ret (pe_and (pe_callB (kcall_isi K) (by rfl) T.m_isinstance (by decide +kernel) (pa_cons (pv 0) (pa_cons (pe_bltn (v := .ty "int") (u := .type "int") (by rfl) T.m_int (by decide +kernel) rfl) pa_nil))) (pe_and (pe_not (pe_callB (kcall_isi K) (by rfl) T.m_isinstance (by decide +kernel) (pa_cons (pv 0) (pa_cons (pe_bltn (v := .ty "bool") (u := .type "bool") (by rfl) T.m_bool (by decide +kernel) rfl) pa_nil)))) (pe_one (pe_cmpR op_eq (pv 0) (pv 1) (nomark _))))))))))), ?_⟩
    cases fl with
    | int d i =>
      rw [i1.int_inv, i2.int_inv]
      refine ⟨.int i, rfl, .int i, _, .type "int", _, false, rfl, .ty _, .base (.int i), kit_ty (by decide +kernel), false, rfl, iteF ?_⟩
      refine ⟨.int i, rfl, _, rfl, ?_⟩
      rw [decide_eq_false (show ¬ V.int i = V.non from fun z => nomatch z)]
      refine iteF ⟨.int i, rfl, .int i, _, .type "int", _, false, rfl, .ty _, .base (.int i), kit_ty (by decide +kernel), false, rfl, iteF ?_⟩
      refine ⟨.int i, rfl, .int i, _, .type "int", _, false, rfl, .ty _, .base (.int i), kit_ty (by decide +kernel), false, rfl, iteF ?_⟩
      refine ⟨.int i, rfl, .int i, _, .type "int", _, true, rfl, .ty _, .base (.int i), kit_ty (by decide +kernel), true, rfl, iteT ?_⟩
      refine ⟨.int i, rfl, .int i, _, .type "int", _, false, rfl, .ty _, .base (.int i), kit_ty (by decide +kernel), false, rfl, true, rfl, iteT ?_⟩
      refine ⟨.int i, rfl, .int i, rfl, rfl, ?_⟩
      rw [decide_eq_true rfl]
      exact q H (Same.refl H)
    | str d x =>
      rw [i1.str_inv, i2.str_inv]
      refine ⟨.str x, rfl, .str x, _, .type "str", _, false, rfl, .ty _, .base (.str x), kit_ty (by decide +kernel), false, rfl, iteF ?_⟩
      refine ⟨.str x, rfl, _, rfl, ?_⟩
      rw [decide_eq_false (show ¬ V.str x = V.non from fun z => nomatch z)]
      refine iteF ⟨.str x, rfl, .str x, _, .type "str", _, true, rfl, .ty _, .base (.str x), kit_ty (by decide +kernel), true, rfl, iteT ?_⟩
      refine ⟨.str x, rfl, .str x, _, .type "str", _, true, rfl, .ty _, .base (.str x), kit_ty (by decide +kernel), true, rfl, iteT ?_⟩
      refine ⟨.str x, rfl, .str x, rfl, rfl, ?_⟩
      rw [decide_eq_true rfl]
      exact q H (Same.refl H)
    | tup d ds hl hfl =>
      obtain ⟨a, xs, rfl, ha, hxs⟩ := i1.tuple_inv
      obtain ⟨b, ys, rfl, hb, hys⟩ := i2.tuple_inv
      have lx := hxs.length
      have ly := hys.length
      refine ⟨.ref b, rfl, .ref b, _, .type "tuple", _, true, rfl, .ty _, ity hb, kit_ty (by decide +kernel), true, rfl, iteT ?_⟩
      refine ⟨.ref a, rfl, .ref a, _, .type "tuple", _, true, rfl, .ty _, ity ha, kit_ty (by decide +kernel), true, rfl, iteF ?_⟩
      refine ⟨.ref a, rfl, a, xs, rfl, .inr ha.sq, .ref b, rfl, b, ys, rfl, .inr hb.sq, rfl, _, rfl, ?_⟩
      rw [show xs.length = ys.length by omega]
      refine iteNS rfl ?_
      refine ⟨.ref b, rfl, b, ys, rfl, .inr hb.sq, (ys.length : Nat), rfl, by omega, by omega, fun D2 hD => ?_⟩
      refine lc_yes (walk_range (lo := 0) (n := ys.length)) hD (Nat.lt_of_le_of_lt (show ys.length ≤ 8000 by omega) (by decide)) (fun _ _ => trivial) (fun i x H2 H3 R hi sm y yes => ?_) (fun H2 sm eD => ⟨D2, _, rfl, .of eD, ?_⟩)
      · obtain ⟨rfl, rfl⟩ := y
        have hd : ds[i]? = some (ds[i]'(by omega)) := List.getElem?_eq_getElem (by omega)
        generalize ds[i]'(by omega) = di at hd
        obtain ⟨x1, hx1, j1⟩ := hxs.get hd
        obtain ⟨x2, hx2, j2⟩ := hys.get hd
        have k0 : ((0 : Int) + (i : Nat)) = ((i : Nat) : Int) := by omega
        have g1 : atI xs ((0 : Int) + (i : Nat)) = some x1 := by rw [k0]; exact atI_nat hx1
        have g2 : atI ys ((0 : Int) + (i : Nat)) = some x2 := by rw [k0]; exact atI_nat hx2
        exact ⟨rfl, .ref a, rfl, .int _, rfl, a, xs, _, _, rfl, rfl, (ha.mono (tk_same sm)).sq, g1, .ref b, rfl, .int _, rfl, b, ys, _, _, rfl, rfl, (hb.mono (tk_same sm)).sq, g2, x1, x2, di, rfl, Im.mono (tk_same sm) _ j1, Im.mono (tk_same sm) _ j2, hfl di (List.mem_of_getElem? hd), fun H4 sm4 => yes H4 sm4⟩
      · rw [rep_all]
        exact q _ sm
end
end K63

set_option Elab.async false
set_option linter.all false
set_option maxRecDepth 100000
/-! one sign, so many times -/
namespace Ly
open PySem PySem.Spec PyProof.Rows L2
def rMulS : R2 := fun x y H Q => ∃ (c : Nat) (n : Int), x = .str ⟨#[c]⟩ ∧ y = .int n ∧ 1 ≤ n ∧ n ≤ 1000 ∧ Q (.str ⟨(List.replicate n.toNat c).toArray⟩) H
theorem foldl_sign (c : Nat) : ∀ (n : Nat) (a : Array Nat), (List.replicate n #[c]).foldl (· ++ ·) a = a ++ (List.replicate n c).toArray
  | 0, a => by simp
  | n + 1, a => by
    rw [List.replicate_succ, List.foldl_cons, foldl_sign c n, List.replicate_succ, Array.append_assoc]
    congr 1
    simp
theorem op_mulS {X : Cx} : OpR X (binaryOp .Mult) rMulS := by
  intro pins s σ H x y v u Q I rx ry h
  obtain ⟨c, n, rfl, rfl, h1, h2, q⟩ := h
  obtain ⟨t, rfl⟩ := rx
  obtain ⟨t', rfl⟩ := ry
  have f0 : ¬ n < 1 := by omega
  have lc : (⟨#[c]⟩ : Str).length = 1 := rfl
  refine P.mul_str (by
    rw [decide_eq_false (show ¬ n < -(2 ^ 63) by omega), decide_eq_false (show ¬ n ≥ 2 ^ 63 by omega)]; rfl) (fun _ _ => ?_) (fun _ _ => ?_) ?_
  · rw [lc]
    intro z
    have := Int.lt_mul_of_ediv_lt (by omega) z
    omega
  · rw [lc]
    unfold Builtin.Str.tooLong
    rw [decide_eq_false]
    have : n.toNat ≤ 1000 := by omega
    have h3 : 1000 ≤ sizeLine := by decide
    omega
  · rw [if_neg f0]
    have e : (⟨(List.replicate n.toNat #[c]).foldl (· ++ ·) #[]⟩ : Str) = ⟨(List.replicate n.toNat c).toArray⟩ := by
      rw [foldl_sign]; simp
    split
    · next hh =>
      have n1 : n = 1 := by
        rw [lc] at hh
        simpa using hh
      subst n1
      exact ⟨.str ⟨#[c]⟩, H, I, ⟨_, rfl⟩, q⟩
    · refine ⟨?_, ?_⟩
      · rw [show (⟨(List.replicate n.toNat (⟨#[c]⟩ : Str).cps).foldl (· ++ ·) #[]⟩ : Str) = ⟨(List.replicate n.toNat c).toArray⟩ from e]
        show (List.replicate n.toNat c).toArray.size ≤ sizeLine
        simp only [List.size_toArray, List.length_replicate]
        have h3 : 1000 ≤ sizeLine := by decide
        omega
      · exact ⟨.str _, H, I.tok _, ⟨_, rfl⟩, by rw [e]; exact q⟩
end Ly

set_option Elab.async false
set_option linter.all false
set_option maxRecDepth 100000
set_option exponentiation.threshold 20000
set_option pp.deepTerms false
set_option pp.deepTerms.threshold 8
namespace K63
open PySem PySem.Spec PyProof.Rows L2 Ly Mt
/-! ### the kinds that are drawn -/
def namesS (d : Nat) : List Str := ([["A", "B", "C"], ["Tree", "Forest", "T"], ["K", "KK", "KKK"], ["X1z", "X2z", "X3z"]] : List (List Str)).getD d []
def titleS (s n : Nat) : Str := if s = 0 then ⟨#[77, 48 + n]⟩ else if s = 1 then ⟨#[65 + n]⟩ else ⟨(List.replicate (n + 1) 81).toArray⟩
def nameB (z : Str) : Bool := decide (1 ≤ z.length) && (decide (z.length ≤ 10) && (decide (z ≠ "fun") && (decide (z ≠ "kind") && (decide (z ≠ "number") && ((match z.cps[0]? with | some c => !digC c | none => false) && z.cps.toList.all (fun c => lowC c || highC c || digC c))))))
theorem nameB_ok {z : Str} (h : nameB z = true) : NameOk z := by
  unfold nameB at h
  simp only [Bool.and_eq_true, decide_eq_true_eq] at h
  obtain ⟨h1, h2, h3, h4, h5, h6, h7⟩ := h
  refine ⟨⟨h1, h2⟩, ⟨h3, h4, h5⟩, ?_, fun c hc => List.all_eq_true.mp h7 c hc⟩
  split at h6
  · next c e => exact ⟨c, e, by simpa using h6⟩
  · simp at h6
def highB (z : Str) : Bool := nameB z && (match z.cps[0]? with | some c => highC c | none => false)
theorem highB_ok {z : Str} (h : highB z = true) : High z := by
  unfold highB at h
  rw [Bool.and_eq_true] at h
  refine ⟨nameB_ok h.1, ?_⟩
  have h2 := h.2
  split at h2
  · next c e => exact ⟨c, e, h2⟩
  · simp at h2
theorem titles_high : ∀ s < 3, ∀ n < 9, highB (titleS s n) = true := by decide +kernel
theorem titles_inj : ∀ s < 3, ∀ n < 9, ∀ m < 9, titleS s n = titleS s m → n = m := by decide +kernel
theorem titles_nd : ∀ s < 3, ∀ i < 3, ∀ t < 4, ((List.range t).map fun m => titleS s (3 * i + m)).Nodup := by decide +kernel
theorem names_high : ∀ d < 4, ∀ z ∈ namesS d, highB z = true := by decide +kernel
theorem names_nd : ∀ d < 4, (namesS d).Nodup := by decide +kernel
theorem names_len : ∀ d < 4, (namesS d).length = 3 := by decide +kernel
theorem names_num : ∀ d < 4, ("number" : Str) ∉ namesS d := by decide +kernel
theorem title0 : ∀ n < 9, ("M" : Str) ++ (toString ((n : Nat) : Int) : Str) = titleS 0 n := by decide +kernel
theorem title1 : ∀ n < 9, atI ("ABCDEFGHI" : Str).cps.toList ((n : Nat) : Int) = some (65 + n) := by decide +kernel
theorem ImAll.app {K : PySem.W.Frag} {H : Hp} : ∀ {xs ys : List V} {ds es : List PyData}, ImAll K H xs ds → ImAll K H ys es → ImAll K H (xs ++ ys) (ds ++ es)
  | [], _, [], _, _, h => h
  | x :: xs, _, d :: ds, _, .cons a r, h => .cons a (ImAll.app r h)
theorem cat_big {K : PySem.W.Frag} {a b : Addr} {xs ys : List V} {H : Hp} {Q : VK} (h : ITup K H a xs) (h2 : ITup K H b ys) (hz : xs.length + ys.length ≤ 8000) (q : ∀ p H', Same H H' → ITup K H' p (xs ++ ys) → Q (.ref p) H') : rCatA K (.ref a) (.ref b) H Q := by
  refine ⟨a, b, xs, ys, rfl, rfl, h.sq, h2.sq, Nat.le_trans hz (by decide), fun e => q b H (Same.refl H) (by rw [e]; exact h2), fun _ e => q a H (Same.refl H) (by rw [e, List.append_nil]; exact h), fun _ _ p hp => q p _ (same_new hp) (.inl upd_same)⟩
structure MkUp (ns : List Str) (most : Nat) (mk : Mk) : Prop where
  few : mk.2.length ≤ most
  fld : ∀ f ∈ mk.2, f = ("number" : Str) ∨ f ∈ ns
structure KsUp (s : Nat) (ns : List Str) (most i : Nat) (ks : List Kd) : Prop where
  len : ks.length = i
  nm : ks.map (·.1) = ns.take i
  mks : ∀ k ∈ ks, 1 ≤ k.2.length ∧ k.2.length ≤ 3
  mkk : ∀ k ∈ ks, ∀ m ∈ k.2, MkUp ns most m
  ttl : ∀ m ∈ allMk ks, ∃ n, n < 3 * i ∧ m.1 = titleS s n
  ndm : ((allMk ks).map (·.1)).Nodup
  leaf : ∀ kd, ks[0]? = some kd → ∃ m ∈ kd.2, ∀ f ∈ m.2, f = ("number" : Str)
theorem KsUp.snoc {s : Nat} {ns : List Str} {most i : Nat} {ks : List Kd} (s3 : s < 3) (i3 : i < 3) (h : KsUp s ns most i ks) {z : Str} (hz : ns[i]? = some z) {mks : List Mk} (t1 : 1 ≤ mks.length) (t3 : mks.length ≤ 3) (hm : ∀ m ∈ mks, MkUp ns most m) (hn : mks.map (·.1) = (List.range mks.length).map fun m => titleS s (3 * i + m)) (hl : i = 0 → ∃ m ∈ mks, ∀ f ∈ m.2, f = ("number" : Str)) : KsUp s ns most (i + 1) (ks ++ [(z, mks)]) := by
  have ea : allMk (ks ++ [(z, mks)]) = allMk ks ++ mks := by
    unfold allMk
    rw [List.flatMap_append, List.flatMap_cons, List.flatMap_nil, List.append_nil]
  have tt : ∀ m ∈ mks, ∃ n, n < 3 ∧ m.1 = titleS s (3 * i + n) := fun m hm => by
    have : m.1 ∈ mks.map (·.1) := List.mem_map.mpr ⟨m, hm, rfl⟩
    rw [hn] at this
    obtain ⟨n, h1, h2⟩ := List.mem_map.mp this
    exact ⟨n, by have := List.mem_range.mp h1; omega, h2.symm⟩
  refine ⟨by rw [List.length_append, h.len]; rfl, ?_, fun k hk => ?_, fun k hk => ?_, fun m hm' => ?_, ?_, fun kd hk => ?_⟩
  · rw [List.map_append, h.nm, List.take_add_one, hz]; rfl
  · rcases List.mem_append.mp hk with hk | hk
    · exact h.mks k hk
    · rw [List.mem_singleton.mp hk]; exact ⟨t1, t3⟩
  · rcases List.mem_append.mp hk with hk | hk
    · exact h.mkk k hk
    · rw [List.mem_singleton.mp hk]; exact hm
  · rw [ea] at hm'
    rcases List.mem_append.mp hm' with hm' | hm'
    · obtain ⟨n, h1, h2⟩ := h.ttl m hm'
      exact ⟨n, by omega, h2⟩
    · obtain ⟨n, h1, h2⟩ := tt m hm'
      exact ⟨3 * i + n, by omega, h2⟩
  · rw [ea, List.map_append, List.nodup_append]
    refine ⟨h.ndm, by rw [hn]; exact titles_nd s s3 i i3 _ (by omega), fun a ha b hb e => ?_⟩
    obtain ⟨m, hm1, rfl⟩ := List.mem_map.mp ha
    obtain ⟨m', hm2, rfl⟩ := List.mem_map.mp hb
    obtain ⟨n, h1, h2⟩ := h.ttl m hm1
    obtain ⟨n', h3, h4⟩ := tt m' hm2
    rw [h2, h4] at e
    have := titles_inj s s3 n (by omega) (3 * i + n') (by omega) e
    omega
  · by_cases i0 : i = 0
    · subst i0
      obtain rfl := List.eq_nil_of_length_eq_zero h.len
      obtain rfl := Option.some.inj hk
      exact hl rfl
    · rw [List.getElem?_append_left (by rw [h.len]; omega)] at hk
      exact h.leaf kd hk
/-- the kinds as they are drawn -/
structure SmallK (most : Nat) (ks : List Kd) : Prop where
  k3 : ks.length ≤ 3
  mks : ∀ k ∈ ks, k.2.length ≤ 3
  fld : ∀ k ∈ ks, ∀ m ∈ k.2, m.2.length ≤ most
  leaf : ∀ kd, ks[0]? = some kd → ∃ m ∈ kd.2, ∀ f ∈ m.2, f = ("number" : Str)
theorem KsUp.ok {s d most n : Nat} {ks : List Kd} (s3 : s < 3) (d4 : d < 4) (m4 : most ≤ 4) (n1 : 1 ≤ n) (n3 : n ≤ 3) (h : KsUp s ((namesS d).take n) most n ks) : KindsOk ks ∧ SmallK most ks := by
  have nl := names_len d d4
  have en : ks.map (·.1) = (namesS d).take n := by rw [h.nm, List.take_take, Nat.min_self]
  refine ⟨⟨by have := h.len; omega, fun k hk => ?_, fun k hk => by have := h.mks k hk; omega, fun k hk m hm => ⟨?_, ?_⟩, ?_, h.ndm, fun k hk m hm f hf => ?_⟩, by have := h.len; omega, fun k hk => (h.mks k hk).2, fun k hk m hm => (h.mkk k hk m hm).few, h.leaf⟩
  · have : k.1 ∈ ks.map (·.1) := List.mem_map.mpr ⟨k, hk, rfl⟩
    rw [en] at this
    exact highB_ok (names_high d d4 _ (List.mem_of_mem_take this))
  · obtain ⟨n', h1, h2⟩ := h.ttl m (List.mem_flatMap.mpr ⟨k, hk, hm⟩)
    rw [h2]
    exact highB_ok (titles_high s s3 n' (by omega))
  · have := (h.mkk k hk m hm).few
    omega
  · rw [en]
    exact (names_nd d d4).sublist (List.take_sublist _ _)
  · rw [en]
    exact (h.mkk k hk m hm).fld f hf
theorem KsUp.nil (s : Nat) (ns : List Str) (most : Nat) : KsUp s ns most 0 [] := ⟨rfl, rfl, fun k hk => by simp at hk, fun k hk => by simp at hk, fun m hm => by simp [allMk] at hm, .nil, fun kd hk => by simp at hk⟩
end K63

set_option Elab.async false
set_option linter.all false
set_option maxRecDepth 100000
/-! sorted of a list of pairs whose first is an int of its own, whose second is any object -/
namespace SrtO
open PySem PySem.W PySem.Calls PyProof.Rows Srt
section
variable {prog : Program} {w : World} {A : Around} {E : Value → Shared → Prop} {s : Shared}
/-- a pair of an int and an object -/
def IsKey (h : Heap) (v : Value) (x : Int) : Prop := ∃ a o t b n, v = .ref a ∧ h.get? a = some o ∧ o.cls = .type "tuple" ∧ o.data = .seq #[.int x t, .ref b] n
theorem IsKey.keeps {h h' : Heap} {v : Value} {x : Int} (p : IsKey h v x) (k : ∀ b o, h.get? b = some o → o.cls = .type "tuple" → h'.get? b = some o) : IsKey h' v x := by
  obtain ⟨a, o, t, u, n, e, ho, hc, hd⟩ := p
  exact ⟨a, o, t, u, n, e, k _ _ ho hc, hc, hd⟩
theorem swo_key {α : Type} (k : α → Int) : Swo fun v u => decide (k v < k u) := by
  refine ⟨fun x y h => ?_, fun x y z h1 h2 => ?_⟩
  · have := of_decide_eq_true h
    exact decide_eq_false (by omega)
  · have h3 := of_decide_eq_false h1
    have h4 := of_decide_eq_false h2
    exact decide_eq_false (by omega)
theorem eqBool_self {a : Addr} {Q : Bool → Shared → Prop} (h : Q true s) : wpAny (model prog w) A (eqBool (.ref a) (.ref a)) Q E s := by
  unfold eqBool
  refine wpAny_holding ?_
  rw [if_pos (show (Value.ref a == Value.ref a) = true from beq_iff_eq.mpr rfl)]
  exact wpAny_bind (wpAny_rule (wpAny_pure h))
theorem key_cmp {vs : List Value} {k : Value → Int} (hp : ∀ v ∈ vs, IsKey s.heap v (k v)) (inj : ∀ v ∈ vs, ∀ u ∈ vs, k v = k u → v = u) : Cmp prog w A s (tuples' true) (fun p => p.1 ∈ vs) (lt2 fun v u => decide (k v < k u)) := by
  intro p q hm hm'
  have h1 := hp _ hm
  have h2 := hp _ hm'
  have hi := inj _ hm _ hm'
  show wpAny (model prog w) A (keyLt' (tuples' true) p.1 q.1) (fun r s' => s' = s ∧ r = decide (k p.1 < k q.1)) (fun _ _ => False) s
  generalize k p.1 = x at h1 hi ⊢
  generalize k q.1 = x' at h2 hi ⊢
  obtain ⟨a, o, t, b, n, e, ho, hc, hd⟩ := h1
  obtain ⟨a', o', t', b', n', e', ho', hc', hd'⟩ := h2
  rw [e, e'] at hi
  rw [e, e']
  refine PySem.W.kat_lt ho hd ho' hd' ?_
  show PySem.W.KatLex prog w A true (decide (2 < 2)) _ [(.int x t, .int x' t'), (.ref b, .ref b')] 0 s
  refine PySem.W.kat_cons (SeqAt.EqAt.int_int x t x' t' prog w _ _ ?_)
  refine PySem.W.kat_go (fun e1 => ?_) (fun e1 => ?_)
  · have ex : x = x' := by simpa using e1
    have ea := hi ex
    have ea' : a = a' := Value.ref.inj ea
    subst ea' ex
    rw [ho] at ho'
    cases ho'
    rw [hd] at hd'
    have eb : b = b' := by
      injection hd' with h3 _
      have h4 : (#[Value.int x t, Value.ref b] : Array Value)[1]? = (#[Value.int x t', Value.ref b'] : Array Value)[1]? := by rw [h3]
      simpa using h4
    subst eb
    refine PySem.W.kat_yes (PySem.W.kat_cons (eqBool_self ?_))
    exact PySem.W.kat_yes (PySem.W.kat_nil ⟨rfl, (decide_eq_false (Int.lt_irrefl _)).symm⟩)
  · exact PySem.W.kat_no (oneLt_int ⟨rfl, rfl⟩)
theorem firsts_key {h : Heap} : ∀ {vs : List Value}, (∀ v ∈ vs, ∃ x, IsKey h v x) → ∃ fs : List Value, PySem.W.KatTups h vs fs ∧ fs.length = vs.length ∧ ∀ f ∈ fs, ∃ x t, f = Value.int x t
  | [], _ => ⟨[], PySem.W.KatTups.nil, rfl, fun _ hm => by simp at hm⟩
  | v :: vs, hp => by
    obtain ⟨fs, h1, h2, h3⟩ := firsts_key (vs := vs) fun v' hm => hp v' (List.mem_cons_of_mem _ hm)
    obtain ⟨x, a, o, t, u, n, e, ho, hc, hd⟩ := hp v (List.mem_cons_self ..)
    subst e
    refine ⟨.int x t :: fs, PySem.W.KatTups.cons ho hc hd rfl h1, by rw [List.length_cons, List.length_cons, h2], fun f hm => ?_⟩
    rcases List.mem_cons.mp hm with rfl | hm
    · exact ⟨x, t, rfl⟩
    · exact h3 f hm
theorem keys_sortable {a : Addr} {vs : List Value} {k : Value → Int} (h0 : 0 < vs.length) (hp : ∀ v ∈ vs, IsKey s.heap v (k v)) (inj : ∀ v ∈ vs, ∀ u ∈ vs, k v = k u → v = u) (ha : ∀ o, s.heap.get? a = some o → o.cls ≠ .type "tuple") : SortableO prog w A s a vs fun v u => decide (k v < k u) := by
  intro h' keep
  have hp' : ∀ v ∈ vs, IsKey h' v (k v) := fun v hm => (hp v hm).keeps fun b o e c => keep b o (fun z => by subst z; exact ha o e c) e
  obtain ⟨fs, h1, h2, h3⟩ := firsts_key fun v hm => ⟨_, hp' v hm⟩
  refine ⟨tuples' true, fun Q E hq => ?_, key_cmp hp' inj⟩
  refine PySem.W.kat_kind (T := .type "int") h1 (by omega) (fun f hm => ?_) (by rfl) ?_
  · obtain ⟨x, t, rfl⟩ := h3 f hm
    exact PySem.W.Looks.now
  · have e : (Value.type "int" != Value.type "tuple") = true := by first | decide +kernel | rfl | decide
    rw [e]
    exact hq
theorem sorted_keys {l : Addr} {vs : List Value} {k : Value → Int} {Q : Value → Shared → Prop} (hl : s.heap.IsList l vs.toArray) (hz : vs.length ≤ sizeLine) (hp : ∀ v ∈ vs, IsKey s.heap v (k v)) (inj : ∀ v ∈ vs, ∀ u ∈ vs, k v = k u → v = u)
    (h : ∀ (h' : Heap) (d : Addr) (out : List Value), Srtd (fun v u => decide (k v < k u)) out → Stb (fun v u => decide (k v < k u)) out vs → (∀ b o, s.heap.get? b = some o → h'.get? b = some o) → s.heap.objs.size ≤ d → (∃ n, h'.get? d = some (seqObj "list" out.toArray n)) → Q (.ref d) { s with heap := h' }) :
    wpAny (model prog w) A (call (.builtin "sorted") [.ref l]) Q E s := by
  refine sorted_ord (swo_key k) hl hz (fun h2 h₁ a ha kk => ?_) fun out hs hb => ?_
  · refine keys_sortable (s := { s with heap := h₁ }) (by omega) (fun v hm => (hp v hm).keeps fun b o e _ => (kk b o e).2) inj fun o e => ?_
    have e' : some o = some (seqObj "list" vs.toArray 0) := e.symm.trans ha
    cases e'
    intro c
    exact absurd (Value.type.inj c) (by decide)
  · exact h _ _ out hs hb (fun b o e => sortedAll_old e) (Nat.le_succ _) (sortedAll_at s.heap vs out.toArray)
end
end SrtO
namespace Ly
open PySem PySem.Spec PyProof.Rows L2
/-- sorted(xs), xs pairs of an int of its own and an object: a new list by the ints -/
def rSortedK (K : PySem.W.Frag) : List V → Hp → VK → Prop := fun vs H Q => ∃ (a : Addr) (xs : List V) (k : V → Int), vs = [V.ref a] ∧ SqL K H a xs ∧ (∀ x ∈ xs, ∃ t b, x = V.ref t ∧ H t = some (.tup [.int (k x), .ref b])) ∧ (∀ x ∈ xs, ∀ y ∈ xs, k x = k y → x = y) ∧
  ∀ ys p, ys.Pairwise (fun x y => k x ≤ k y) → ys.Perm xs → H p = none → Q (.ref p) (upd H p (.lst ys))
theorem kcr_sortedK {X : Cx} (K : PySem.W.Frag) (eK : X.K = K := by rfl) : CallR X (.builtin "sorted") (rSortedK K) := by
  subst eK
  intro pins s σ H vs us Q I r h
  obtain ⟨a, xs, k, rfl, hs, hx, inj, q⟩ := h
  obtain ⟨its, rv, hl, hz⟩ := I.list hs
  obtain ⟨u, rfl, ru⟩ := vals1 r
  obtain rfl : u = Value.ref a := ru
  obtain ⟨e1, e2⟩ := refs_back rv fun x m => by
    obtain ⟨t, b, e, _⟩ := hx x m
    exact ⟨t, e⟩
  refine SrtO.sorted_keys (k := fun u => k (backV u)) hl.isList (by rw [← rv.length]; exact hz) (fun v hv => ?_) (fun v hv u hu e => ?_) fun h' d out h1 h2 kp hd hn => ?_
  · obtain ⟨t, rfl⟩ := e2 v hv
    have hm : V.ref t ∈ xs := by rw [e1]; exact List.mem_map.mpr ⟨_, hv, rfl⟩
    obtain ⟨t', b, e, ht⟩ := hx _ hm
    cases e
    obtain ⟨_, its2, r2, o, ho, hc, n, hd⟩ := I.hok _ _ ht
    obtain ⟨u1, u2, rfl, ri, rj⟩ := vals2 r2
    obtain ⟨t1, rfl⟩ := ri
    obtain rfl : u2 = Value.ref b := rj
    exact ⟨t, o, t1, b, n, rfl, ho, hc, hd⟩
  · obtain ⟨t, rfl⟩ := e2 v hv
    obtain ⟨t', rfl⟩ := e2 u hu
    have hm : V.ref t ∈ xs := by rw [e1]; exact List.mem_map.mpr ⟨_, hv, rfl⟩
    have hm' : V.ref t' ∈ xs := by rw [e1]; exact List.mem_map.mpr ⟨_, hu, rfl⟩
    have := inj _ hm _ hm' e
    cases this
    rfl
  · have h3 : ∀ u ∈ out, ∃ a, u = Value.ref a := fun u hu => e2 u (h2.perm.mem_iff.mp hu)
    obtain ⟨n, hn⟩ := hn
    have hb : (out.map backV).Perm xs := by
      rw [e1]
      exact h2.perm.map backV
    refine ⟨.ref d, upd H d (.lst (out.map backV)), I.laid (t' := s.toks) kp hd ⟨?_, out, n, vals_back h3, hn⟩, rfl, q _ d ?_ hb (I.hok.fresh hd)⟩
    · rw [hb.length_eq]
      exact hz
    · rw [List.pairwise_map]
      refine List.Pairwise.imp (fun {x y} h => ?_) h1
      have := of_decide_eq_false h
      omega
section
variable {X : Cx} {k : Nat} {C : Addr} {m : Str} {ps : List Str} {sp : Sp} {apos pos : Pos} {o : Expr} {to : TE}
theorem pe_met0 {pl : Sem Bool} (O : Met X.prog X.w X.K X.mg X.base k C m ps sp) (c : Cls X.K C) (hr : Room k X.A) (ho : PE X o to)
    (ht : eval (.Call (.Attribute o m apos) [] [] pos) X.env = (do
      let ov ← eval o X.env
      standAt apos.atName
      let (f, first) ← holding [ov] (getMethod ov m pl)
      callWith pos f first (backTo pos (starEach [] X.env)) (backToKw pos (keywordEach [] X.env))) := by rfl) : PE X (.Call (.Attribute o m apos) [] [] pos) (tMeth C m sp [] E0 to tNil) := by
  obtain ⟨f, fd, F, M, hb⟩ := O.ex
  exact pe_meth0 ho c M F hr hb .nil pass0 ht
end
theorem ksl_list {X : Cx} (K : PySem.W.Frag) (e : X.K = K := by rfl) : SlR X (rSlL K) := by subst e; exact sl_list
end Ly

set_option Elab.async false
set_option linter.all false
set_option maxRecDepth 100000
set_option exponentiation.threshold 20000
set_option pp.deepTerms false
set_option pp.deepTerms.threshold 8
namespace K63
open PySem PySem.Spec PyProof.Rows L2 Ly Mt
def numS : List Str := ["number"]
theorem numS_len : numS.length = 1 := rfl
section
variable {P : Program} {w : World} {K : PySem.W.Frag} {mg : Str → Option Value} {base : Heap}
abbrev s__law_kinds : Stmt := topS 62
theorem sc__law_kinds : FnScope ["store", "most", "many", "style", "dress", "names", "kinds", "k", "count", "leaf", "makers", "m", "fields", "turn", "title", "field"] ["store", "most"] (defScope s__law_kinds) := ⟨rfl, rfl, rfl, by decide +kernel, rfl, by decide +kernel, by decide +kernel⟩
def sp_kinds (K : PySem.W.Frag) : Sp := fun vs H Q _ => ∃ (c : Addr) (most : Nat), vs = [.ref c, .int (most : Nat)] ∧ most ≤ 4 ∧ Sto H c ∧ ∀ p ks H', Sto H' c → But c H H' → KindsOk ks → SmallK most ks → Im K H' (.ref p) (ksD ks) → Q (.ref p) H'
set_option maxHeartbeats 2000000 in
theorem ok__law_kinds {f : Addr} {fd : FuncData} {k : Nat} (F : Fun K "_law_kinds" "_law_kinds" s__law_kinds f fd) (T : Tx K mg){k1 : Nat} (D__law_pick : Def P w K mg base k1 "_law_pick" s__law_pick ["store", "many"] sp_pick) (e1 : k1 ≤ k) : FnOk P w K mg base CX0 (k + 1) f fd ["store", "most"] (sp_kinds K) := by
  have nd := sc__law_kinds.nd
  refine F.ok sc__law_kinds (fun vs H Q E h => ?_) (fun cdv A outer s H vs Q E hr h => ?_)
  · obtain ⟨_, _, rfl, _⟩ := h
    rfl
  · obtain ⟨c, most, rfl, m4, u, q⟩ := h
    refine ⟨_, (pss_cons (ps_par3 (i := 2) (j := 3) (l := 4) (by rfl) nd rfl rfl rfl (by decide) (by decide) (by decide) rfl rfl rfl (pa_cons (pe_op op_add pe_int (pe_def D__law_pick (hr.mono (by omega)) rfl (pa_cons (pv 0) (pa_cons pe_int pa_nil)))) (pa_cons (pe_def D__law_pick (hr.mono (by omega)) rfl (pa_cons (pv 0) (pa_cons pe_int pa_nil))) (pa_cons (pe_def D__law_pick (hr.mono (by omega)) rfl (pa_cons (pv 0) (pa_cons pe_int pa_nil))) pa_nil))) (by rfl))
      (pss_cons (ps_set (i := 5) nd rfl (.inl rfl) (pe_slice sl_list (pe_ix (kix_list K) (pe_lst (pa_cons (pe_lst (pa_cons pe_str (pa_cons pe_str (pa_cons pe_str pa_nil)))) (pa_cons (pe_lst (pa_cons pe_str (pa_cons pe_str (pa_cons pe_str pa_nil)))) (pa_cons (pe_lst (pa_cons pe_str (pa_cons pe_str (pa_cons pe_str pa_nil)))) (pa_cons (pe_lst (pa_cons pe_str (pa_cons pe_str (pa_cons pe_str pa_nil)))) pa_nil))))) (pv 4) (fun _ _ => rfl)) po_none (po_some (pv 2))))
      (pss_cons (ps_set (i := 6) nd rfl (.inl rfl) (pe_tup pa_nil))
      (pss_cons (ps_for PassesOwn.never rfl (pi_range1 rfl T.m_range (pa_cons (pv 2) pa_nil)) (pg_name (i := 7) nd rfl (.inl rfl))
        (pss_cons (ps_set (i := 8) nd rfl (.inl rfl) (pe_op op_add pe_int (pe_def D__law_pick (hr.mono (by omega)) rfl (pa_cons (pv 0) (pa_cons pe_int pa_nil)))))
        (pss_cons (ps_set (i := 9) nd rfl (.inl rfl) (pe_def D__law_pick (hr.mono (by omega)) rfl (pa_cons (pv 0) (pa_cons (pv 8) pa_nil))))
        (pss_cons (ps_set (i := 10) nd rfl (.inl rfl) (pe_tup pa_nil))
        (pss_cons (ps_for PassesOwn.never rfl (pi_range1 rfl T.m_range (pa_cons (pv 8) pa_nil)) (pg_name (i := 11) nd rfl (.inl rfl))
          (pss_cons (ps_set (i := 12) nd rfl (.inl rfl) (pe_tup pa_nil))
          (pss_cons (ps_for PassesOwn.never rfl (pi_range1 rfl T.m_range (pa_cons (pe_def D__law_pick (hr.mono (by omega)) rfl (pa_cons (pv 0) (pa_cons (pe_op op_add (pv 1) pe_int) pa_nil))) pa_nil)) (pg_name (i := 13) nd rfl (.inl rfl))
            (pss_one (ps_set (i := 12) nd rfl (.inl rfl) (pe_op (kop_catA K) (pv 12) (pe_tup (pa_cons (pe_ix (kix_list K) (pe_op op_cat (pe_op op_cat (pe_lst (pa_cons pe_str pa_nil)) (pv 5)) (pv 5)) (pe_def D__law_pick (hr.mono (by omega)) rfl (pa_cons (pv 0) (pa_cons (pe_op op_add pe_int (pe_op op_mul pe_int (pv 2))) pa_nil))) (fun _ _ => rfl)) pa_nil))))))
          (C8.pss_cut (ps_if (PW.pt (pw_and (pt_cmpR op_eq (pv 11) (pv 9) (nomark _)) (pw_and1 (PW.pt (pw_or (pt_cmpR op_eq (pv 7) pe_int (nomark _)) (pw_or1 (pt_cmpR op_gt (pe_def D__law_pick (hr.mono (by omega)) rfl (pa_cons (pv 0) (pa_cons pe_int pa_nil))) pe_int (nomark _))))))))
            (pss_one (ps_set (i := 12) nd rfl (.inl rfl) (pe_callTy (kcall_tuple K) (by rfl) T.m_tuple (by decide +kernel) (pa_cons (pe_lc (own := [("field", 15)]) (g := gName 15) rfl nd (kpi_tup K (pv 12)) (blkOk_by (by rfl)) (fun _ _ _ _ _ => (pg_name (i := 15) nd rfl (.inl rfl))) (fun _ _ _ _ _ => (pts_one (pt_cmpR op_eq (pv 15) pe_str (nomark _)))) (fun _ _ _ _ _ => (pv 15))) pa_nil))))
            pss_nil)
          (pss_cons (ps_set (i := 14) nd rfl (.inl rfl) (pe_ix (kix_list K) (pe_lst (pa_cons (pe_op op_add_str pe_str (pe_callTy call_str_int (by rfl) T.m_str (by decide +kernel) (pa_cons (pe_op op_add (pe_op op_mul pe_int (pv 7)) (pv 11)) pa_nil))) (pa_cons (pe_ix ix_str pe_str (pe_op op_add (pe_op op_mul pe_int (pv 7)) (pv 11)) (fun _ _ => rfl)) (pa_cons (pe_op op_mulS pe_str (pe_op op_add (pe_op op_add (pe_op op_mul pe_int (pv 7)) (pv 11)) pe_int)) pa_nil)))) (pv 3) (fun _ _ => rfl)))
          (pss_one (ps_set (i := 10) nd rfl (.inl rfl) (pe_op (kop_catA K) (pv 10) (pe_tup (pa_cons (pe_tup (pa_cons (pv 14) (pa_cons (pv 12) pa_nil))) pa_nil))))))))))
        (pss_one (ps_set (i := 6) nd rfl (.inl rfl) (pe_op (kop_catA K) (pv 6) (pe_tup (pa_cons (pe_tup (pa_cons (pe_ix (kix_list K) (pv 5) (pv 7) (fun _ _ => rfl)) (pa_cons (pv 10) pa_nil))) pa_nil))))))))))
      (pss_one (ps_ret (pv 6))))))), ?_⟩
    refine ⟨.ref c, rfl, c, 3, rfl, u, by decide, fun n0 H1 n03 u1 b1 => ⟨_, _, rfl, rfl, .ref c, rfl, c, 3, rfl, u1, by decide, fun st H2 st3 u2 b2 => ⟨.ref c, rfl, c, 4, rfl, u2, by decide, fun d H3 d4 u3 b3 => ⟨.int ((1 + n0 : Nat) : Int), .int (st : Nat), .int (d : Nat), congrArg (fun z => [V.int z, .int (st : Nat), .int (d : Nat)]) (show (1 : Int) + n0 = ((1 + n0 : Nat) : Int) by omega), ?_⟩⟩⟩⟩
    obtain ⟨n, hn⟩ : ∃ n, 1 + n0 = n := ⟨_, rfl⟩
    rw [hn]
    have n1 : 1 ≤ n := by omega
    have n3 : n ≤ 3 := by omega
    have st3' : st < 3 := by omega
    have d4' : d < 4 := by omega
    have B3 : But c H H3 := (b1.trans b2).trans b3
    refine ⟨by show 3 ≤ sizeLine; decide, fun L1 hL1 => ⟨by show 3 ≤ sizeLine; decide, fun L2 hL2 => ⟨by show 3 ≤ sizeLine; decide, fun L3 hL3 => ⟨by show 3 ≤ sizeLine; decide, fun L4 hL4 => ⟨by show 4 ≤ sizeLine; decide, fun L5 hL5 => ?_⟩⟩⟩⟩⟩
    have sA := same_new (o := .lst [V.str "A", .str "B", .str "C"]) hL1
    have sB := same_new (o := .lst [V.str "Tree", .str "Forest", .str "T"]) hL2
    have sC := same_new (o := .lst [V.str "K", .str "KK", .str "KKK"]) hL3
    have sD := same_new (o := .lst [V.str "X1z", .str "X2z", .str "X3z"]) hL4
    have sE := same_new (o := .lst [V.ref L1, .ref L2, .ref L3, .ref L4]) hL5
    have s5 : Same H3 _ := (((sA.trans sB).trans sC).trans sD).trans sE
    have e1 := sE _ _ (sD _ _ (sC _ _ (sB _ _ (show (upd H3 L1 (.lst [V.str "A", .str "B", .str "C"])) L1 = some (.lst ((namesS 0).map V.str)) from upd_same))))
    have e2 := sE _ _ (sD _ _ (sC _ _ (show (upd (upd H3 L1 (.lst [V.str "A", .str "B", .str "C"])) L2 (.lst [V.str "Tree", .str "Forest", .str "T"])) L2 = some (.lst ((namesS 1).map V.str)) from upd_same)))
    have e3 := sE _ _ (sD _ _ (show (upd (upd (upd H3 L1 (.lst [V.str "A", .str "B", .str "C"])) L2 (.lst [V.str "Tree", .str "Forest", .str "T"])) L3 (.lst [V.str "K", .str "KK", .str "KKK"])) L3 = some (.lst ((namesS 2).map V.str)) from upd_same))
    have e4 := sE _ _ (show (upd (upd (upd (upd H3 L1 (.lst [V.str "A", .str "B", .str "C"])) L2 (.lst [V.str "Tree", .str "Forest", .str "T"])) L3 (.lst [V.str "K", .str "KK", .str "KKK"])) L4 (.lst [V.str "X1z", .str "X2z", .str "X3z"])) L4 = some (.lst ((namesS 3).map V.str)) from upd_same)
    have e5 : (upd (upd (upd (upd (upd H3 L1 (.lst [V.str "A", .str "B", .str "C"])) L2 (.lst [V.str "Tree", .str "Forest", .str "T"])) L3 (.lst [V.str "K", .str "KK", .str "KKK"])) L4 (.lst [V.str "X1z", .str "X2z", .str "X3z"])) L5 (.lst [V.ref L1, .ref L2, .ref L3, .ref L4])) L5 = some (.lst [V.ref L1, .ref L2, .ref L3, .ref L4]) := upd_same
    clear sA sB sC sD sE hL1 hL2 hL3 hL4 hL5
    generalize upd (upd (upd (upd (upd H3 L1 (.lst [V.str "A", .str "B", .str "C"])) L2 (.lst [V.str "Tree", .str "Forest", .str "T"])) L3 (.lst [V.str "K", .str "KK", .str "KKK"])) L4 (.lst [V.str "X1z", .str "X2z", .str "X3z"])) L5 (.lst [V.ref L1, .ref L2, .ref L3, .ref L4]) = H4 at *
    obtain ⟨Ld, gs, eLd⟩ : ∃ Ld, atI [V.ref L1, .ref L2, .ref L3, .ref L4] (d : Nat) = some (.ref Ld) ∧ H4 Ld = some (.lst ((namesS d).map V.str)) := by
      have : d = 0 ∨ d = 1 ∨ d = 2 ∨ d = 3 := by omega
      rcases this with rfl | rfl | rfl | rfl
      · exact ⟨L1, rfl, e1⟩
      · exact ⟨L2, rfl, e2⟩
      · exact ⟨L3, rfl, e3⟩
      · exact ⟨L4, rfl, e4⟩
    have nl := names_len d d4'
    refine ⟨.int (d : Nat), rfl, L5, _, _, _, rfl, rfl, .of e5, gs, .int (n : Nat), rfl, _, rfl, Ld, _, rfl, .of eLd, fun N hN => ?_⟩
    rw [cut_take (by rw [List.length_map, nl]; omega), ← List.map_take]
    generalize hns : (namesS d).take n = ns
    have lns : ns.length = n := by rw [← hns, List.length_take, nl]; omega
    have sN := same_new (o := .lst (ns.map V.str)) hN
    refine ⟨by show 0 ≤ sizeLine; decide, fun T0 hT0 => ?_⟩
    have sT := same_new (o := .tup []) hT0
    have u4 := ((u3.same s5).same sN).same sT
    have B4 : But c H _ := B3.trans (but_same ((s5.trans sN).trans sT))
    have eN := sT _ _ (show (upd H4 N (.lst (ns.map V.str))) N = some (.lst (ns.map V.str)) from upd_same)
    have nN : N ≠ c := (u3.same s5).ne hN
    have iT : Im K (upd (upd H4 N (.lst (ns.map V.str))) T0 (.tup [])) (.ref T0) (ksD []) := .tup (.inl upd_same) .nil
    generalize upd (upd H4 N (.lst (ns.map V.str))) T0 (.tup []) = H5 at *
    clear e1 e2 e3 e4 e5 hN hT0 sN sT
    refine ⟨.int (n : Nat), rfl, (n : Nat), rfl, by omega, by omega, ?_⟩
    refine for_it (walk_range (lo := 0) (n := (n : Int).toNat)) (fun i σ Ha => ∃ (y7 y8 y9 y10 y11 y12 y13 y14 : Option V) (T : Addr) (ks : List Kd), σ = [some (.ref c), some (.int (most : Nat)), some (.int (n : Nat)), some (.int (st : Nat)), some (.int (d : Nat)), some (.ref N), some (.ref T), y7, y8, y9, y10, y11, y12, y13, y14, none] ∧ Sto Ha c ∧ But c H5 Ha ∧ Im K Ha (.ref T) (ksD ks) ∧ KsUp st ns most i ks) ⟨_, _, _, _, _, _, _, _, T0, [], rfl, u4, .refl _ _, iT, .nil _ _ _⟩ (fun _ _ _ _ _ => trivial) ?_ ?_
    · rintro i x σ Ha Hb hi ⟨y7, y8, y9, y10, y11, y12, y13, y14, T, ks, rfl, ua, ba, im, up⟩ ⟨rfl, rfl⟩
      rw [Int.toNat_natCast] at hi
      show gName 7 (V.int ((0 : Int) + (i : Nat))) _ _ _
      rw [show (0 : Int) + (i : Nat) = (i : Nat) by omega]
      refine ⟨.ref c, rfl, c, 3, rfl, ua, by decide, fun m0 H6 m03 u6 b6 => ⟨_, _, rfl, rfl, ?_⟩⟩
      show gName 8 (V.int ((1 : Int) + (m0 : Nat))) _ _ _
      rw [show (1 : Int) + (m0 : Nat) = ((1 + m0 : Nat) : Int) by omega]
      obtain ⟨cn, hcn⟩ : ∃ cn, 1 + m0 = cn := ⟨_, rfl⟩
      rw [hcn]
      refine ⟨.ref c, rfl, .int (cn : Nat), rfl, c, (cn : Nat), rfl, u6, by omega, fun lf H7 lf3 u7 b7 => ?_⟩
      refine ⟨by show 0 ≤ sizeLine; decide, fun M0 hM0 => ?_⟩
      have sM := same_new (o := .tup []) hM0
      have u8 := u7.same sM
      have b8 := (b6.trans b7).trans (but_same sM)
      have iM : Im K (upd H7 M0 (.tup [])) (.ref M0) (.tuple (([] : List Mk).map mkD)) := .tup (.inl upd_same) .nil
      generalize upd H7 M0 (.tup []) = H8 at *
      refine ⟨.int (cn : Nat), rfl, (cn : Nat), rfl, by omega, by omega, ?_⟩
      refine for_it (walk_range (lo := 0) (n := (cn : Int).toNat)) (fun t σ Hc => ∃ (y11 y12 y13 y14 : Option V) (M : Addr) (mks : List Mk), σ = [some (.ref c), some (.int (most : Nat)), some (.int (n : Nat)), some (.int (st : Nat)), some (.int (d : Nat)), some (.ref N), some (.ref T), some (.int (i : Nat)), some (.int (cn : Nat)), some (.int (lf : Nat)), some (.ref M), y11, y12, y13, y14, none] ∧ Sto Hc c ∧ But c Hb Hc ∧ Im K Hc (.ref M) (.tuple (mks.map mkD)) ∧ mks.map (·.1) = ((List.range t).map fun m => titleS st (3 * i + m)) ∧ (∀ m ∈ mks, MkUp ns most m) ∧ (i = 0 → lf < t → ∃ m ∈ mks, ∀ f ∈ m.2, f = ("number" : Str))) ⟨_, _, _, _, M0, [], rfl, u8, b8, iM, rfl, fun m hm => by simp at hm, fun _ h => by omega⟩ (fun _ _ _ _ _ => trivial) ?_ ?_
      · rintro t x σ Hc Hd ht ⟨y11, y12, y13, y14, M, mks, rfl, uc, bc, imM, nmM, upM, lfM⟩ ⟨rfl, rfl⟩
        rw [Int.toNat_natCast] at ht
        show gName 11 (V.int ((0 : Int) + (t : Nat))) _ _ _
        rw [show (0 : Int) + (t : Nat) = (t : Nat) by omega]
        have lM : mks.length = t := by
          have := congrArg List.length nmM
          rwa [List.length_map, List.length_map, List.length_range] at this
        refine ⟨by show 0 ≤ sizeLine; decide, fun F0 hF0 => ?_⟩
        have sF := same_new (o := .tup []) hF0
        have u9 := uc.same sF
        have iF : Im K (upd Hd F0 (.tup [])) (.ref F0) (sD []) := .tup (.inl upd_same) .nil
        generalize upd Hd F0 (.tup []) = H9 at *
        refine ⟨.ref c, rfl, .int (most : Nat), rfl, _, _, rfl, rfl, c, ((most + 1 : Nat) : Int), rfl, u9, by omega, fun ft H10 ft3 u10 b10 => ⟨(ft : Nat), rfl, by omega, by omega, ?_⟩⟩
        have b10' : But c Hd H10 := (but_same sF).trans b10
        refine for_it (walk_range (lo := 0) (n := (ft : Int).toNat)) (fun s σ He => ∃ (y13 : Option V) (F : Addr) (fs : List Str), σ = [some (.ref c), some (.int (most : Nat)), some (.int (n : Nat)), some (.int (st : Nat)), some (.int (d : Nat)), some (.ref N), some (.ref T), some (.int (i : Nat)), some (.int (cn : Nat)), some (.int (lf : Nat)), some (.ref M), some (.int (t : Nat)), some (.ref F), y13, y14, none] ∧ Sto He c ∧ But c Hd He ∧ Im K He (.ref F) (sD fs) ∧ fs.length = s ∧ ∀ f ∈ fs, f = ("number" : Str) ∨ f ∈ ns) ⟨_, F0, [], rfl, u10, b10', Im.mono (b10.tk u9) _ iF, rfl, fun f hf => by simp at hf⟩ (fun _ _ _ _ _ => trivial) ?_ ?_
        · rintro s x σ He Hf hs ⟨y13, F, fs, rfl, ue, be, imF, lF, hfs⟩ ⟨rfl, rfl⟩
          show gName 13 (V.int ((0 : Int) + (s : Nat))) _ _ _
          have eNf : Hf N = some (.lst (ns.map V.str)) := be _ _ nN (bc _ _ nN (ba _ _ nN eN))
          refine ⟨.ref F, rfl, by show 1 ≤ sizeLine; decide, fun A1 hA1 => ?_⟩
          have s1 := same_new (o := .lst [V.str "number"]) hA1
          have eA1 : (upd Hf A1 (.lst [V.str "number"])) A1 = some (.lst (numS.map V.str)) := upd_same
          have eN1 := s1 _ _ eNf
          generalize upd Hf A1 (.lst [V.str "number"]) = G1 at *
          refine ⟨.ref N, rfl, A1, N, numS.map V.str, ns.map V.str, rfl, rfl, eA1, eN1, Nat.le_trans (show (List.map V.str numS).length + (List.map V.str ns).length ≤ 1000 by simp only [List.length_map, numS_len]; omega) (by decide), fun A2 hA2 => ?_⟩
          rw [← List.map_append]
          have s2 := same_new (o := .lst ((numS ++ ns).map V.str)) hA2
          have eA2 : (upd G1 A2 (.lst ((numS ++ ns).map V.str))) A2 = some (.lst ((numS ++ ns).map V.str)) := upd_same
          have eN2 := s2 _ _ eN1
          generalize upd G1 A2 (.lst ((numS ++ ns).map V.str)) = G2 at *
          refine ⟨.ref N, rfl, A2, N, (numS ++ ns).map V.str, ns.map V.str, rfl, rfl, eA2, eN2, Nat.le_trans (show (List.map V.str (numS ++ ns)).length + (List.map V.str ns).length ≤ 1000 by simp only [List.length_map, List.length_append, numS_len]; omega) (by decide), fun A3 hA3 => ?_⟩
          rw [← List.map_append]
          have s3 := same_new (o := .lst ((numS ++ ns ++ ns).map V.str)) hA3
          have eA3 : (upd G2 A3 (.lst ((numS ++ ns ++ ns).map V.str))) A3 = some (.lst ((numS ++ ns ++ ns).map V.str)) := upd_same
          have s123 := (s1.trans s2).trans s3
          have ug := ue.same s123
          have nA3 : A3 ≠ c := (ue.same (s1.trans s2)).ne hA3
          generalize upd G2 A3 (.lst ((numS ++ ns ++ ns).map V.str)) = G3 at *
          refine ⟨.ref c, rfl, .int (n : Nat), rfl, _, _, rfl, rfl, .inr ⟨by omega, by omega⟩, _, _, rfl, rfl, c, ((1 + 2 * n : Nat) : Int), rfl, ug, by omega, fun pk G4 pk3 ug4 bg4 => ?_⟩
          have pl : pk < (numS ++ ns ++ ns).length := by simp only [List.length_append, numS_len]; omega
          have eA3' := bg4 _ _ nA3 eA3
          have hz : (numS ++ ns ++ ns)[pk]? = some (numS ++ ns ++ ns)[pk] := List.getElem?_eq_getElem pl
          have hzm := List.getElem_mem pl
          generalize (numS ++ ns ++ ns)[pk] = z at hz hzm
          refine ⟨A3, _, _, .str z, rfl, rfl, .of eA3', atI_nat (by rw [List.getElem?_map, hz]; rfl), by show 1 ≤ sizeLine; decide, fun T2 hT2 => ?_⟩
          have sT2 := same_new (o := .tup [V.str z]) hT2
          obtain ⟨pF, fx, epF, hpF, hfx⟩ := imF.tuple_inv
          cases epF
          have lfx : fx.length = fs.length := by rw [all_len hfx]
          have tg := ((tk_same s123).trans (bg4.tk ug)).trans (tk_same sT2)
          refine cat_any (hpF.mono tg) (.inl upd_same) (by rw [List.length_singleton]; omega) fun p H11 s11 ip => ?_
          have ug11 := (ug4.same sT2).same s11
          refine ⟨_, p, fs ++ [z], rfl, ug11, ((be.trans (but_same s123)).trans bg4).trans (but_same (sT2.trans s11)), .tup ip ?_, by rw [List.length_append, lF]; rfl, fun f hf => ?_⟩
          · rw [List.map_append]
            exact ImAll.app (ImAll.mono (tg.trans (tk_same s11)) _ hfx) (.cons (.str z) .nil)
          · rcases List.mem_append.mp hf with hf | hf
            · exact hfs f hf
            · rw [List.mem_singleton.mp hf]
              simp only [numS, List.mem_append, List.mem_singleton] at hzm
              rcases hzm with (h | h) | h
              · exact .inl h
              · exact .inr h
              · exact .inr h
        · rintro σ He ⟨y13, F, fs, rfl, ue, be, imF, lF, hfs⟩
          rw [Int.toNat_natCast] at lF
          refine ⟨fun σ' He' => ∃ (F' : Addr) (fs' : List Str), σ' = [some (.ref c), some (.int (most : Nat)), some (.int (n : Nat)), some (.int (st : Nat)), some (.int (d : Nat)), some (.ref N), some (.ref T), some (.int (i : Nat)), some (.int (cn : Nat)), some (.int (lf : Nat)), some (.ref M), some (.int (t : Nat)), some (.ref F'), y13, y14, none] ∧ Sto He' c ∧ But c Hd He' ∧ Im K He' (.ref F') (sD fs') ∧ fs'.length ≤ most ∧ (∀ f ∈ fs', f = ("number" : Str) ∨ f ∈ ns) ∧ (i = 0 → t = lf → ∀ f ∈ fs', f = ("number" : Str)), ?_, ?_⟩
          · refine ⟨.int (t : Nat), rfl, .int (lf : Nat), rfl, rfl, _, rfl, ?_⟩
            by_cases e1 : V.int (t : Nat) = V.int (lf : Nat)
            · rw [decide_eq_true e1]
              have etl : t = lf := by have := V.int.inj e1; omega
              refine iteT ⟨.int (i : Nat), rfl, rfl, _, rfl, ?_⟩
              by_cases e2 : V.int (i : Nat) = V.int 0
              · rw [decide_eq_true e2]
                refine iteT (iteT ?_)
                obtain ⟨pF, fx, epF, hpF, hfx⟩ := imF.tuple_inv
                cases epF
                obtain rfl := im_strs hfx
                refine ⟨.ref F, rfl, F, rfl, ⟨_, hpF.sq⟩, fun D hD => ?_⟩
                refine lc_it (walk_tup (xs := fs.map V.str)) (fun j Hx => Same He Hx ∧ Hx D = some (.lst (((fs.take j).filter (fun f => decide (f = ("number" : Str)))).map V.str))) ⟨same_new hD, upd_same⟩ (fun j Hx _ z => (hpF.mono (tk_same z.1)).sq) (fun j x Hx Hy hj z y => ?_) (fun Hx z => ?_)
                · obtain ⟨sm, eD⟩ := z
                  obtain ⟨rfl, hxj⟩ := y
                  rw [List.getElem?_map] at hxj
                  obtain ⟨f, hf, rfl⟩ := Option.map_eq_some_iff.mp hxj
                  refine ⟨rfl, .str f, rfl, rfl, _, rfl, ?_⟩
                  rw [dec_str]
                  by_cases hn : f = ("number" : Str)
                  · rw [decide_eq_true hn]
                    refine iteT ⟨.str f, rfl, _, eD, small1000 (by rw [List.length_map]; exact Nat.le_trans (List.length_filter_le ..) (by rw [List.length_take]; omega)), fun b o e => ?_, ?_⟩
                    · rw [upd_ne (ne_of_none e hD)]; exact sm _ _ e
                    · rw [upd_same, List.take_add_one, hf, List.filter_append, List.map_append]; simp [hn]
                  · rw [decide_eq_false hn]
                    refine iteF ⟨sm, ?_⟩
                    rw [eD, List.take_add_one, hf, List.filter_append]; simp [hn]
                · obtain ⟨sm, eD⟩ := z
                  rw [List.length_map, List.take_of_length_le (Nat.le_refl _)] at eD
                  refine ⟨D, _, rfl, .inl ⟨.of eD, fun l hl => ?_⟩⟩
                  refine ⟨l, fs.filter (fun f => decide (f = ("number" : Str))), rfl, (ue.same sm).same (same_new hl), (be.trans (but_same sm)).trans (but_same (same_new hl)), .tup (.inl upd_same) (strs_im _), Nat.le_trans (List.length_filter_le ..) (by omega), fun f hf => .inl ?_, fun _ _ f hf => ?_⟩
                  · exact of_decide_eq_true (List.mem_filter.mp hf).2
                  · exact of_decide_eq_true (List.mem_filter.mp hf).2
              · rw [decide_eq_false e2]
                have i0 : i ≠ 0 := fun e => e2 (by rw [e]; rfl)
                refine iteF ⟨.ref c, rfl, c, 6, rfl, ue, by decide, fun w H12 w6 u12 b12 => ⟨_, _, rfl, rfl, _, rfl, ?_⟩⟩
                by_cases hw : ((w : Nat) : Int) > 0
                · rw [decide_eq_true hw]
                  have imF2 := Im.mono (b12.tk ue) _ imF
                  have be2 := be.trans b12
                  refine iteT ?_
                  obtain ⟨pF, fx, epF, hpF, hfx⟩ := imF2.tuple_inv
                  cases epF
                  obtain rfl := im_strs hfx
                  refine ⟨.ref F, rfl, F, rfl, ⟨_, hpF.sq⟩, fun D hD => ?_⟩
                  refine lc_it (walk_tup (xs := fs.map V.str)) (fun j Hx => Same H12 Hx ∧ Hx D = some (.lst (((fs.take j).filter (fun f => decide (f = ("number" : Str)))).map V.str))) ⟨same_new hD, upd_same⟩ (fun j Hx _ z => (hpF.mono (tk_same z.1)).sq) (fun j x Hx Hy hj z y => ?_) (fun Hx z => ?_)
                  · obtain ⟨sm, eD⟩ := z
                    obtain ⟨rfl, hxj⟩ := y
                    rw [List.getElem?_map] at hxj
                    obtain ⟨f, hf, rfl⟩ := Option.map_eq_some_iff.mp hxj
                    refine ⟨rfl, .str f, rfl, rfl, _, rfl, ?_⟩
                    rw [dec_str]
                    by_cases hn : f = ("number" : Str)
                    · rw [decide_eq_true hn]
                      refine iteT ⟨.str f, rfl, _, eD, small1000 (by rw [List.length_map]; exact Nat.le_trans (List.length_filter_le ..) (by rw [List.length_take]; omega)), fun b o e => ?_, ?_⟩
                      · rw [upd_ne (ne_of_none e hD)]; exact sm _ _ e
                      · rw [upd_same, List.take_add_one, hf, List.filter_append, List.map_append]; simp [hn]
                    · rw [decide_eq_false hn]
                      refine iteF ⟨sm, ?_⟩
                      rw [eD, List.take_add_one, hf, List.filter_append]; simp [hn]
                  · obtain ⟨sm, eD⟩ := z
                    rw [List.length_map, List.take_of_length_le (Nat.le_refl _)] at eD
                    refine ⟨D, _, rfl, .inl ⟨.of eD, fun l hl => ?_⟩⟩
                    refine ⟨l, fs.filter (fun f => decide (f = ("number" : Str))), rfl, (u12.same sm).same (same_new hl), (be2.trans (but_same sm)).trans (but_same (same_new hl)), .tup (.inl upd_same) (strs_im _), Nat.le_trans (List.length_filter_le ..) (by omega), fun f hf => .inl ?_, fun _ _ f hf => ?_⟩
                    · exact of_decide_eq_true (List.mem_filter.mp hf).2
                    · exact of_decide_eq_true (List.mem_filter.mp hf).2
                · rw [decide_eq_false hw]
                  exact iteF ⟨F, fs, rfl, u12, be.trans b12, Im.mono (b12.tk ue) _ imF, by omega, hfs, fun e => absurd e i0⟩
            · rw [decide_eq_false e1]
              exact iteF (iteF ⟨F, fs, rfl, ue, be, imF, by omega, hfs, fun _ e => absurd (by rw [e]) e1⟩)
          · rintro σ' He' ⟨F', fs', rfl, ue', be', imF', lF', hfs', nF'⟩
            obtain ⟨v, hv⟩ : ∃ v, 3 * i + t = v := ⟨_, rfl⟩
            have v9 : v < 9 := by omega
            have ev : (3 : Int) * (i : Nat) + (t : Nat) = ((v : Nat) : Int) := by omega
            have log : ((v : Nat) : Int).natAbs.log2 < 1920 := by
              rw [Int.natAbs_natCast]
              refine Nat.lt_of_le_of_lt (Nat.log2_le_self v) (by omega)
            have l0 : (("M" : Str).length + (toString ((v : Nat) : Int) : Str).length) ≤ sizeLine := by
              have := (highB_ok (titles_high 0 (by decide) v v9)).1.len.2
              rw [← title0 v v9] at this
              have e : (("M" : Str) ++ (toString ((v : Nat) : Int) : Str)).length = ("M" : Str).length + (toString ((v : Nat) : Int) : Str).length := Array.size_append
              rw [e] at this
              exact Nat.le_trans this (by decide)
            refine ⟨.int (i : Nat), rfl, _, _, rfl, rfl, .inl ⟨by decide, by decide⟩, .int (t : Nat), rfl, _, _, rfl, rfl, ⟨(v : Nat), congrArg (fun z => [V.int z]) ev, log, _, _, rfl, rfl, l0, ?_⟩⟩
            refine ⟨.int (i : Nat), rfl, _, _, rfl, rfl, .inl ⟨by decide, by decide⟩, .int (t : Nat), rfl, _, _, rfl, rfl, ⟨_, (v : Nat), 65 + v, rfl, congrArg V.int ev, by decide, title1 v v9, ?_⟩⟩
            refine ⟨.int (i : Nat), rfl, _, _, rfl, rfl, .inl ⟨by decide, by decide⟩, .int (t : Nat), rfl, _, _, rfl, rfl, _, _, rfl, rfl, ⟨81, ((v + 1 : Nat) : Int), rfl, congrArg V.int (show (3 : Int) * (i : Nat) + (t : Nat) + 1 = ((v + 1 : Nat) : Int) by omega), by omega, by omega, ?_⟩⟩
            rw [title0 v v9]
            refine ⟨by show 3 ≤ sizeLine; decide, fun A hA => ?_⟩
            have sA := same_new (o := .lst [V.str (titleS 0 v), .str ⟨#[65 + v]⟩, .str ⟨(List.replicate ((v + 1 : Nat) : Int).toNat 81).toArray⟩]) hA
            have gA : atI [V.str (titleS 0 v), .str ⟨#[65 + v]⟩, .str ⟨(List.replicate ((v + 1 : Nat) : Int).toNat 81).toArray⟩] ((st : Nat) : Int) = some (.str (titleS st v)) := by
              have : st = 0 ∨ st = 1 ∨ st = 2 := by omega
              rcases this with h | h | h <;> rw [h] <;> rfl
            refine ⟨.int (st : Nat), rfl, A, _, _, _, rfl, rfl, .of upd_same, gA, ?_⟩
            generalize upd He' A (.lst [V.str (titleS 0 v), .str ⟨#[65 + v]⟩, .str ⟨(List.replicate ((v + 1 : Nat) : Int).toNat 81).toArray⟩]) = H13 at *
            refine ⟨.ref M, rfl, .str (titleS st v), rfl, .ref F', rfl, by show 2 ≤ sizeLine; decide, fun P1 hP1 => ⟨by show 1 ≤ sizeLine; decide, fun P2 hP2 => ?_⟩⟩
            have sP1 := same_new (o := .tup [V.str (titleS st v), .ref F']) hP1
            have sP2 := same_new (o := .tup [V.ref P1]) hP2
            have iP1 : Im K (upd H13 P1 (.tup [V.str (titleS st v), .ref F'])) (.ref P1) (mkD (titleS st v, fs')) := .tup (.inl upd_same) (.cons (.str _) (.cons (Im.mono ((tk_same sA).trans (tk_new hP1)) _ imF') .nil))
            obtain ⟨pM, mx, epM, hpM, hmx⟩ := imM.tuple_inv
            cases epM
            have lmx : mx.length = mks.length := by rw [all_len hmx]
            have tg := (((be'.tk uc).trans (tk_same sA)).trans (tk_same sP1)).trans (tk_same sP2)
            refine cat_any (hpM.mono tg) (.inl upd_same) (by rw [List.length_singleton]; omega) fun p H14 s14 ip => ?_
            refine ⟨_, _, _, _, p, mks ++ [(titleS st v, fs')], rfl, (((ue'.same sA).same sP1).same sP2).same s14, ((bc.trans be').trans (but_same ((sA.trans sP1).trans sP2))).trans (but_same s14), .tup ip ?_, ?_, fun m hm => ?_, fun i0 h => ?_⟩
            · rw [List.map_append]
              exact ImAll.app (ImAll.mono (tg.trans (tk_same s14)) _ hmx) (.cons (Im.mono ((tk_same sP2).trans (tk_same s14)) _ iP1) .nil)
            · rw [List.map_append, nmM, List.range_succ, List.map_append, List.map_cons, List.map_nil, List.map_cons, List.map_nil, hv]
            · rcases List.mem_append.mp hm with hm | hm
              · exact upM m hm
              · rw [List.mem_singleton.mp hm]; exact ⟨lF', hfs'⟩
            · by_cases h2 : lf < t
              · obtain ⟨m, hm, hf⟩ := lfM i0 h2
                exact ⟨m, List.mem_append_left _ hm, hf⟩
              · exact ⟨_, List.mem_append_right _ (List.mem_singleton.mpr rfl), nF' i0 (by omega)⟩
      · rintro σ Hc ⟨y11, y12, y13, y14, M, mks, rfl, uc, bc, imM, nmM, upM, lfM⟩
        rw [Int.toNat_natCast] at nmM lfM
        have lM : mks.length = cn := by
          have := congrArg List.length nmM
          rwa [List.length_map, List.length_map, List.length_range] at this
        have eNc : Hc N = some (.lst (ns.map V.str)) := bc _ _ nN (ba _ _ nN eN)
        have hz : ns[i]? = some ns[i] := List.getElem?_eq_getElem (by omega)
        generalize ns[i] = z at hz
        refine ⟨.ref T, rfl, .ref N, rfl, .int (i : Nat), rfl, N, _, _, .str z, rfl, rfl, .of eNc, atI_nat (by rw [List.getElem?_map, hz]; rfl), .ref M, rfl, by show 2 ≤ sizeLine; decide, fun P1 hP1 => ⟨by show 1 ≤ sizeLine; decide, fun P2 hP2 => ?_⟩⟩
        have sP1 := same_new (o := .tup [V.str z, .ref M]) hP1
        have sP2 := same_new (o := .tup [V.ref P1]) hP2
        have iP1 : Im K (upd Hc P1 (.tup [V.str z, .ref M])) (.ref P1) (kdD (z, mks)) := .tup (.inl upd_same) (.cons (.str z) (.cons (Im.mono (tk_new hP1) _ imM) .nil))
        obtain ⟨pT, tx, epT, hpT, htx⟩ := im.tuple_inv
        cases epT
        have ltx : tx.length = ks.length := by rw [all_len htx]
        have tg := ((bc.tk ua).trans (tk_same sP1)).trans (tk_same sP2)
        have ul := up.len
        refine cat_any (hpT.mono tg) (.inl upd_same) (by rw [List.length_singleton]; omega) fun p H11 s11 ip => ?_
        refine ⟨_, _, _, _, _, _, _, _, p, ks ++ [(z, mks)], rfl, ((uc.same sP1).same sP2).same s11, ((ba.trans bc).trans (but_same (sP1.trans sP2))).trans (but_same s11), .tup ip ?_, up.snoc st3' (by omega) hz (by omega) (by omega) upM (by rw [nmM, lM]) fun i0 => lfM i0 (by omega)⟩
        rw [List.map_append]
        exact ImAll.app (ImAll.mono (tg.trans (tk_same s11)) _ htx) (.cons (Im.mono ((tk_same sP2).trans (tk_same s11)) _ iP1) .nil)
    · rintro σ Ha ⟨y7, y8, y9, y10, y11, y12, y13, y14, T, ks, rfl, ua, ba, im, up⟩
      rw [Int.toNat_natCast] at up
      subst hns
      obtain ⟨o1, o2⟩ := up.ok st3' d4' m4 n1 n3
      exact ⟨.ref T, rfl, q T ks Ha ua (B4.trans ba) o1 o2 im⟩
end
end K63

set_option Elab.async false
set_option linter.all false
set_option maxRecDepth 100000
set_option exponentiation.threshold 20000
set_option pp.deepTerms false
set_option pp.deepTerms.threshold 8
namespace K63
open PySem PySem.Spec PyProof.Rows L2 Ly Mt
/-! ### all makers in one list -/
abbrev MR := Str × List Str × Str × Nat × Nat
def mrDt (r : MR) : PyData := .tuple [.str r.1, sD r.2.1, .str r.2.2.1, nD r.2.2.2.1, nD r.2.2.2.2]
def mrOf (k : Nat) (kd : Kd) (m : Nat) : MR := ((kd.2.getD m (noS, [])).1, (kd.2.getD m (noS, [])).2, kd.1, k, m)
def mrK (k : Nat) (kd : Kd) (t : Nat) : List MR := (List.range t).map (mrOf k kd)
def mrsOf (ks : List Kd) (n : Nat) : List MR := (List.range n).flatMap fun k => mrK k (ks.getD k (noS, [])) (ks.getD k (noS, [])).2.length
def mrs (ks : List Kd) : List MR := mrsOf ks ks.length
theorem mrK_succ (k : Nat) (kd : Kd) (t : Nat) : mrK k kd (t + 1) = mrK k kd t ++ [mrOf k kd t] := by
  unfold mrK
  rw [List.range_succ, List.map_append]; rfl
theorem mrsOf_succ (ks : List Kd) (n : Nat) : mrsOf ks (n + 1) = mrsOf ks n ++ mrK n (ks.getD n (noS, [])) (ks.getD n (noS, [])).2.length := by
  unfold mrsOf
  rw [List.range_succ, List.flatMap_append, List.flatMap_cons, List.flatMap_nil, List.append_nil]
theorem getD_some {α : Type} {l : List α} {i : Nat} {d x : α} (h : l[i]? = some x) : l.getD i d = x := by rw [List.getD_eq_getElem?_getD, h]; rfl
theorem mrs_mem {ks : List Kd} {r : MR} : r ∈ mrs ks ↔ ∃ k kd m mk, ks[k]? = some kd ∧ kd.2[m]? = some mk ∧ r = (mk.1, mk.2, kd.1, k, m) := by
  unfold mrs mrsOf
  rw [List.mem_flatMap]
  constructor
  · rintro ⟨k, hk, hr⟩
    have hk := List.mem_range.mp hk
    have ek := List.getElem?_eq_getElem hk
    rw [getD_some ek] at hr
    obtain ⟨m, hm, rfl⟩ := List.mem_map.mp hr
    have hm := List.mem_range.mp hm
    have em := List.getElem?_eq_getElem hm
    refine ⟨k, _, m, _, ek, em, ?_⟩
    unfold mrOf
    rw [getD_some em]
  · rintro ⟨k, kd, m, mk, ek, em, rfl⟩
    refine ⟨k, List.mem_range.mpr (List.getElem?_eq_some_iff.mp ek).1, ?_⟩
    rw [getD_some ek]
    refine List.mem_map.mpr ⟨m, List.mem_range.mpr (List.getElem?_eq_some_iff.mp em).1, ?_⟩
    unfold mrOf
    rw [getD_some em]
theorem mrs_few {ks : List Kd} (ok : KindsOk ks) : ∀ n, n ≤ ks.length → (mrsOf ks n).length ≤ 6 * n
  | 0, _ => Nat.le_refl _
  | n + 1, h => by
    have ih := mrs_few ok n (by omega)
    have ek := List.getElem?_eq_getElem (show n < ks.length by omega)
    rw [mrsOf_succ, List.length_append, getD_some ek]
    unfold mrK
    rw [List.length_map, List.length_range]
    have := (ok.mks _ (List.mem_of_getElem? ek)).2
    omega
section
variable {P : Program} {w : World} {K : PySem.W.Frag} {mg : Str → Option Value} {base : Heap}
abbrev s__law_makers : Stmt := topS 63
theorem sc__law_makers : FnScope ["kinds", "found", "k", "m"] ["kinds"] (defScope s__law_makers) := ⟨rfl, rfl, rfl, by decide +kernel, rfl, by decide +kernel, by decide +kernel⟩
def sp_makers (K : PySem.W.Frag) : Sp := fun vs H Q _ => ∃ (v : V) (ks : List Kd), vs = [v] ∧ Im K H v (ksD ks) ∧ KindsOk ks ∧ ∀ D ws H', Same H H' → H D = none → H' D = some (.lst ws) → ImAll K H' ws ((mrs ks).map mrDt) → Q (.ref D) H'
set_option maxHeartbeats 1000000 in
theorem ok__law_makers {f : Addr} {fd : FuncData} {k : Nat} (F : Fun K "_law_makers" "_law_makers" s__law_makers f fd) (T : Tx K mg) : FnOk P w K mg base CX0 (k + 1) f fd ["kinds"] (sp_makers K) := by
  have nd := sc__law_makers.nd
  refine F.ok sc__law_makers (fun vs H Q E h => ?_) (fun cdv A outer s H vs Q E hr h => ?_)
  · obtain ⟨_, _, rfl, _⟩ := h
    rfl
  · obtain ⟨v, ks, rfl, iv, ok, q⟩ := h
    obtain ⟨ka, kx, rfl, hka, hkx⟩ := iv.tuple_inv
    have lk : kx.length = ks.length := all_len hkx
    have kf := ok.few
    refine ⟨_, (pss_cons (ps_set (i := 1) nd rfl (.inl rfl) (pe_lst pa_nil))
      (pss_cons (ps_for PassesOwn.never rfl (pi_range1 rfl T.m_range (pa_cons (pe_callB (kcall_len K) (by rfl) T.m_len PySem.boot_len (pa_cons (pv 0) pa_nil)) pa_nil)) (pg_name (i := 2) nd rfl (.inl rfl))
        (pss_one (ps_for PassesOwn.never rfl (pi_range1 rfl T.m_range (pa_cons (pe_callB (kcall_len K) (by rfl) T.m_len PySem.boot_len (pa_cons (pe_ix (kix_tup K) (pe_ix (kix_tup K) (pv 0) (pv 2) (fun _ _ => rfl)) pe_int (fun _ _ => rfl)) pa_nil)) pa_nil)) (pg_name (i := 3) nd rfl (.inl rfl))
          (pss_one (ps_expr (pe_bm PySem.F.plainAttrs_list PySem.F.slot_list_append PySem.F.type_list_append mt_append (pv 1) (pa_cons (pe_tup (pa_cons (pe_ix (kix_tup K) (pe_ix (kix_tup K) (pe_ix (kix_tup K) (pe_ix (kix_tup K) (pv 0) (pv 2) (fun _ _ => rfl)) pe_int (fun _ _ => rfl)) (pv 3) (fun _ _ => rfl)) pe_int (fun _ _ => rfl)) (pa_cons (pe_ix (kix_tup K) (pe_ix (kix_tup K) (pe_ix (kix_tup K) (pe_ix (kix_tup K) (pv 0) (pv 2) (fun _ _ => rfl)) pe_int (fun _ _ => rfl)) (pv 3) (fun _ _ => rfl)) pe_int (fun _ _ => rfl)) (pa_cons (pe_ix (kix_tup K) (pe_ix (kix_tup K) (pv 0) (pv 2) (fun _ _ => rfl)) pe_int (fun _ _ => rfl)) (pa_cons (pv 2) (pa_cons (pv 3) pa_nil)))))) pa_nil)))))))
      (pss_one (ps_ret (pv 1))))), ?_⟩
    refine ⟨by show 0 ≤ sizeLine; decide, fun L hL => ?_⟩
    have sL := same_new (o := .lst []) hL
    have eL : (upd H L (.lst [])) L = some (.lst []) := upd_same
    generalize upd H L (.lst []) = H1 at *
    refine ⟨.ref ka, rfl, ka, kx, rfl, .inr (hka.mono (tk_same sL)).sq, (kx.length : Nat), rfl, by omega, by omega, ?_⟩
    refine for_it (walk_range (lo := 0) (n := (kx.length : Int).toNat)) (fun i σ Ha => ∃ (y2 y3 : Option V) (ws : List V), σ = [some (.ref ka), some (.ref L), y2, y3] ∧ Same H Ha ∧ Ha L = some (.lst ws) ∧ ImAll K Ha ws ((mrsOf ks i).map mrDt)) ⟨_, _, [], rfl, sL, eL, .nil⟩ (fun _ _ _ _ _ => trivial) ?_ ?_
    · rintro i x σ Ha Hb hi ⟨y2, y3, ws, rfl, sm, eLa, im⟩ ⟨rfl, rfl⟩
      rw [Int.toNat_natCast] at hi
      show gName 2 (V.int ((0 : Int) + (i : Nat))) _ _ _
      rw [show (0 : Int) + (i : Nat) = (i : Nat) by omega]
      have hki := List.getElem?_eq_getElem (show i < ks.length by omega)
      generalize ks[i] = kd at hki
      obtain ⟨x, ex, ix⟩ := all_at (ImAll.mono (tk_same sm) _ hkx) hki
      obtain ⟨pk, w1, w2, rfl, hpk, iw1, iw2⟩ := im_pair ix
      obtain rfl := iw1.str_inv
      obtain ⟨pm, ms, rfl, hpm, hms⟩ := iw2.tuple_inv
      have lms : ms.length = kd.2.length := all_len hms
      have mk6 := ok.mks kd (List.mem_of_getElem? hki)
      have hka2 := hka.mono (tk_same sm)
      refine ⟨.ref ka, rfl, .int (i : Nat), rfl, ka, kx, _, .ref pk, rfl, rfl, hka2.sq, atI_nat ex, pk, _, 1, _, rfl, rfl, hpk.sq, atI_nat (j := 1) rfl, pm, ms, rfl, .inr hpm.sq, (ms.length : Nat), rfl, by omega, by omega, ?_⟩
      refine for_it (walk_range (lo := 0) (n := (ms.length : Int).toNat)) (fun t σ Hc => ∃ (y3 : Option V) (ws : List V), σ = [some (.ref ka), some (.ref L), some (.int (i : Nat)), y3] ∧ Same H Hc ∧ TK Hb Hc ∧ Hc L = some (.lst ws) ∧ ImAll K Hc ws ((mrsOf ks i ++ mrK i kd t).map mrDt)) ⟨_, ws, rfl, sm, fun _ _ e => e, eLa, by rw [show mrK i kd 0 = [] from rfl, List.append_nil]; exact im⟩ (fun _ _ _ _ _ => trivial) ?_ ?_
      · rintro t x σ Hc Hd ht ⟨y3, ws2, rfl, sc, tc, eLc, imc⟩ ⟨rfl, rfl⟩
        rw [Int.toNat_natCast] at ht
        show gName 3 (V.int ((0 : Int) + (t : Nat))) _ _ _
        rw [show (0 : Int) + (t : Nat) = (t : Nat) by omega]
        have hmt := List.getElem?_eq_getElem (show t < kd.2.length by omega)
        have emr : mrOf i kd t = (kd.2[t].1, kd.2[t].2, kd.1, i, t) := by unfold mrOf; rw [getD_some hmt]
        generalize kd.2[t] = mk at hmt emr
        obtain ⟨y, ey, iy⟩ := all_at (ImAll.mono tc _ hms) hmt
        obtain ⟨pp, w3, w4, rfl, hpp, iw3, iw4⟩ := im_pair iy
        obtain rfl := iw3.str_inv
        have a1 := (hka2.mono tc).sq
        have a2 := (hpk.mono tc).sq
        have a3 := (hpm.mono tc).sq
        refine ⟨.ref L, rfl, .inl ⟨rfl, _, .of eLc⟩, ?_⟩
        refine ⟨.ref ka, rfl, .int (i : Nat), rfl, ka, kx, _, .ref pk, rfl, rfl, a1, atI_nat ex, pk, _, 1, _, rfl, rfl, a2, atI_nat (j := 1) rfl, .int (t : Nat), rfl, pm, ms, _, .ref pp, rfl, rfl, a3, atI_nat ey, pp, _, 0, _, rfl, rfl, hpp.sq, atI_nat (j := 0) rfl, ?_⟩
        refine ⟨.ref ka, rfl, .int (i : Nat), rfl, ka, kx, _, .ref pk, rfl, rfl, a1, atI_nat ex, pk, _, 1, _, rfl, rfl, a2, atI_nat (j := 1) rfl, .int (t : Nat), rfl, pm, ms, _, .ref pp, rfl, rfl, a3, atI_nat ey, pp, _, 1, _, rfl, rfl, hpp.sq, atI_nat (j := 1) rfl, ?_⟩
        refine ⟨.ref ka, rfl, .int (i : Nat), rfl, ka, kx, _, .ref pk, rfl, rfl, a1, atI_nat ex, pk, _, 0, _, rfl, rfl, a2, atI_nat (j := 0) rfl, .int (i : Nat), rfl, .int (t : Nat), rfl, by show 5 ≤ sizeLine; decide, fun T hT => ?_⟩
        have sT := same_new (o := .tup [V.str mk.1, w4, .str kd.1, .int (i : Nat), .int (t : Nat)]) hT
        have iT : Im K (upd Hd T (.tup [V.str mk.1, w4, .str kd.1, .int (i : Nat), .int (t : Nat)])) (.ref T) (mrDt (mrOf i kd t)) := by
          rw [emr]
          exact .tup (.inl upd_same) (.cons (.str _) (.cons (Im.mono (tk_new hT) _ iw4) (.cons (.str _) (.cons (.int _) (.cons (.int _) .nil)))))
        have few := mrs_few ok i (by omega)
        have lw : ws2.length ≤ 1000 - 1 := by
          rw [all_len imc, List.length_append]
          unfold mrK
          rw [List.length_map, List.length_range]
          omega
        refine ⟨L, _, _, rfl, rfl, sT _ _ eLc, small1000 (by omega), ?_⟩
        refine ⟨_, _, rfl, fun b o e => ?_, ?_, upd_same, ?_⟩
        · rw [upd_ne (ne_of_none e hL)]; exact sT _ _ (sc _ _ e)
        · exact (tc.trans (tk_same sT)).trans (tk_lst (sT _ _ eLc))
        · rw [mrK_succ, ← List.append_assoc, List.map_append]
          exact (ImAll.mono ((tk_same sT).trans (tk_lst (sT _ _ eLc))) _ imc).snoc (Im.mono (tk_lst (sT _ _ eLc)) _ iT)
      · rintro σ Hc ⟨y3, ws2, rfl, sc, tc, eLc, imc⟩
        rw [Int.toNat_natCast, lms] at imc
        refine ⟨_, _, ws2, rfl, sc, eLc, ?_⟩
        rw [mrsOf_succ, getD_some hki]
        exact imc
    · rintro σ Ha ⟨y2, y3, ws, rfl, sm, eLa, im⟩
      rw [Int.toNat_natCast, lk] at im
      exact ⟨.ref L, rfl, q L ws Ha sm hL eLa im⟩
end
end K63

set_option Elab.async false
set_option linter.all false
set_option maxRecDepth 100000
set_option exponentiation.threshold 20000
set_option pp.deepTerms false
set_option pp.deepTerms.threshold 8
namespace K63
open PySem PySem.Spec PyProof.Rows L2 Ly Mt
/-! ### rows as the law draws them -/
theorem get_snoc {α : Type} {l : List α} {a x : α} {i : Nat} (h : (l ++ [a])[i]? = some x) : l[i]? = some x ∨ (i = l.length ∧ x = a) := by
  by_cases hi : i < l.length
  · rw [List.getElem?_append_left hi] at h
    exact .inl h
  · rw [List.getElem?_append_right (by omega)] at h
    have hlt := (List.getElem?_eq_some_iff.mp h).1
    rw [List.length_singleton] at hlt
    rw [show i - l.length = 0 by omega] at h
    exact .inr ⟨by omega, (Option.some.inj h).symm⟩
theorem at_one {ks : List Kd} (ok : KindsOk ks) {i j i' j' : Nat} {kd kd' : Kd} {m m' : Mk} (h1 : ks[i]? = some kd) (h2 : kd.2[j]? = some m) (h3 : ks[i']? = some kd') (h4 : kd'.2[j']? = some m') (e : m.1 = m'.1) : i = i' ∧ j = j' := by
  have nd : ((rowsOf ks ks.length).map (·.1)).Nodup := by rw [rows_names]; exact ok.ndm
  have := fst_inj nd (row_mem h1 h2) (row_mem h3 h4) e
  unfold mkRow at this
  injection this with _ this
  injection this with a this
  injection this with b _
  exact ⟨a, b⟩
def costI (ns : List Str) (sz : List Nat) : List Str → List Int → Nat
  | f :: fs, e :: es => (if f ∈ ns then sz.getD e.toNat 0 else 0) + costI ns sz fs es
  | _, _ => 0
theorem cost_snoc {ns : List Str} {sz : List Nat} {f : Str} {e : Int} : ∀ {fs : List Str} {es : List Int}, es.length = fs.length → costI ns sz (fs ++ [f]) (es ++ [e]) = costI ns sz fs es + (if f ∈ ns then sz.getD e.toNat 0 else 0)
  | [], [], _ => by simp [costI]
  | [], _ :: _, h => by simp at h
  | _ :: _, [], h => by simp at h
  | g :: fs, d :: es, h => by
    have ih := cost_snoc (ns := ns) (sz := sz) (f := f) (e := e) (fs := fs) (es := es) (by simpa using h)
    show _ + costI ns sz (fs ++ [f]) (es ++ [e]) = _ + costI ns sz fs es + _
    rw [ih]; omega
def EntOk (ks : List Kd) (rows : List Rw) (f : Str) (e : Int) : Prop := (f ∈ ks.map (·.1) → ∃ n : Nat, e = n ∧ n < rows.length ∧ KindAt ks rows n ((ks.map (·.1)).idxOf f)) ∧ (f ∉ ks.map (·.1) → e.natAbs ≤ 2000000000)
theorem cost_more {ks : List Kd} {rows : List Rw} {sz : List Nat} {s : Nat} (hl : rows.length ≤ sz.length) : ∀ {fs : List Str} {es : List Int}, (∀ (x : Nat) f e, fs[x]? = some f → es[x]? = some e → EntOk ks rows f e) → costI (ks.map (·.1)) (sz ++ [s]) fs es = costI (ks.map (·.1)) sz fs es
  | [], _, _ => by simp [costI]
  | _ :: _, [], _ => by simp [costI]
  | f :: fs, e :: es, h => by
    have ih := cost_more (s := s) hl (fs := fs) (es := es) fun x g d hg hd => h (x + 1) g d (by simpa using hg) (by simpa using hd)
    show _ + costI _ (sz ++ [s]) fs es = _ + costI _ sz fs es
    rw [ih]
    congr 1
    by_cases hf : f ∈ ks.map (·.1)
    · rw [if_pos hf, if_pos hf]
      obtain ⟨n, rfl, hn, _⟩ := (h 0 f e rfl rfl).1 hf
      rw [Int.toNat_natCast, List.getD_eq_getElem?_getD, List.getD_eq_getElem?_getD, List.getElem?_append_left (by omega)]
    · rw [if_neg hf, if_neg hf]
structure RS (ks : List Kd) (rows : List Rw) (sz : List Nat) (hd : List Str) : Prop where
  lsz : sz.length = rows.length
  lhd : hd.length = rows.length
  s30 : ∀ s ∈ sz, s ≤ 121
  hdk : ∀ (t : Nat) h, hd[t]? = some h → KindAt ks rows t ((ks.map (·.1)).idxOf h)
  each : ∀ (t : Nat) r, rows[t]? = some r → ∃ i j kd m, At ks r i j kd m ∧ r.2.length = m.2.length ∧ (∀ (x : Nat) f e, m.2[x]? = some f → r.2[x]? = some e → EntOk ks (rows.take t) f e) ∧ 1 + costI (ks.map (·.1)) sz m.2 r.2 ≤ sz.getD t 0
theorem KindAt.more {ks : List Kd} {rows : List Rw} {r : Rw} {n i : Nat} (h : KindAt ks rows n i) : KindAt ks (rows ++ [r]) n i := by
  obtain ⟨r0, j, kd, m, e, a⟩ := h
  exact ⟨r0, j, kd, m, by rw [List.getElem?_append_left (List.getElem?_eq_some_iff.mp e).1]; exact e, a⟩
theorem idx_get {ns : List Str} (nd : ns.Nodup) {i : Nat} {x : Str} (h : ns[i]? = some x) : ns.idxOf x = i := by
  have hm := List.mem_of_getElem? h
  have hl := List.idxOf_lt_length_of_mem hm
  have e : ns[ns.idxOf x]? = some x := by rw [List.getElem?_eq_getElem hl]; exact congrArg some (List.getElem_idxOf hl)
  exact (List.getElem?_inj hl nd).mp (e.trans h.symm)
theorem RS.snoc {ks : List Kd} (ok : KindsOk ks) {rows : List Rw} {sz : List Nat} {hd : List Str} (h : RS ks rows sz hd) {i j : Nat} {kd : Kd} {m : Mk} (hk : ks[i]? = some kd) (hm : kd.2[j]? = some m) {es : List Int} (le : es.length = m.2.length)
    (he : ∀ (x : Nat) f e, m.2[x]? = some f → es[x]? = some e → EntOk ks rows f e) {s : Nat} (hs : s = 1 + costI (ks.map (·.1)) sz m.2 es) (s30 : s ≤ 121) : RS ks (rows ++ [(m.1, es)]) (sz ++ [s]) (hd ++ [kd.1]) := by
  have l1 := h.lsz
  have l2 := h.lhd
  have at' : At ks (m.1, es) i j kd m := ⟨hk, hm, rfl⟩
  refine ⟨by simp [l1], by simp [l2], fun x hx => ?_, fun t g hg => ?_, fun t r hr => ?_⟩
  · rw [List.mem_append, List.mem_singleton] at hx
    rcases hx with hx | rfl
    · exact h.s30 x hx
    · exact s30
  · rcases get_snoc hg with hg | ⟨rfl, rfl⟩
    · exact (h.hdk t g hg).more
    · rw [idx_get ok.nd (i := i) (by rw [List.getElem?_map, hk]; rfl)]
      exact ⟨(m.1, es), j, kd, m, by rw [l2, List.getElem?_append_right (Nat.le_refl _)]; simp, at'⟩
  · rcases get_snoc hr with hr | ⟨rfl, rfl⟩
    · obtain ⟨i', j', kd', m', a, l, e, c⟩ := h.each t r hr
      have ht := (List.getElem?_eq_some_iff.mp hr).1
      refine ⟨i', j', kd', m', a, l, fun x f d hf hd' => ?_, ?_⟩
      · rw [List.take_append_of_le_length (by omega)]
        exact e x f d hf hd'
      · rw [cost_more (rows := rows.take t) (by rw [List.length_take]; omega) e, List.getD_eq_getElem?_getD, List.getElem?_append_left (by omega), ← List.getD_eq_getElem?_getD]
        exact c
    · refine ⟨i, j, kd, m, at', le, fun x f d hf hd' => ?_, ?_⟩
      · rw [List.take_left]
        exact he x f d hf hd'
      · rw [cost_more (rows := rows) (by omega) he, List.getD_eq_getElem?_getD, ← l1, List.getElem?_append_right (Nat.le_refl _)]
        simp [hs]
theorem RS.ok {ks : List Kd} {rows : List Rw} {sz : List Nat} {hd : List Str} (h : RS ks rows sz hd) (l1 : 1 ≤ rows.length) (l96 : rows.length ≤ 96) : RowsOk ks rows := by
  refine ⟨⟨l1, l96⟩, fun t r hr => ?_⟩
  obtain ⟨i, j, kd, m, a, l, e, _⟩ := h.each t r hr
  refine ⟨i, j, kd, m, a, l, fun x f d hf hd' hin => ?_⟩
  obtain ⟨n, rfl, hn, r0, j0, kd0, m0, er, a0⟩ := (e x f d hf hd').1 hin
  rw [List.length_take] at hn
  have hlt := (List.getElem?_eq_some_iff.mp hr).1
  rw [List.getElem?_take, if_pos (by omega)] at er
  exact ⟨n, rfl, by omega, r0, j0, kd0, m0, er, a0⟩
/-! ### how great the trees grow -/
def dK (ns made : List Str) : Nat := (ns.filter (fun x => decide (x ∈ made))).length
def cc : Nat → Nat
  | 0 => 0
  | 1 => 1
  | 2 => 13
  | _ => 40
def chb : Nat → Nat
  | 0 => 0
  | 1 => 4
  | 2 => 13
  | _ => 40
theorem cc_mono {a b : Nat} (h : a ≤ b) : cc a ≤ cc b := by
  match a, b, h with
  | 0, b, _ => exact Nat.zero_le _
  | 1, 1, _ => exact Nat.le_refl _
  | 1, 2, _ => decide
  | 1, b + 3, _ => show 1 ≤ 40; decide
  | 2, 2, _ => exact Nat.le_refl _
  | 2, b + 3, _ => show 13 ≤ 40; decide
  | a + 3, b + 3, _ => exact Nat.le_refl _
theorem chb_cc {d : Nat} (h : d ≤ 2) : 1 + 3 * chb d ≤ cc (d + 1) := by
  have : d = 0 ∨ d = 1 ∨ d = 2 := by omega
  rcases this with rfl | rfl | rfl <;> decide
theorem chb_le (d : Nat) : chb d ≤ 40 := by
  match d with
  | 0 => decide
  | 1 => decide
  | 2 => decide
  | d + 3 => exact Nat.le_refl _
theorem chb_ge {d s : Nat} (h : 1 ≤ d) (hs : s ≤ 4 ∨ s ≤ cc d) : s ≤ chb d := by
  match d, h with
  | 1, _ => rcases hs with hs | hs; exact hs; exact Nat.le_trans hs (by decide)
  | 2, _ => rcases hs with hs | hs; exact Nat.le_trans hs (by decide); exact hs
  | d + 3, _ => rcases hs with hs | hs; exact Nat.le_trans hs (show 4 ≤ 40 by decide); exact hs
theorem dK_snoc {x : Str} : ∀ {ns made : List Str}, x ∈ ns → x ∉ made → dK ns made + 1 ≤ dK ns (made ++ [x])
  | n :: ns, made, h, hx => by
    have mono : ∀ l : List Str, dK l made ≤ dK l (made ++ [x]) := fun l => by
      induction l with
      | nil => exact Nat.le_refl _
      | cons a l ih =>
        unfold dK at ih ⊢
        rw [List.filter_cons, List.filter_cons]
        by_cases ha : a ∈ made
        · rw [if_pos (decide_eq_true ha), if_pos (decide_eq_true (List.mem_append_left _ ha))]
          simp only [List.length_cons]; omega
        · rw [if_neg (by simpa using ha)]
          split
          · simp only [List.length_cons]; omega
          · exact ih
    by_cases e : n = x
    · subst e
      have m := mono ns
      unfold dK at m ⊢
      rw [List.filter_cons, List.filter_cons, if_neg (by simpa using hx), if_pos (by simp)]
      simp only [List.length_cons]; omega
    · have ih := dK_snoc (ns := ns) (made := made) (by rcases List.mem_cons.mp h with h | h; exact absurd h.symm e; exact h) hx
      unfold dK at ih ⊢
      rw [List.filter_cons, List.filter_cons]
      by_cases ha : n ∈ made
      · rw [if_pos (decide_eq_true ha), if_pos (decide_eq_true (List.mem_append_left _ ha))]
        simp only [List.length_cons]; omega
      · rw [if_neg (by simpa using ha), if_neg (by simp [ha, e])]
        exact ih
theorem dK_same {x : Str} {ns made : List Str} (h : x ∈ made) : dK ns (made ++ [x]) = dK ns made := by
  unfold dK
  congr 1
  refine List.filter_congr fun a _ => ?_
  simp only [List.mem_append, List.mem_singleton, decide_eq_decide]
  exact ⟨fun z => z.elim id fun e => by rw [e]; exact h, .inl⟩
theorem dK_le (ns made : List Str) : dK ns made ≤ ns.length := List.length_filter_le ..
theorem dK_pos {x : Str} {ns made : List Str} (h : x ∈ ns) (hm : x ∈ made) : 1 ≤ dK ns made := by
  unfold dK
  exact List.length_pos_of_mem (List.mem_filter.mpr ⟨h, decide_eq_true hm⟩)
/-- the first tree of a kind is small -/
def Grow (ns made : List Str) (sz : List Nat) : Prop := ∀ x ∈ made, sz.getD (made.idxOf x) 0 ≤ cc (dK ns made)
theorem Grow.snoc {ns made : List Str} {sz : List Nat} (g : Grow ns made sz) (l : sz.length = made.length) (n3 : ns.length ≤ 3) {x : Str} (hx : x ∈ ns) {s : Nat} (hs : s ≤ 1 + 3 * chb (dK ns made)) : Grow ns (made ++ [x]) (sz ++ [s]) := fun y hy => by
  have old : y ∈ made → (sz ++ [s]).getD ((made ++ [x]).idxOf y) 0 = sz.getD (made.idxOf y) 0 := fun h => by
    have := List.idxOf_lt_length_of_mem h
    rw [List.idxOf_append, if_pos h, List.getD_eq_getElem?_getD, List.getD_eq_getElem?_getD, List.getElem?_append_left (by omega)]
  by_cases h : x ∈ made
  · have hy' : y ∈ made := by
      rcases List.mem_append.mp hy with hy | hy
      · exact hy
      · rw [List.mem_singleton.mp hy]; exact h
    rw [old hy', dK_same h]
    exact g y hy'
  · have d1 := dK_snoc hx h
    have d3 := dK_le ns (made ++ [x])
    by_cases hy' : y ∈ made
    · rw [old hy']
      exact Nat.le_trans (g y hy') (cc_mono (by omega))
    · have e : y = x := by
        rcases List.mem_append.mp hy with hy | hy
        · exact absurd hy hy'
        · exact List.mem_singleton.mp hy
      subst e
      rw [List.idxOf_append, if_neg h, List.getD_eq_getElem?_getD, List.getElem?_append_right (by omega)]
      rw [show List.idxOf y [y] + made.length - sz.length = 0 by simp [l]]
      exact Nat.le_trans hs (Nat.le_trans (chb_cc (by omega)) (cc_mono d1))
theorem Grow.nil (ns : List Str) : Grow ns [] [] := fun x hx => by simp at hx
/-- the places of a kind's trees -/
def plc (made : List Str) (f : Str) (n : Nat) : List Nat := (List.range n).filter fun i => decide (made[i]? = some f)
theorem plc_mem {made : List Str} {f : Str} {n i : Nat} : i ∈ plc made f n ↔ i < n ∧ made[i]? = some f := by
  unfold plc
  rw [List.mem_filter, List.mem_range, decide_eq_true_eq]
theorem plc_head {made : List Str} {f : Str} (h : f ∈ made) : (plc made f made.length)[0]? = some (made.idxOf f) := by
  have hl := List.idxOf_lt_length_of_mem h
  rw [← List.head?_eq_getElem?]
  unfold plc
  rw [List.head?_filter, List.find?_range_eq_some]
  refine ⟨?_, List.mem_range.mpr hl, fun j hj => ?_⟩
  · rw [List.getElem?_eq_getElem hl, decide_eq_true_eq]; exact congrArg some (List.getElem_idxOf hl)
  · have h2 := List.not_of_lt_findIdx (p := fun x => x == f) (xs := made) hj
    rw [List.getElem?_eq_getElem (by omega)]
    simp only [Option.some.injEq, Bool.not_eq_true', decide_eq_false_iff_not]
    intro e
    rw [e] at h2
    simp at h2
theorem plc_succ {made : List Str} {f g : Str} {n : Nat} (h : made[n]? = some g) : plc made f (n + 1) = plc made f n ++ (if g = f then [n] else []) := by
  unfold plc
  rw [List.range_succ, List.filter_append, List.filter_cons, List.filter_nil, h]
  by_cases e : g = f
  · rw [if_pos (by simp [e]), if_pos e]
  · rw [if_neg (by simp [e]), if_neg e]
/-- rows, the kinds of their trees, and their sizes -/
structure RG (ks : List Kd) (rows : List Rw) (sz : List Nat) (hd : List Str) : Prop where
  rs : RS ks rows sz hd
  gr : Grow (ks.map (·.1)) hd sz
  inn : ∀ x ∈ hd, x ∈ ks.map (·.1)
end K63

set_option Elab.async false
set_option linter.all false
set_option maxRecDepth 100000
/-! lists of texts as data, for == -/
namespace Ly
open PySem PySem.Spec PyProof.Rows L2
section
variable {K : PySem.W.Frag} {H : Hp}
theorem dp_strs : ∀ ns : List Str, DpAll K H (ns.map V.str) (ns.map PyData.str)
  | [] => .nil
  | n :: ns => .cons (.str n) (dp_strs ns)
theorem lay_strs : ∀ ns : List Str, (∀ n ∈ ns, PyData.strOk n = true) → PyData.canLayAll0 (ns.map PyData.str) = true
  | [], _ => by simp [PyData.canLayAll0]
  | n :: ns, h => by simp [PyData.canLayAll0, PyData.canLay0, lay_strs ns fun x hx => h x (List.mem_cons_of_mem _ hx), h n (List.mem_cons_self ..)]
theorem deep_strs : ∀ ns : List Str, PyData.depthAll (ns.map PyData.str) ≤ 1
  | [] => by simp [PyData.depthAll]
  | n :: ns => by
    have := deep_strs ns
    simp only [List.map_cons, PyData.depthAll, PyData.depth]
    omega
theorem shaped_strs (ns : List Str) (ok : ∀ n ∈ ns, PyData.strOk n = true) : SeqAt.shaped (.list (ns.map PyData.str)) = true := by
  have h := deep_strs ns
  have h2 : PyData.depth (.list (ns.map PyData.str)) ≤ 64 := by
    simp only [PyData.depth]; omega
  show (PyData.canLay0 (.list (ns.map PyData.str)) && decide (PyData.depth (.list (ns.map PyData.str)) ≤ 64)) = true
  rw [Bool.and_eq_true]
  exact ⟨by simp only [PyData.canLay0]; exact lay_strs ns ok, decide_eq_true h2⟩
theorem eqv_strs_nil (ns : List Str) : PyData.eqv (.list (ns.map PyData.str)) (.list []) = ns.isEmpty := by
  cases ns <;> simp [PyData.eqv, PyData.eqvAll]
end
end Ly

set_option Elab.async false
set_option linter.all false
set_option maxRecDepth 100000
set_option exponentiation.threshold 20000
set_option pp.deepTerms false
set_option pp.deepTerms.threshold 8
namespace K63
open PySem PySem.Spec PyProof.Rows L2 Ly Mt
theorem im_five {K : PySem.W.Frag} {H : Hp} {v : V} {d e f g h' : PyData} (h : Im K H v (.tuple [d, e, f, g, h'])) : ∃ a x y z w q, v = .ref a ∧ ITup K H a [x, y, z, w, q] ∧ Im K H x d ∧ Im K H y e ∧ Im K H z f ∧ Im K H w g ∧ Im K H q h' := by
  obtain ⟨a, xs, rfl, ha, hx⟩ := h.tuple_inv
  obtain ⟨x, r, rfl, i1, hr⟩ := hx.cons_inv
  obtain ⟨y, r, rfl, i2, hr⟩ := hr.cons_inv
  obtain ⟨z, r, rfl, i3, hr⟩ := hr.cons_inv
  obtain ⟨w, r, rfl, i4, hr⟩ := hr.cons_inv
  obtain ⟨q, r, rfl, i5, hr⟩ := hr.cons_inv
  obtain rfl := hr.nil_inv
  exact ⟨a, x, y, z, w, q, rfl, ha, i1, i2, i3, i4, i5⟩
theorem name_strOk {z : Str} (h : NameOk z) : PyData.strOk z = true := by
  unfold PyData.strOk
  rw [Array.all_eq_true']
  intro c hc
  have l1 : ∀ c ∈ lows.cps.toList, c < 0x110000 := by decide +kernel
  have l2 : ∀ c ∈ highs.cps.toList, c < 0x110000 := by decide +kernel
  have l3 : ∀ c ∈ digs.cps.toList, c < 0x110000 := by decide +kernel
  have := h.signs c (Array.mem_toList_iff.mpr hc)
  unfold lowC highC digC at this
  simp only [Bool.or_eq_true, decide_eq_true_eq] at this
  rw [decide_eq_true_eq]
  rcases this with (h | h) | h
  · exact l1 c h
  · exact l2 c h
  · exact l3 c h
theorem num_not {ks : List Kd} (ok : KindsOk ks) : ("number" : Str) ∉ ks.map (·.1) := fun z => by
  obtain ⟨k, hk, e⟩ := List.mem_map.mp z
  obtain ⟨_, c, hc, hh⟩ := ok.nm k hk
  rw [e] at hc
  have e2 : ("number" : Str).cps[0]? = some 110 := by decide +kernel
  rw [e2] at hc
  obtain rfl := Option.some.inj hc
  exact absurd hh (by decide +kernel)
def Able (hd fs : List Str) : Prop := ∀ f ∈ fs, f = ("number" : Str) ∨ f ∈ hd
def lackS (hd fs : List Str) : List Str := fs.filter fun f => decide (f ≠ ("number" : Str)) && decide (f ∉ hd)
theorem lack_nil {hd fs : List Str} : (lackS hd fs).isEmpty = true ↔ Able hd fs := by
  unfold lackS Able
  rw [List.isEmpty_iff, List.filter_eq_nil_iff]
  refine forall_congr' fun f => forall_congr' fun _ => ?_
  simp only [Bool.and_eq_true, decide_eq_true_eq, not_and, Decidable.not_not]
  exact ⟨fun h => by by_cases e : f = ("number" : Str); exact .inl e; exact .inr (h e), fun h n => h.resolve_left n⟩
section
variable {P : Program} {w : World} {K : PySem.W.Frag} {mg : Str → Option Value} {base : Heap}
abbrev s__law_rows : Stmt := topS 64
theorem sc__law_rows : FnScope ["store", "kinds", "many", "rows", "made_v", "sizes", "turn", "able", "row", "maker", "fields", "kind", "k", "m", "entries", "size", "field", "places", "place", "at"] ["store", "kinds", "many"] (defScope s__law_rows) := ⟨rfl, rfl, rfl, by decide +kernel, rfl, by decide +kernel, by decide +kernel⟩
def sp_lrows (K : PySem.W.Frag) : Sp := fun vs H Q _ => ∃ (c : Addr) (v : V) (ks : List Kd) (many : Nat), vs = [.ref c, v, .int (many : Nat)] ∧ many ≤ 90 ∧ Sto H c ∧ Im K H v (ksD ks) ∧ KindsOk ks ∧ SmallK 3 ks ∧ ∀ p rows sz hd H', Sto H' c → But c H H' → Im K H' (.ref p) (rwsD rows) → RG ks rows sz hd → rows.length = many → Q (.ref p) H'
set_option maxHeartbeats 4000000 in
theorem ok__law_rows {f : Addr} {fd : FuncData} {k : Nat} (F : Fun K "_law_rows" "_law_rows" s__law_rows f fd) (T : Tx K mg){k1 : Nat} (D__law_pick : Def P w K mg base k1 "_law_pick" s__law_pick ["store", "many"] sp_pick) {k2 : Nat} (D__law_makers : Def P w K mg base k2 "_law_makers" s__law_makers ["kinds"] (sp_makers K)) (e1 : k1 ≤ k) (e2 : k2 ≤ k) : FnOk P w K mg base CX0 (k + 1) f fd ["store", "kinds", "many"] (sp_lrows K) := by
  have nd := sc__law_rows.nd
  refine F.ok sc__law_rows (fun vs H Q E h => ?_) (fun cdv A outer s H vs Q E hr h => ?_)
  · obtain ⟨_, _, _, _, rfl, _⟩ := h
    rfl
  · obtain ⟨c, v, ks, many, rfl, m9, u, iv, ok, sm, q⟩ := h
    have kf := ok.few
    refine ⟨_, (pss_cons (ps_asg (pe_tup (pa_cons (pe_tup pa_nil) (pa_cons (pe_lst pa_nil) (pa_cons (pe_lst pa_nil) pa_nil)))) (kpg_tup K (n := 3) rfl (pgs_cons (pg_name (i := 3) nd rfl (.inl rfl)) (pgs_cons (pg_name (i := 4) nd rfl (.inr rfl)) (pgs_cons (pg_name (i := 5) nd rfl (.inl rfl)) pgs_nil)))))
      (pss_cons (ps_for PassesOwn.never rfl (pi_range1 rfl T.m_range (pa_cons (pv 2) pa_nil)) (pg_name (i := 6) nd rfl (.inl rfl))
        (pss_cons (ps_set (i := 7) nd rfl (.inl rfl) (pe_lst pa_nil))
        (pss_cons (ps_for PassesOwn.never rfl (kpi_list K (pe_def D__law_makers (hr.mono (by omega)) rfl (pa_cons (pv 1) pa_nil))) (pg_name (i := 8) nd rfl (.inl rfl))
          (pss_one (ps_if (pt_cmpR (kop_eqD K hr.units) (pe_lc (own := [("field", 16)]) (g := gName 16) rfl nd (kpi_tup K (pe_ix (kix_tup K) (pv 8) pe_int (fun _ _ => rfl))) (blkOk_by (by rfl)) (fun _ _ _ _ _ => (pg_name (i := 16) nd rfl (.inl rfl))) (fun _ _ _ _ _ => (pts_one (PW.pt (pw_and (pt_cmpR op_ne (pv 16) pe_str (nomark _)) (pw_and1 (pt_cmpR (kop_notIn K) (pv 16) (pv 4) (by rfl))))))) (fun _ _ _ _ _ => (pv 16))) (pe_lst pa_nil) (nomark _))
            (pss_one (ps_expr (pe_bm PySem.F.plainAttrs_list PySem.F.slot_list_append PySem.F.type_list_append mt_append (pv 7) (pa_cons (pv 8) pa_nil))))
            pss_nil)))
        (pss_cons (ps_asg (pe_ix (kix_list K) (pv 7) (pe_def D__law_pick (hr.mono (by omega)) rfl (pa_cons (pv 0) (pa_cons (pe_callB (kcall_len K) (by rfl) T.m_len PySem.boot_len (pa_cons (pv 7) pa_nil)) pa_nil))) (fun _ _ => rfl)) (kpg_tup K (n := 5) rfl (pgs_cons (pg_name (i := 9) nd rfl (.inl rfl)) (pgs_cons (pg_name (i := 10) nd rfl (.inl rfl)) (pgs_cons (pg_name (i := 11) nd rfl (.inl rfl)) (pgs_cons (pg_name (i := 12) nd rfl (.inl rfl)) (pgs_cons (pg_name (i := 13) nd rfl (.inl rfl)) pgs_nil)))))))
        (pss_cons (ps_asg (pe_tup (pa_cons (pe_tup pa_nil) (pa_cons pe_int pa_nil))) (kpg_tup K (n := 2) rfl (pgs_cons (pg_name (i := 14) nd rfl (.inl rfl)) (pgs_cons (pg_name (i := 15) nd rfl (.inl rfl)) pgs_nil))))
        (pss_cons (ps_for PassesOwn.never rfl (kpi_tup K (pv 10)) (pg_name (i := 16) nd rfl (.inr rfl))
          (pss_one (ps_if (pt_cmpR op_eq (pv 16) pe_str (nomark _))
            (pss_one (ps_set (i := 14) nd rfl (.inl rfl) (pe_op (kop_catA K) (pv 14) (pe_tup (pa_cons (pe_ix (kix_list K) (pe_lst (pa_cons pe_int (pa_cons pe_int (pa_cons (pe_un un_neg pe_int) (pa_cons pe_int (pa_cons (pe_un un_neg pe_int) (pa_cons pe_int (pa_cons (pe_op op_add (pe_op op_pow pe_int pe_int) pe_int) (pa_cons (pe_un un_neg pe_int) pa_nil))))))))) (pe_def D__law_pick (hr.mono (by omega)) rfl (pa_cons (pv 0) (pa_cons pe_int pa_nil))) (fun _ _ => rfl)) pa_nil)))))
            (pss_cons (ps_setLc (i := 17) (own := [("at", 19)]) (g := gName 19) rfl nd rfl rfl (sw_true rfl rfl rfl (by decide +kernel)) (pi_range1 rfl T.m_range (pa_cons (pe_callB (kcall_len K) (by rfl) T.m_len PySem.boot_len (pa_cons (pv 4) pa_nil)) pa_nil)) (blkOk_by (by rfl)) (fun _ _ _ _ _ => (pg_name (i := 19) nd rfl (.inl rfl))) (fun _ _ _ _ _ => (pts_one (pt_cmpR op_eq (pe_ix (kix_list K) (pv 4) (pv 19) (fun _ _ => rfl)) (pv 16) (nomark _)))) (fun _ _ _ _ _ => (pv 19)))
            (pss_cons (ps_set (i := 18) nd rfl (.inl rfl) (pe_ix (kix_list K) (pv 17) (pe_def D__law_pick (hr.mono (by omega)) rfl (pa_cons (pv 0) (pa_cons (pe_callB (kcall_len K) (by rfl) T.m_len PySem.boot_len (pa_cons (pv 17) pa_nil)) pa_nil))) (fun _ _ => rfl)))
            (C8.pss_cut (ps_if (pt_cmpR op_gt (pe_ix (kix_list K) (pv 5) (pv 18) (fun _ _ => rfl)) pe_int (nomark _))
              (pss_one (ps_set (i := 18) nd rfl (.inl rfl) (pe_ix (kix_list K) (pv 17) pe_int (fun _ _ => rfl))))
              pss_nil)
            (pss_cons (ps_set (i := 14) nd rfl (.inl rfl) (pe_op (kop_catA K) (pv 14) (pe_tup (pa_cons (pv 18) pa_nil))))
            (pss_one (ps_set (i := 15) nd rfl (.inl rfl) (pe_op op_add (pv 15) (pe_ix (kix_list K) (pv 5) (pv 18) (fun _ _ => rfl))))))))))))
        (pss_cons (ps_set (i := 3) nd rfl (.inl rfl) (pe_op (kop_catA K) (pv 3) (pe_tup (pa_cons (pe_tup (pa_cons (pv 9) (pa_cons (pv 14) pa_nil))) pa_nil))))
        (pss_cons (ps_expr (pe_bm PySem.F.plainAttrs_list PySem.F.slot_list_append PySem.F.type_list_append mt_append (pv 4) (pa_cons (pv 11) pa_nil)))
        (pss_one (ps_expr (pe_bm PySem.F.plainAttrs_list PySem.F.slot_list_append PySem.F.type_list_append mt_append (pv 5) (pa_cons (pv 15) pa_nil))))))))))))
      (pss_one (ps_ret (pv 3))))), ?_⟩
    refine ⟨by show 0 ≤ sizeLine; decide, fun R0 hR0 => ⟨by show 0 ≤ sizeLine; decide, fun Md hMd => ⟨by show 0 ≤ sizeLine; decide, fun Sz hSz => ⟨by show 3 ≤ sizeLine; decide, fun Tp hTp => ?_⟩⟩⟩⟩
    have s1 := same_new (o := .tup []) hR0
    have s2 := same_new (o := .lst []) hMd
    have s3 := same_new (o := .lst []) hSz
    have s4 := same_new (o := .tup [.ref R0, .ref Md, .ref Sz]) hTp
    have eR := s4 _ _ (s3 _ _ (s2 _ _ (upd_same (H := H) (a := R0) (o := .tup []))))
    have eM := s4 _ _ (s3 _ _ (upd_same (H := upd H R0 (.tup [])) (a := Md) (o := .lst [])))
    have eS := s4 _ _ (upd_same (H := upd (upd H R0 (.tup [])) Md (.lst [])) (a := Sz) (o := .lst []))
    have sA := ((s1.trans s2).trans s3).trans s4
    have hM0 : H Md = none := s1.free hMd
    have hS0 : H Sz = none := (s1.trans s2).free hSz
    have nMS : Md ≠ Sz := ne_of_none (upd_same (H := upd H R0 (.tup [])) (a := Md) (o := .lst [])) hSz
    refine ⟨Tp, _, rfl, .of upd_same, rfl, .ref R0, _, rfl, .ref Md, _, rfl, .ref Sz, _, rfl, rfl, ?_⟩
    generalize upd (upd (upd (upd H R0 (.tup [])) Md (.lst [])) Sz (.lst [])) Tp (.tup [.ref R0, .ref Md, .ref Sz]) = H4 at *
    have nMc := u.ne hM0
    have nSc := u.ne hS0
    have iR : Im K H4 (.ref R0) (rwsD []) := .tup (.inl eR) .nil
    refine ⟨.int (many : Nat), rfl, (many : Nat), rfl, by omega, by omega, ?_⟩
    refine for_it (walk_range (lo := 0) (n := (many : Int).toNat)) (fun i σ Ha => ∃ (y6 y7 y8 y9 y10 y11 y12 y13 y14 y15 y16 y17 y18 : Option V) (R : Addr) (rows : List Rw) (sz : List Nat) (hd : List Str), σ = [some (.ref c), some v, some (.int (many : Nat)), some (.ref R), some (.ref Md), some (.ref Sz), y6, y7, y8, y9, y10, y11, y12, y13, y14, y15, y16, y17, y18, none] ∧ Sto Ha c ∧ But c H Ha ∧ Im K Ha (.ref R) (rwsD rows) ∧ Ha Md = some (.lst (hd.map V.str)) ∧ Ha Sz = some (.lst (sz.map fun n : Nat => V.int (n : Nat))) ∧ RG ks rows sz hd ∧ rows.length = i) ⟨_, _, _, _, _, _, _, _, _, _, _, _, _, R0, [], [], [], rfl, u.same sA, but_same sA, iR, eM, eS, ⟨⟨rfl, rfl, fun s h => by simp at h, fun t h e => by simp at e, fun t r e => by simp at e⟩, Grow.nil _, fun x h => by simp at h⟩, rfl⟩ (fun _ _ _ _ _ => trivial) ?_ ?_
    · rintro i x σ Ha Hb hi ⟨y6, y7, y8, y9, y10, y11, y12, y13, y14, y15, y16, y17, y18, R, rows, sz, hd, rfl, ua, ba, iR, eM, eS, rg, li⟩ ⟨rfl, rfl⟩
      rw [Int.toNat_natCast] at hi
      have l1 := rg.rs.lsz
      have l2 := rg.rs.lhd
      have tA := ba.tk u
      refine ⟨by show 0 ≤ sizeLine; decide, fun Ab hAb => ?_⟩
      have sAb := same_new (o := .lst []) hAb
      have eAb : (upd Hb Ab (.lst [])) Ab = some (.lst []) := upd_same
      have nAc := ua.ne hAb
      have nMA : Md ≠ Ab := ne_of_none eM hAb
      have nSA : Sz ≠ Ab := ne_of_none eS hAb
      generalize upd Hb Ab (.lst []) = H5 at *
      refine ⟨v, rfl, v, ks, rfl, Im.mono (tA.trans (tk_same sAb)) _ iv, ok, fun D ws H6 s6 hD eD imD => ⟨D, rfl, ⟨_, .of eD⟩, ?_⟩⟩
      have nDA : D ≠ Ab := (ne_of_none eAb hD).symm
      have eAb6 := s6 _ _ eAb
      have lws : ws.length = (mrs ks).length := all_len imD
      have few : (mrs ks).length ≤ 6 * ks.length := mrs_few ok ks.length (Nat.le_refl _)
      have k3 := sm.k3
      refine for_it (walk_list (xs := ws)) (fun j σ Hx => ∃ (y8 y9 y10 y11 y12 y13 y14 y15 y16 y17 y18 : Option V) (as : List V) (ab : List MR), σ = [some (.ref c), some v, some (.int (many : Nat)), some (.ref R), some (.ref Md), some (.ref Sz), some (.int (0 + (i : Nat))), some (.ref Ab), y8, y9, y10, y11, y12, y13, y14, y15, y16, y17, y18, none] ∧ Bar' Ab H6 Hx ∧ Hx Ab = some (.lst as) ∧ ImAll K Hx as (ab.map mrDt) ∧ (∀ r ∈ ab, r ∈ mrs ks ∧ Able hd r.2.1) ∧ (∀ r ∈ (mrs ks).take j, Able hd r.2.1 → ab ≠ []) ∧ ab.length ≤ j) ⟨_, _, _, _, _, _, _, _, _, _, _, [], [], rfl, fun b o _ e => e, eAb6, .nil, fun r h => by simp at h, fun r h => by simp at h, Nat.le_refl _⟩ (fun j σ Hx _ z => ?_) ?_ ?_
      · obtain ⟨_, _, _, _, _, _, _, _, _, _, _, _, _, _, bar, _⟩ := z
        exact .of (bar _ _ nDA eD)
      · rintro j x σ Hx Hy hj ⟨y8, y9, y10, y11, y12, y13, y14, y15, y16, y17, y18, as, ab, rfl, bar, eAx, imA, abm, abn, abl⟩ ⟨rfl, hxj⟩
        have tbar : TK H6 Hy := fun b xs e => bar b _ (fun z => by subst z; rw [eAb6] at e; cases e) e
        obtain ⟨r, hr1, ir⟩ := all_get (ImAll.mono tbar _ imD) hxj
        have hrm := List.mem_of_getElem? hr1
        obtain ⟨k0, kd0, m0, mk0, hk0, hm0, er⟩ := mrs_mem.mp hrm
        obtain ⟨pr, w1, w2, w3, w4, w5, rfl, hpr, j1, j2, j3, j4, j5⟩ := im_five ir
        obtain ⟨pf, fx, rfl, hpf, hfx⟩ := j2.tuple_inv
        obtain rfl := im_strs hfx
        have f4 : r.2.1.length ≤ 4 := by
          rw [er]
          exact (ok.mkk _ (List.mem_of_getElem? hk0) _ (List.mem_of_getElem? hm0)).2
        have fok : ∀ f ∈ r.2.1, f = ("number" : Str) ∨ f ∈ ks.map (·.1) := by
          rw [er]
          exact ok.flds _ (List.mem_of_getElem? hk0) _ (List.mem_of_getElem? hm0)
        have eMy : Hy Md = some (.lst (hd.map V.str)) := bar _ _ nMA (s6 _ _ (sAb _ _ eM))
        refine ⟨.ref pr, rfl, pr, _, 1, _, rfl, rfl, hpr.sq, atI_nat (j := 1) rfl, pf, rfl, ⟨_, hpf.sq⟩, fun W hW => ?_⟩
        have nAW : Ab ≠ W := ne_of_none eAx hW
        refine lc_it (walk_tup (xs := r.2.1.map V.str)) (fun s Hz => Same Hy Hz ∧ Hz W = some (.lst ((lackS hd (r.2.1.take s)).map V.str))) ⟨same_new hW, upd_same⟩ (fun s Hz _ z => (hpf.mono (tk_same z.1)).sq) (fun s y Hz Hw hs z yy => ?_) (fun Hz z => ?_)
        · obtain ⟨sz1, eW⟩ := z
          obtain ⟨rfl, hys⟩ := yy
          rw [List.getElem?_map] at hys
          obtain ⟨f, hf, rfl⟩ := Option.map_eq_some_iff.mp hys
          have tf : lackS hd (r.2.1.take (s + 1)) = lackS hd (r.2.1.take s) ++ lackS hd [f] := by
            unfold lackS
            rw [List.take_add_one, hf, List.filter_append]; rfl
          refine ⟨rfl, .str f, rfl, rfl, _, rfl, ?_⟩
          rw [dec_str]
          by_cases h1 : f = ("number" : Str)
          · rw [decide_eq_true h1]
            refine iteF (iteF ⟨sz1, ?_⟩)
            rw [eW, tf, show lackS hd [f] = [] by unfold lackS; simp [h1], List.append_nil]
          · rw [decide_eq_false h1]
            refine iteT ⟨.str f, rfl, .ref Md, rfl, Md, _, rfl, .inl (.of (sz1 _ _ eMy)), rfl, flat_strs' _, _, rfl, ?_⟩
            rw [inV_strs]
            by_cases h2 : f ∈ hd
            · rw [decide_eq_true h2]
              refine iteF ⟨sz1, ?_⟩
              rw [eW, tf, show lackS hd [f] = [] by unfold lackS; simp [h2], List.append_nil]
            · rw [decide_eq_false h2]
              refine iteT ⟨.str f, rfl, _, eW, small1000 ?_, fun b o e => ?_, ?_⟩
              · rw [List.length_map]
                unfold lackS
                exact Nat.le_trans (List.length_filter_le ..) (by rw [List.length_take]; omega)
              · rw [upd_ne (ne_of_none e hW)]; exact sz1 _ _ e
              · rw [upd_same, tf, show lackS hd [f] = [f] by unfold lackS; simp [h1, h2], List.map_append]; rfl
        · obtain ⟨sz1, eW⟩ := z
          rw [List.length_map, List.take_of_length_le (Nat.le_refl _)] at eW
          refine ⟨by show 0 ≤ sizeLine; decide, fun E2 hE2 => ?_⟩
          have sE2 := same_new (o := .lst []) hE2
          refine ⟨_, _, .lst (.of (sE2 _ _ eW)) (dp_strs _), .lst (.of upd_same) .nil, shaped_strs _ (fun f hf => ?_), shaped_ints [], ?_⟩
          · unfold lackS at hf
            have h := (List.mem_filter.mp hf)
            have h2 := h.2
            simp only [Bool.and_eq_true, decide_eq_true_eq] at h2
            obtain ⟨kz, hkz, ekz⟩ := List.mem_map.mp ((fok f h.1).resolve_left h2.1)
            rw [← ekz]
            exact name_strOk (ok.nm kz hkz).1
          rw [eqv_strs_nil]
          have sB := sz1.trans sE2
          have eAw := sB _ _ eAx
          have imA2 := ImAll.mono (tk_same sB) _ imA
          have ir2 := Im.mono (tk_same sB) _ ir
          generalize upd Hz E2 (.lst []) = Hw at *
          have bw : Bar' Ab H6 Hw := fun b o nb e => sB _ _ (bar b o nb e)
          have las : as.length = ab.length := all_len imA
          refine ⟨(lackS hd r.2.1).isEmpty, rfl, ?_⟩
          have tk1 : ∀ r' ∈ (mrs ks).take (j + 1), r' ∈ (mrs ks).take j ∨ r' = r := fun r' h' => by
            rw [List.take_add_one, hr1] at h'
            rcases List.mem_append.mp h' with h' | h'
            · exact .inl h'
            · exact .inr (List.mem_singleton.mp h')
          cases hb : (lackS hd r.2.1).isEmpty with
          | true =>
            refine iteT ⟨.ref Ab, rfl, .inl ⟨rfl, _, .of eAw⟩, .ref pr, rfl, Ab, _, _, rfl, rfl, eAw, small1000 (by omega), ?_⟩
            refine ⟨_, _, _, _, _, _, _, _, _, _, _, _, ab ++ [r], rfl, fun b o nb e => ?_, upd_same, ?_, fun r' h' => ?_, fun r' _ _ z => ?_, by rw [List.length_append]; exact Nat.succ_le_succ abl⟩
            · rw [upd_ne nb]; exact bw b o nb e
            · rw [List.map_append]
              exact (ImAll.mono (tk_lst eAw) _ imA2).snoc (Im.mono (tk_lst eAw) _ ir2)
            · rcases List.mem_append.mp h' with h' | h'
              · exact abm r' h'
              · rw [List.mem_singleton.mp h']; exact ⟨hrm, lack_nil.mp hb⟩
            · simp at z
          | false =>
            refine iteF ⟨_, _, _, _, _, _, _, _, _, _, _, as, ab, rfl, bw, eAw, imA2, abm, fun r' h' ha => ?_, by omega⟩
            rcases tk1 r' h' with h' | rfl
            · exact abn r' h' ha
            · rw [lack_nil.mpr ha] at hb; cases hb
      · rintro σ H7 ⟨y8, y9, y10, y11, y12, y13, y14, y15, y16, y17, y18, as, ab, rfl, bar, eA7, imA, abm, abn, abl⟩
        have las : as.length = ab.length := all_len imA
        have b67 : But c Hb H7 := fun b o nb e => bar b o (ne_of_none e hAb) (s6 _ _ (sAb _ _ e))
        have u7 : Sto H7 c := by
          obtain ⟨g, h, h1, r⟩ := ua.ex
          exact ⟨g, h, bar _ _ nAc.symm (s6 _ _ (sAb _ _ h1)), r⟩
        have apos : 0 < ab.length := by
          obtain ⟨kd0, hk0⟩ : ∃ kd0, ks[0]? = some kd0 := ⟨_, List.getElem?_eq_getElem (by omega)⟩
          obtain ⟨m0, hm0, hf0⟩ := sm.leaf kd0 hk0
          obtain ⟨mi, hmi⟩ := List.getElem?_of_mem hm0
          have hmem : (m0.1, m0.2, kd0.1, 0, mi) ∈ mrs ks := mrs_mem.mpr ⟨0, kd0, mi, m0, hk0, hmi, rfl⟩
          have := abn _ (by rw [lws, List.take_of_length_le (Nat.le_refl _)]; exact hmem) (fun f hf => .inl (hf0 f hf))
          exact List.length_pos_iff.mpr this
        refine ⟨.ref Ab, rfl, .ref c, rfl, .ref Ab, rfl, Ab, _, rfl, .inl (.of eA7), c, (as.length : Nat), rfl, u7, by omega, fun pk H8 pkl u8 b8 => ?_⟩
        obtain ⟨r, hr1⟩ : ∃ r, ab[pk]? = some r := ⟨_, List.getElem?_eq_getElem (by omega)⟩
        obtain ⟨hrm, able⟩ := abm r (List.mem_of_getElem? hr1)
        obtain ⟨x, ex, ir⟩ := all_at (ImAll.mono (b8.tk u7) _ imA) hr1
        obtain ⟨k0, kd, m0, mk, hk0, hm0, rfl⟩ := mrs_mem.mp hrm
        obtain ⟨pr, w1, w2, w3, w4, w5, rfl, hpr, j1, j2, j3, j4, j5⟩ := im_five ir
        obtain rfl := j1.str_inv
        obtain rfl := j3.str_inv
        obtain rfl := j4.int_inv
        obtain rfl := j5.int_inv
        obtain ⟨pf, fx, rfl, hpf, hfx⟩ := j2.tuple_inv
        obtain rfl := im_strs hfx
        have kmem := List.mem_of_getElem? hk0
        have f3 : mk.2.length ≤ 3 := sm.fld _ kmem _ (List.mem_of_getElem? hm0)
        dsimp only at able hpf hpr
        refine ⟨Ab, as, _, .ref pr, rfl, rfl, .of (b8 _ _ nAc eA7), atI_nat ex, pr, _, rfl, hpr.sq, rfl, .str mk.1, _, rfl, .ref pf, _, rfl, .str kd.1, _, rfl, .int (k0 : Nat), _, rfl, .int (m0 : Nat), _, rfl, rfl, ?_⟩
        refine ⟨by show 0 ≤ sizeLine; decide, fun E0 hE0 => ⟨by show 2 ≤ sizeLine; decide, fun E1 hE1 => ?_⟩⟩
        have sE0 := same_new (o := .tup []) hE0
        have sE1 := same_new (o := .tup [.ref E0, .int 1]) hE1
        have iE : Im K (upd (upd H8 E0 (.tup [])) E1 (.tup [.ref E0, .int 1])) (.ref E0) (.tuple (([] : List Int).map PyData.int)) := Im.mono (tk_same sE1) _ (.tup (.inl upd_same) .nil)
        refine ⟨E1, _, rfl, .of upd_same, rfl, .ref E0, _, rfl, .int 1, _, rfl, rfl, ?_⟩
        have u9 := (u8.same sE0).same sE1
        have b9 := (b67.trans b8).trans (but_same (sE0.trans sE1))
        have hpf9 := hpf.mono (tk_same (sE0.trans sE1))
        generalize upd (upd H8 E0 (.tup [])) E1 (.tup [.ref E0, .int 1]) = H9 at *
        have eM9 := b9 _ _ nMc eM
        have eS9 := b9 _ _ nSc eS
        refine ⟨.ref pf, rfl, pf, rfl, ⟨_, hpf9.sq⟩, ?_⟩
        refine for_it (walk_tup (xs := mk.2.map V.str)) (fun s σ Hx => ∃ (y16 y17 y18 : Option V) (E : Addr) (es : List Int) (size : Nat), σ = [some (.ref c), some v, some (.int (many : Nat)), some (.ref R), some (.ref Md), some (.ref Sz), some (.int (0 + (i : Nat))), some (.ref Ab), y8, some (.str mk.1), some (.ref pf), some (.str kd.1), some (.int (k0 : Nat)), some (.int (m0 : Nat)), some (.ref E), some (.int (size : Nat)), y16, y17, y18, none] ∧ Sto Hx c ∧ But c H9 Hx ∧ Im K Hx (.ref E) (.tuple (es.map PyData.int)) ∧ es.length = s ∧ size = 1 + costI (ks.map (·.1)) sz (mk.2.take s) es ∧ size ≤ 1 + s * chb (dK (ks.map (·.1)) hd) ∧ ∀ (y : Nat) f e, mk.2[y]? = some f → es[y]? = some e → EntOk ks rows f e) ⟨_, _, _, E0, [], 1, rfl, u9, .refl _ _, iE, rfl, by simp [costI], by omega, fun y f e _ h => by simp at h⟩ (fun s σ Hx _ z => ?_) ?_ ?_
        · obtain ⟨_, _, _, _, _, _, _, _, bx, _⟩ := z
          exact (hpf9.mono (bx.tk u9)).sq
        · rintro s x σ Hx Hy hs ⟨y16, y17, y18, E, es, size, rfl, ux, bx, iEx, le, hsz, hsl, hent⟩ ⟨rfl, hxs⟩
          rw [List.getElem?_map] at hxs
          obtain ⟨f, hf, rfl⟩ := Option.map_eq_some_iff.mp hxs
          rw [List.length_map] at hs
          have tf : mk.2.take (s + 1) = mk.2.take s ++ [f] := by rw [List.take_add_one, hf]; rfl
          have ltf : (mk.2.take s).length = s := by rw [List.length_take]; omega
          obtain ⟨pE, ex', epE, hpE, hex⟩ := iEx.tuple_inv
          cases epE
          obtain rfl := im_ints hex
          refine ⟨.str f, rfl, rfl, _, rfl, ?_⟩
          rw [dec_str]
          by_cases hnum : f = ("number" : Str)
          · rw [decide_eq_true hnum]
            have hnin : f ∉ ks.map (·.1) := by rw [hnum]; exact num_not ok
            refine iteT ⟨.ref E, rfl, _, rfl, _, rfl, _, _, rfl, rfl, ⟨by decide, by decide, by decide⟩, _, _, rfl, rfl, _, rfl, by show 8 ≤ sizeLine; decide, fun L hL => ?_⟩
            have nLc := ux.ne hL
            refine ⟨.ref c, rfl, c, 8, rfl, ux.same (same_new hL), by decide, fun z H10 z8 u10 b10 => ?_⟩
            have eL := b10 _ _ nLc upd_same
            have b10' : But c Hy H10 := (but_same (same_new hL)).trans b10
            obtain ⟨t, ht, et⟩ : ∃ t : Int, t.natAbs ≤ 2000000000 ∧ atI [V.int 0, V.int 1, V.int (-1), V.int 2, V.int (-3), V.int 5, V.int (10 ^ (9 : Int).toNat + 7), V.int (-40)] (z : Nat) = some (V.int t) := by
              have h : z = 0 ∨ z = 1 ∨ z = 2 ∨ z = 3 ∨ z = 4 ∨ z = 5 ∨ z = 6 ∨ z = 7 := by omega
              rcases h with rfl | rfl | rfl | rfl | rfl | rfl | rfl | rfl <;> exact ⟨_, by decide, rfl⟩
            refine ⟨L, _, _, .int t, rfl, rfl, .of eL, et, by show 1 ≤ sizeLine; decide, fun T hT => ?_⟩
            have sT := same_new (o := .tup [V.int t]) hT
            have tg := (b10'.tk ux).trans (tk_same sT)
            refine cat_any (hpE.mono tg) (.inl upd_same) (by rw [List.length_map, List.length_singleton]; omega) fun p H11 s11 ip => ?_
            refine ⟨_, _, _, p, es ++ [t], size, rfl, (u10.same sT).same s11, (bx.trans b10').trans (but_same (sT.trans s11)), .tup ip ?_, by rw [List.length_append, le]; rfl, ?_, ?_, fun y g e hg he => ?_⟩
            · rw [← show List.map V.int (es ++ [t]) = List.map V.int es ++ [V.int t] from List.map_append]
              exact ints_im _
            · rw [tf, cost_snoc (by omega), if_neg hnin, hsz]; rfl
            · exact Nat.le_trans hsl (by rw [Nat.succ_mul]; omega)
            · rcases get_snoc he with he | ⟨hy, rfl⟩
              · exact hent y g e hg he
              · rw [hy, le, hf] at hg
                obtain rfl := Option.some.inj hg
                exact ⟨fun z => absurd z hnin, fun _ => ht⟩
          · rw [decide_eq_false hnum]
            have hin : f ∈ ks.map (·.1) := (ok.flds kd kmem mk (List.mem_of_getElem? hm0) f (List.mem_of_getElem? hf)).resolve_left hnum
            have hhd : f ∈ hd := (able f (List.mem_of_getElem? hf)).resolve_left hnum
            have eMy := bx _ _ nMc eM9
            have eSy := bx _ _ nSc eS9
            refine iteF ⟨.ref Md, rfl, Md, _, rfl, .inl (.of eMy), ((hd.map V.str).length : Nat), rfl, by rw [List.length_map]; omega, by rw [List.length_map]; omega, fun D hD => ?_⟩
            refine lc_it (walk_range (lo := 0) (n := (((hd.map V.str).length : Nat) : Int).toNat)) (fun a Hz => Same Hy Hz ∧ Hz D = some (.lst ((plc hd f a).map fun n : Nat => V.int (n : Nat)))) ⟨same_new hD, upd_same⟩ (fun _ _ _ _ => trivial) (fun a y Hz Hw ha z yy => ?_) (fun Hz z => ?_)
            · obtain ⟨sz1, eD⟩ := z
              obtain ⟨rfl, rfl⟩ := yy
              rw [Int.toNat_natCast, List.length_map] at ha
              have k0' : ((0 : Int) + (a : Nat)) = ((a : Nat) : Int) := by omega
              have hg := List.getElem?_eq_getElem ha
              generalize hd[a] = g at hg
              refine ⟨rfl, .ref Md, rfl, .int _, rfl, Md, _, _, .str g, rfl, rfl, .of (sz1 _ _ eMy), by rw [k0']; exact atI_nat (by rw [List.getElem?_map, hg]; rfl), .str f, rfl, rfl, _, rfl, ?_⟩
              rw [dec_str, plc_succ hg]
              by_cases h : g = f
              · rw [decide_eq_true h, if_pos h]
                refine iteT ⟨.int _, rfl, _, eD, small1000 ?_, fun b o e => ?_, ?_⟩
                · rw [List.length_map]
                  unfold plc
                  exact Nat.le_trans (List.length_filter_le ..) (by rw [List.length_range]; omega)
                · rw [upd_ne (ne_of_none e hD)]; exact sz1 _ _ e
                · rw [upd_same, List.map_append, k0']; rfl
              · rw [decide_eq_false h, if_neg h, List.append_nil]
                exact iteF ⟨sz1, eD⟩
            · obtain ⟨sz1, eD⟩ := z
              rw [Int.toNat_natCast, List.length_map] at eD
              have uz := ux.same sz1
              have ppos : 0 < (plc hd f hd.length).length := List.length_pos_of_mem (plc_mem.mpr ⟨List.idxOf_lt_length_of_mem hhd, by rw [List.getElem?_eq_getElem (List.idxOf_lt_length_of_mem hhd)]; exact congrArg some (List.getElem_idxOf (List.idxOf_lt_length_of_mem hhd))⟩)
              have pmany : (plc hd f hd.length).length ≤ 90 := by
                unfold plc
                exact Nat.le_trans (List.length_filter_le ..) (by rw [List.length_range]; omega)
              have nDc := ux.ne hD
              refine ⟨.ref D, rfl, .ref c, rfl, .ref D, rfl, D, _, rfl, .inl (.of eD), c, (((plc hd f hd.length).length : Nat) : Int), by rw [List.length_map]; rfl, uz, by omega, fun z H10 zl u10 b10 => ?_⟩
              have eD10 := b10 _ _ nDc eD
              have hp := List.getElem?_eq_getElem (show z < (plc hd f hd.length).length by omega)
              have hpm := List.getElem_mem (show z < (plc hd f hd.length).length by omega)
              generalize (plc hd f hd.length)[z] = pz at hp hpm
              have hpz := (plc_mem.mp hpm)
              have b10' : But c Hy H10 := (but_same sz1).trans b10
              have eM10 := b10' _ _ nMc eMy
              have eS10 := b10' _ _ nSc eSy
              have dpos := dK_pos (ns := ks.map (·.1)) hin hhd
              refine ⟨D, _, _, .int (pz : Nat), rfl, rfl, .of eD10, atI_nat (by rw [List.getElem?_map, hp]; rfl), ?_⟩
              refine ⟨fun σ' H' => H' = H10 ∧ ∃ p' : Nat, σ' = [some (.ref c), some v, some (.int (many : Nat)), some (.ref R), some (.ref Md), some (.ref Sz), some (.int (0 + (i : Nat))), some (.ref Ab), y8, some (.str mk.1), some (.ref pf), some (.str kd.1), some (.int (k0 : Nat)), some (.int (m0 : Nat)), some (.ref E), some (.int (size : Nat)), some (.str f), some (.ref D), some (.int (p' : Nat)), none] ∧ hd[p']? = some f ∧ sz.getD p' 0 ≤ chb (dK (ks.map (·.1)) hd), ?_, ?_⟩
              · have hz := List.getElem?_eq_getElem (show pz < sz.length by omega)
                have egz : sz.getD pz 0 = sz[pz] := getD_some hz
                refine ⟨.ref Sz, rfl, .int (pz : Nat), rfl, Sz, _, _, .int ((sz[pz] : Nat) : Int), rfl, rfl, .of eS10, atI_nat (by rw [List.getElem?_map, hz]; rfl), _, _, rfl, rfl, _, rfl, ?_⟩
                by_cases h4 : ((sz[pz] : Nat) : Int) > 4
                · rw [decide_eq_true h4]
                  have h0 := plc_head hhd
                  refine iteT ⟨.ref D, rfl, D, _, _, .int ((hd.idxOf f : Nat) : Int), rfl, rfl, .of eD10, atI_nat (j := 0) (by rw [List.getElem?_map, h0]; rfl), rfl, hd.idxOf f, rfl, ?_, chb_ge dpos (.inr (rg.gr f hhd))⟩
                  rw [List.getElem?_eq_getElem (List.idxOf_lt_length_of_mem hhd)]
                  exact congrArg some (List.getElem_idxOf (List.idxOf_lt_length_of_mem hhd))
                · rw [decide_eq_false h4]
                  exact iteF ⟨rfl, pz, rfl, hpz.2, chb_ge dpos (.inl (by omega))⟩
              · rintro σ' H' ⟨rfl, p', rfl, hp1, hp2⟩
                have lp : p' < hd.length := (List.getElem?_eq_some_iff.mp hp1).1
                have hz := List.getElem?_eq_getElem (show p' < sz.length by omega)
                have egz : sz.getD p' 0 = sz[p'] := getD_some hz
                refine ⟨.ref E, rfl, .int (p' : Nat), rfl, by show 1 ≤ sizeLine; decide, fun T hT => ?_⟩
                have sT := same_new (o := .tup [V.int (p' : Nat)]) hT
                have tg := (b10'.tk ux).trans (tk_same sT)
                refine cat_any (hpE.mono tg) (.inl upd_same) (by rw [List.length_map, List.length_singleton]; omega) fun p H11 s11 ip => ?_
                refine ⟨.int (size : Nat), rfl, .ref Sz, rfl, .int (p' : Nat), rfl, Sz, _, _, .int ((sz[p'] : Nat) : Int), rfl, rfl, .of (s11 _ _ (sT _ _ eS10)), atI_nat (by rw [List.getElem?_map, hz]; rfl), _, _, rfl, rfl, ?_⟩
                refine ⟨_, _, _, p, es ++ [(p' : Int)], size + sz[p'], rfl, (u10.same sT).same s11, (bx.trans b10').trans (but_same (sT.trans s11)), .tup ip ?_, by rw [List.length_append, le]; rfl, ?_, ?_, fun y g e hg he => ?_⟩
                · rw [← show List.map V.int (es ++ [(p' : Int)]) = List.map V.int es ++ [V.int p'] from List.map_append]
                  exact ints_im _
                · rw [tf, cost_snoc (by omega), if_pos hin, hsz, Int.toNat_natCast, egz, Nat.add_assoc]
                · rw [Nat.succ_mul, ← egz]; omega
                · rcases get_snoc he with he | ⟨hy, rfl⟩
                  · exact hent y g e hg he
                  · rw [hy, le, hf] at hg
                    obtain rfl := Option.some.inj hg
                    exact ⟨fun _ => ⟨p', rfl, by omega, rg.rs.hdk p' _ hp1⟩, fun z => absurd hin z⟩
        · rintro σ Hx ⟨y16, y17, y18, E, es, size, rfl, ux, bx, iEx, le, hsz, hsl, hent⟩
          rw [List.length_map] at le hsl hsz
          rw [List.take_of_length_le (Nat.le_refl _)] at hsz
          have BH := ba.trans (b9.trans bx)
          obtain ⟨pR, rx, epR, hpR, hrx⟩ := iR.tuple_inv
          cases epR
          have lrx : rx.length = rows.length := all_len hrx
          refine ⟨.ref R, rfl, .str mk.1, rfl, .ref E, rfl, by show 2 ≤ sizeLine; decide, fun P1 hP1 => ⟨by show 1 ≤ sizeLine; decide, fun P2 hP2 => ?_⟩⟩
          have sP1 := same_new (o := .tup [V.str mk.1, .ref E]) hP1
          have sP2 := same_new (o := .tup [V.ref P1]) hP2
          have iP1 : Im K (upd Hx P1 (.tup [V.str mk.1, .ref E])) (.ref P1) (rwD (mk.1, es)) := .tup (.inl upd_same) (.cons (.str _) (.cons (Im.mono (tk_new hP1) _ iEx) .nil))
          have tg := (((b9.trans bx).tk ua).trans (tk_same sP1)).trans (tk_same sP2)
          refine cat_any (hpR.mono tg) (.inl upd_same) (by rw [List.length_singleton]; omega) fun p H11 s11 ip => ?_
          have sP := (sP1.trans sP2).trans s11
          have eMf := sP _ _ (bx _ _ nMc eM9)
          have eSf := sP _ _ (bx _ _ nSc eS9)
          have iRf : Im K H11 (.ref p) (rwsD (rows ++ [(mk.1, es)])) := by
            refine .tup ip ?_
            rw [List.map_append]
            exact ImAll.app (ImAll.mono (tg.trans (tk_same s11)) _ hrx) (.cons (Im.mono ((tk_same sP2).trans (tk_same s11)) _ iP1) .nil)
          have u11 := ux.same sP
          have B11 := BH.trans (but_same sP)
          clear hrx iP1 tg ip s11 sP2 sP1 sP hP1 hP2
          refine ⟨.ref Md, rfl, .inl ⟨rfl, _, .of eMf⟩, .str kd.1, rfl, Md, _, _, rfl, rfl, eMf, small1000 (by rw [List.length_map]; omega), ?_⟩
          have eSf2 : (upd H11 Md (.lst (hd.map V.str ++ [V.str kd.1]))) Sz = some (.lst (sz.map fun n : Nat => V.int (n : Nat))) := by rw [upd_ne (Ne.symm nMS)]; exact eSf
          have eMf2 : (upd H11 Md (.lst (hd.map V.str ++ [V.str kd.1]))) Md = some (.lst ((hd ++ [kd.1]).map V.str)) := by rw [upd_same, List.map_append]; rfl
          have iRf2 := Im.mono (tk_lst (o := .lst (hd.map V.str ++ [V.str kd.1])) eMf) _ iRf
          have u12 : Sto (upd H11 Md (.lst (hd.map V.str ++ [V.str kd.1]))) c := u11.upd nMc
          have B12 : But c H (upd H11 Md (.lst (hd.map V.str ++ [V.str kd.1]))) := fun b o nb e => by rw [upd_ne (ne_of_none e hM0)]; exact B11 b o nb e
          generalize upd H11 Md (.lst (hd.map V.str ++ [V.str kd.1])) = H12 at *
          refine ⟨.ref Sz, rfl, .inl ⟨rfl, _, .of eSf2⟩, .int (size : Nat), rfl, Sz, _, _, rfl, rfl, eSf2, small1000 (by rw [List.length_map]; omega), ?_⟩
          have c3 : chb (dK (ks.map (·.1)) hd) ≤ 40 := chb_le _
          have s3' : size ≤ 1 + 3 * chb (dK (ks.map (·.1)) hd) := Nat.le_trans hsl (Nat.add_le_add_left (Nat.mul_le_mul f3 (Nat.le_refl _)) 1)
          refine ⟨_, _, _, _, _, _, _, _, _, _, _, _, _, p, rows ++ [(mk.1, es)], sz ++ [size], hd ++ [kd.1], rfl, u12.upd nSc, fun b o nb e => ?_, Im.mono (tk_lst eSf2) _ iRf2, ?_, ?_, ⟨rg.rs.snoc ok hk0 hm0 le hent hsz (by omega), rg.gr.snoc (by omega) (by rw [List.length_map]; exact k3) (List.mem_map.mpr ⟨kd, kmem, rfl⟩) s3', fun x hx => ?_⟩, by rw [List.length_append, li]; rfl⟩
          · rw [upd_ne (ne_of_none e hS0)]; exact B12 b o nb e
          · rw [upd_ne nMS]; exact eMf2
          · rw [upd_same, List.map_append]; rfl
          · rcases List.mem_append.mp hx with hx | hx
            · exact rg.inn x hx
            · rw [List.mem_singleton.mp hx]; exact List.mem_map.mpr ⟨kd, kmem, rfl⟩
    · rintro σ Ha ⟨y6, y7, y8, y9, y10, y11, y12, y13, y14, y15, y16, y17, y18, R, rows, sz, hd, rfl, ua, ba, iR, eM, eS, rg, li⟩
      rw [Int.toNat_natCast] at li
      exact ⟨.ref R, rfl, q R rows sz hd Ha ua ba iR rg li⟩
end
end K63

set_option Elab.async false
set_option linter.all false
set_option maxRecDepth 100000
set_option exponentiation.threshold 20000
set_option pp.deepTerms false
set_option pp.deepTerms.threshold 8
namespace K63
open PySem PySem.Spec PyProof.Rows L2 Ly Mt
/-! ### weights -/
def wts : List (Int × Int) := [(1, 1), (1, 1), (-1, 1), (2, 1), (-1, 1), (1, 2), (-3, 2), (5, 3), (7, 1), (1000000000001, 1), (-2, 1)]
def wD (w : Int × Int) : PyData := .tuple [.int w.1, .int w.2]
def Wt (q : Rat) : Prop := q ≠ 0 ∧ ∃ t : Int, q * 6 = (t : Rat) ∧ t.natAbs ≤ 1000000000001 * 6
theorem wts_data : ∀ w ∈ wts, (Rat.divInt w.1 w.2).num = w.1 ∧ ((Rat.divInt w.1 w.2).den : Int) = w.2 := by decide +kernel
theorem wts_ok : ∀ w ∈ wts, Rat.divInt w.1 w.2 ≠ 0 ∧ Rat.divInt w.1 w.2 * 6 = ((w.1 * (6 / w.2) : Int) : Rat) ∧ (w.1 * (6 / w.2)).natAbs ≤ 1000000000001 * 6 := by decide +kernel
theorem wts_rat {w : Int × Int} (h : w ∈ wts) : wD w = rD (Rat.divInt w.1 w.2) ∧ Wt (Rat.divInt w.1 w.2) := by
  obtain ⟨a, b⟩ := wts_data w h
  obtain ⟨c, d, e⟩ := wts_ok w h
  refine ⟨?_, c, _, d, e⟩
  unfold wD rD
  rw [a, b]
section
variable {P : Program} {w : World} {K : PySem.W.Frag} {mg : Str → Option Value} {base : Heap}
abbrev s__law_weight : Stmt := topS 65
theorem sc__law_weight : FnScope ["store", "some"] ["store"] (defScope s__law_weight) := ⟨rfl, rfl, rfl, by decide +kernel, rfl, by decide +kernel, by decide +kernel⟩
def sp_weight (K : PySem.W.Frag) : Sp := fun vs H Q _ => ∃ (c : Addr), vs = [.ref c] ∧ Sto H c ∧ ∀ p q H', Sto H' c → But c H H' → Im K H' (.ref p) (rD q) → Wt q → Q (.ref p) H'
set_option maxHeartbeats 1000000 in
theorem ok__law_weight {f : Addr} {fd : FuncData} {k : Nat} (F : Fun K "_law_weight" "_law_weight" s__law_weight f fd) (T : Tx K mg){k1 : Nat} (D__law_pick : Def P w K mg base k1 "_law_pick" s__law_pick ["store", "many"] sp_pick) (e1 : k1 ≤ k) : FnOk P w K mg base CX0 (k + 1) f fd ["store"] (sp_weight K) := by
  have nd := sc__law_weight.nd
  refine F.ok sc__law_weight (fun vs H Q E h => ?_) (fun cdv A outer s H vs Q E hr h => ?_)
  · obtain ⟨_, rfl, _⟩ := h
    rfl
  · obtain ⟨c, rfl, u, q⟩ := h
    refine ⟨_, (pss_cons (ps_set (i := 1) nd rfl (.inl rfl) (pe_lst (pa_cons (pe_tup (pa_cons pe_int (pa_cons pe_int pa_nil))) (pa_cons (pe_tup (pa_cons pe_int (pa_cons pe_int pa_nil))) (pa_cons (pe_tup (pa_cons (pe_un un_neg pe_int) (pa_cons pe_int pa_nil))) (pa_cons (pe_tup (pa_cons pe_int (pa_cons pe_int pa_nil))) (pa_cons (pe_tup (pa_cons (pe_un un_neg pe_int) (pa_cons pe_int pa_nil))) (pa_cons (pe_tup (pa_cons pe_int (pa_cons pe_int pa_nil))) (pa_cons (pe_tup (pa_cons (pe_un un_neg pe_int) (pa_cons pe_int pa_nil))) (pa_cons (pe_tup (pa_cons pe_int (pa_cons pe_int pa_nil))) (pa_cons (pe_tup (pa_cons pe_int (pa_cons pe_int pa_nil))) (pa_cons (pe_tup (pa_cons (pe_op op_add (pe_op op_pow pe_int pe_int) pe_int) (pa_cons pe_int pa_nil))) (pa_cons (pe_tup (pa_cons (pe_un un_neg pe_int) (pa_cons pe_int pa_nil))) pa_nil)))))))))))))
      (pss_one (ps_ret (pe_ix (kix_list K) (pv 1) (pe_def D__law_pick (hr.mono (by omega)) rfl (pa_cons (pv 0) (pa_cons pe_int pa_nil))) (fun _ _ => rfl))))), ?_⟩
    refine ⟨by show 2 ≤ sizeLine; decide, fun T1 h1 => ?_⟩
    have s1 := same_new (o := .tup [.int (1), .int 1]) h1
    have i1 : Im K (upd H T1 (.tup [.int (1), .int 1])) (.ref T1) (wD wts[0]) := .tup (.inl upd_same) (.cons (.int _) (.cons (.int _) .nil))
    have a1 : ImAll K _ [V.ref T1] ((wts.take 1).map wD) := .cons i1 .nil
    generalize upd H T1 (.tup [.int (1), .int 1]) = G1 at *
    clear h1
    refine ⟨by show 2 ≤ sizeLine; decide, fun T2 h2 => ?_⟩
    have s2 := same_new (o := .tup [.int (1), .int 1]) h2
    have i2 : Im K (upd G1 T2 (.tup [.int (1), .int 1])) (.ref T2) (wD wts[1]) := .tup (.inl upd_same) (.cons (.int _) (.cons (.int _) .nil))
    have a2 : ImAll K _ [V.ref T1, V.ref T2] ((wts.take 2).map wD) := (ImAll.mono (tk_same s2) _ a1).snoc i2
    have z2 := s1.trans s2
    clear a1 s2 i2 s1 i1
    generalize upd G1 T2 (.tup [.int (1), .int 1]) = G2 at *
    clear h2
    refine ⟨_, rfl, by show 2 ≤ sizeLine; decide, fun T3 h3 => ?_⟩
    have s3 := same_new (o := .tup [.int (-1), .int 1]) h3
    have i3 : Im K (upd G2 T3 (.tup [.int (-1), .int 1])) (.ref T3) (wD wts[2]) := .tup (.inl upd_same) (.cons (.int _) (.cons (.int _) .nil))
    have a3 : ImAll K _ [V.ref T1, V.ref T2, V.ref T3] ((wts.take 3).map wD) := (ImAll.mono (tk_same s3) _ a2).snoc i3
    have z3 := z2.trans s3
    clear a2 s3 i3 z2
    generalize upd G2 T3 (.tup [.int (-1), .int 1]) = G3 at *
    clear h3
    refine ⟨by show 2 ≤ sizeLine; decide, fun T4 h4 => ?_⟩
    have s4 := same_new (o := .tup [.int (2), .int 1]) h4
    have i4 : Im K (upd G3 T4 (.tup [.int (2), .int 1])) (.ref T4) (wD wts[3]) := .tup (.inl upd_same) (.cons (.int _) (.cons (.int _) .nil))
    have a4 : ImAll K _ [V.ref T1, V.ref T2, V.ref T3, V.ref T4] ((wts.take 4).map wD) := (ImAll.mono (tk_same s4) _ a3).snoc i4
    have z4 := z3.trans s4
    clear a3 s4 i4 z3
    generalize upd G3 T4 (.tup [.int (2), .int 1]) = G4 at *
    clear h4
    refine ⟨_, rfl, by show 2 ≤ sizeLine; decide, fun T5 h5 => ?_⟩
    have s5 := same_new (o := .tup [.int (-1), .int 1]) h5
    have i5 : Im K (upd G4 T5 (.tup [.int (-1), .int 1])) (.ref T5) (wD wts[4]) := .tup (.inl upd_same) (.cons (.int _) (.cons (.int _) .nil))
    have a5 : ImAll K _ [V.ref T1, V.ref T2, V.ref T3, V.ref T4, V.ref T5] ((wts.take 5).map wD) := (ImAll.mono (tk_same s5) _ a4).snoc i5
    have z5 := z4.trans s5
    clear a4 s5 i5 z4
    generalize upd G4 T5 (.tup [.int (-1), .int 1]) = G5 at *
    clear h5
    refine ⟨by show 2 ≤ sizeLine; decide, fun T6 h6 => ?_⟩
    have s6 := same_new (o := .tup [.int (1), .int 2]) h6
    have i6 : Im K (upd G5 T6 (.tup [.int (1), .int 2])) (.ref T6) (wD wts[5]) := .tup (.inl upd_same) (.cons (.int _) (.cons (.int _) .nil))
    have a6 : ImAll K _ [V.ref T1, V.ref T2, V.ref T3, V.ref T4, V.ref T5, V.ref T6] ((wts.take 6).map wD) := (ImAll.mono (tk_same s6) _ a5).snoc i6
    have z6 := z5.trans s6
    clear a5 s6 i6 z5
    generalize upd G5 T6 (.tup [.int (1), .int 2]) = G6 at *
    clear h6
    refine ⟨_, rfl, by show 2 ≤ sizeLine; decide, fun T7 h7 => ?_⟩
    have s7 := same_new (o := .tup [.int (-3), .int 2]) h7
    have i7 : Im K (upd G6 T7 (.tup [.int (-3), .int 2])) (.ref T7) (wD wts[6]) := .tup (.inl upd_same) (.cons (.int _) (.cons (.int _) .nil))
    have a7 : ImAll K _ [V.ref T1, V.ref T2, V.ref T3, V.ref T4, V.ref T5, V.ref T6, V.ref T7] ((wts.take 7).map wD) := (ImAll.mono (tk_same s7) _ a6).snoc i7
    have z7 := z6.trans s7
    clear a6 s7 i7 z6
    generalize upd G6 T7 (.tup [.int (-3), .int 2]) = G7 at *
    clear h7
    refine ⟨by show 2 ≤ sizeLine; decide, fun T8 h8 => ?_⟩
    have s8 := same_new (o := .tup [.int (5), .int 3]) h8
    have i8 : Im K (upd G7 T8 (.tup [.int (5), .int 3])) (.ref T8) (wD wts[7]) := .tup (.inl upd_same) (.cons (.int _) (.cons (.int _) .nil))
    have a8 : ImAll K _ [V.ref T1, V.ref T2, V.ref T3, V.ref T4, V.ref T5, V.ref T6, V.ref T7, V.ref T8] ((wts.take 8).map wD) := (ImAll.mono (tk_same s8) _ a7).snoc i8
    have z8 := z7.trans s8
    clear a7 s8 i8 z7
    generalize upd G7 T8 (.tup [.int (5), .int 3]) = G8 at *
    clear h8
    refine ⟨by show 2 ≤ sizeLine; decide, fun T9 h9 => ?_⟩
    have s9 := same_new (o := .tup [.int (7), .int 1]) h9
    have i9 : Im K (upd G8 T9 (.tup [.int (7), .int 1])) (.ref T9) (wD wts[8]) := .tup (.inl upd_same) (.cons (.int _) (.cons (.int _) .nil))
    have a9 : ImAll K _ [V.ref T1, V.ref T2, V.ref T3, V.ref T4, V.ref T5, V.ref T6, V.ref T7, V.ref T8, V.ref T9] ((wts.take 9).map wD) := (ImAll.mono (tk_same s9) _ a8).snoc i9
    have z9 := z8.trans s9
    clear a8 s9 i9 z8
    generalize upd G8 T9 (.tup [.int (7), .int 1]) = G9 at *
    clear h9
    refine ⟨_, _, rfl, rfl, ⟨by decide, by decide, by decide⟩, _, _, rfl, rfl, by show 2 ≤ sizeLine; decide, fun T10 h10 => ?_⟩
    have s10 := same_new (o := .tup [.int (10 ^ (12 : Int).toNat + 1), .int 1]) h10
    have i10 : Im K (upd G9 T10 (.tup [.int (10 ^ (12 : Int).toNat + 1), .int 1])) (.ref T10) (wD wts[9]) := .tup (.inl upd_same) (.cons (.int _) (.cons (.int _) .nil))
    have a10 : ImAll K _ [V.ref T1, V.ref T2, V.ref T3, V.ref T4, V.ref T5, V.ref T6, V.ref T7, V.ref T8, V.ref T9, V.ref T10] ((wts.take 10).map wD) := (ImAll.mono (tk_same s10) _ a9).snoc i10
    have z10 := z9.trans s10
    clear a9 s10 i10 z9
    generalize upd G9 T10 (.tup [.int (10 ^ (12 : Int).toNat + 1), .int 1]) = G10 at *
    clear h10
    refine ⟨_, rfl, by show 2 ≤ sizeLine; decide, fun T11 h11 => ?_⟩
    have s11 := same_new (o := .tup [.int (-2), .int 1]) h11
    have i11 : Im K (upd G10 T11 (.tup [.int (-2), .int 1])) (.ref T11) (wD wts[10]) := .tup (.inl upd_same) (.cons (.int _) (.cons (.int _) .nil))
    have a11 : ImAll K _ [V.ref T1, V.ref T2, V.ref T3, V.ref T4, V.ref T5, V.ref T6, V.ref T7, V.ref T8, V.ref T9, V.ref T10, V.ref T11] ((wts.take 11).map wD) := (ImAll.mono (tk_same s11) _ a10).snoc i11
    have z11 := z10.trans s11
    clear a10 s11 i11 z10
    generalize upd G10 T11 (.tup [.int (-2), .int 1]) = G11 at *
    clear h11
    refine ⟨by show 11 ≤ sizeLine; decide, fun L hL => ?_⟩
    have sL := same_new (o := .lst [V.ref T1, V.ref T2, V.ref T3, V.ref T4, V.ref T5, V.ref T6, V.ref T7, V.ref T8, V.ref T9, V.ref T10, V.ref T11]) hL
    have eL : (upd G11 L (.lst [V.ref T1, V.ref T2, V.ref T3, V.ref T4, V.ref T5, V.ref T6, V.ref T7, V.ref T8, V.ref T9, V.ref T10, V.ref T11])) L = some (.lst [V.ref T1, V.ref T2, V.ref T3, V.ref T4, V.ref T5, V.ref T6, V.ref T7, V.ref T8, V.ref T9, V.ref T10, V.ref T11]) := upd_same
    have a12 := ImAll.mono (tk_same sL) _ a11
    have z12 := z11.trans sL
    have nL := (u.same z11).ne hL
    generalize upd G11 L (.lst [V.ref T1, V.ref T2, V.ref T3, V.ref T4, V.ref T5, V.ref T6, V.ref T7, V.ref T8, V.ref T9, V.ref T10, V.ref T11]) = G12 at *
    have u12 := u.same z12
    refine ⟨.ref L, rfl, .ref c, rfl, c, 11, rfl, u12, by decide, fun d H3 d11 u3 b3 => ?_⟩
    obtain ⟨ww, hw⟩ : ∃ ww, wts[d]? = some ww := ⟨_, List.getElem?_eq_getElem (show d < wts.length by show d < 11; omega)⟩
    have hm := List.mem_of_getElem? hw
    obtain ⟨x, ex, ix⟩ := all_at (f := wD) (l := wts) (ImAll.mono (b3.tk u12) _ a12) hw
    obtain ⟨pw, wx, rfl, hpw, hwx⟩ := ix.tuple_inv
    obtain ⟨r1, r2⟩ := wts_rat hm
    refine ⟨L, _, _, .ref pw, rfl, rfl, .of (b3 _ _ nL eL), atI_nat ex, q pw _ H3 u3 ((but_same z12).trans b3) ?_ r2⟩
    rw [← r1]
    exact ix
abbrev s__law_vector : Stmt := topS 66
theorem sc__law_vector : FnScope ["store", "size", "k"] ["store", "size"] (defScope s__law_vector) := ⟨rfl, rfl, rfl, by decide +kernel, rfl, by decide +kernel, by decide +kernel⟩
def sp_vector (K : PySem.W.Frag) : Sp := fun vs H Q _ => ∃ (c : Addr) (n : Nat), vs = [.ref c, .int (n : Nat)] ∧ n ≤ 100 ∧ Sto H c ∧ ∀ p r H', Sto H' c → But c H H' → Im K H' (.ref p) (vD r) → r.length = n → (∀ q ∈ r, q = 0 ∨ Wt q) → Q (.ref p) H'
set_option maxHeartbeats 1000000 in
theorem ok__law_vector {f : Addr} {fd : FuncData} {k : Nat} (F : Fun K "_law_vector" "_law_vector" s__law_vector f fd) (T : Tx K mg){k1 : Nat} (D__law_pick : Def P w K mg base k1 "_law_pick" s__law_pick ["store", "many"] sp_pick) {k2 : Nat} (D__law_weight : Def P w K mg base k2 "_law_weight" s__law_weight ["store"] (sp_weight K)) (e1 : k1 ≤ k) (e2 : k2 ≤ k) : FnOk P w K mg base CX0 (k + 1) f fd ["store", "size"] (sp_vector K) := by
  have nd := sc__law_vector.nd
  refine F.ok sc__law_vector (fun vs H Q E h => ?_) (fun cdv A outer s H vs Q E hr h => ?_)
  · obtain ⟨_, _, rfl, _⟩ := h
    rfl
  · obtain ⟨c, n, rfl, n1, u, q⟩ := h
    refine ⟨_, (pss_one (ps_ret (pe_callTy (kcall_tuple K) (by rfl) T.m_tuple (by decide +kernel) (pa_cons (pe_lc (own := [("k", 2)]) (g := gName 2) (tt := tYes) rfl nd (pi_range1 rfl T.m_range (pa_cons (pv 1) pa_nil)) (blkOk_by (by rfl)) (fun _ _ _ _ _ => (pg_name (i := 2) nd rfl (.inl rfl))) (fun _ _ _ _ _ => pts_nil) (fun _ _ _ _ _ => (pe_ifExp (pt_cmpR op_eq (pe_def D__law_pick (hr.mono (by omega)) rfl (pa_cons (pv 0) (pa_cons pe_int pa_nil))) pe_int (nomark _)) (pe_tup (pa_cons pe_int (pa_cons pe_int pa_nil))) (pe_def D__law_weight (hr.mono (by omega)) rfl (pa_cons (pv 0) pa_nil))))) pa_nil)))), ?_⟩
    refine ⟨.int (n : Nat), rfl, (n : Nat), rfl, by omega, by omega, fun D hD => ?_⟩
    have nDc := u.ne hD
    refine lc_all (walk_range (lo := 0) (n := (n : Int).toNat)) (fun i Hx => Sto Hx c ∧ But c H Hx ∧ ∃ (ws : List V) (r : List Rat), Hx D = some (.lst ws) ∧ ImAll K Hx ws (r.map rD) ∧ r.length = i ∧ ∀ q ∈ r, q = 0 ∨ Wt q) ⟨u.same (same_new hD), but_same (same_new hD), [], [], upd_same, .nil, rfl, fun q hq => by simp at hq⟩ (fun _ _ _ _ => trivial) (fun i x Hx Hy hi z y => ?_) (fun Hx z => ?_)
    · obtain ⟨ux, bx, ws, r, eD, im, lr, rw0⟩ := z
      obtain ⟨rfl, rfl⟩ := y
      rw [Int.toNat_natCast] at hi
      have lw : ws.length = r.length := all_len im
      have fin : ∀ (pq : Addr) (qq : Rat) (H9 : Hp), Sto H9 c → But c Hy H9 → Im K H9 (.ref pq) (rD qq) → (qq = 0 ∨ Wt qq) → ∃ acc, H9 D = some (.lst acc) ∧ acc.length < sizeLine ∧ Sto (upd H9 D (.lst (acc ++ [.ref pq]))) c ∧ But c H (upd H9 D (.lst (acc ++ [.ref pq]))) ∧ ∃ (ws : List V) (r : List Rat), (upd H9 D (.lst (acc ++ [.ref pq]))) D = some (.lst ws) ∧ ImAll K (upd H9 D (.lst (acc ++ [.ref pq]))) ws (r.map rD) ∧ r.length = i + 1 ∧ ∀ q ∈ r, q = 0 ∨ Wt q := fun pq qq H9 u9 b9 i9 w9 => by
        have e9 := b9 _ _ nDc eD
        refine ⟨ws, e9, small1000 (by omega), u9.upd nDc, fun b o nb e => ?_, _, r ++ [qq], upd_same, ?_, by rw [List.length_append, lr]; rfl, fun q hq => (List.mem_append.mp hq).elim (rw0 q) fun h => by rw [List.mem_singleton.mp h]; exact w9⟩
        · rw [upd_ne (ne_of_none e hD)]; exact b9 _ _ nb (bx _ _ nb e)
        · rw [List.map_append]
          exact (ImAll.mono ((b9.tk ux).trans (tk_lst e9)) _ im).snoc (Im.mono (tk_lst e9) _ i9)
      refine ⟨rfl, ?_⟩
      refine ⟨.ref c, rfl, c, 3, rfl, ux, by decide, fun d H3 d3 u3 b3 => ⟨rfl, _, rfl, ?_⟩⟩
      by_cases h : V.int (d : Nat) = V.int 0
      · rw [decide_eq_true h]
        refine iteT ⟨by show 2 ≤ sizeLine; decide, fun T hT => ?_⟩
        exact fin T 0 _ (u3.same (same_new hT)) (b3.trans (but_same (same_new hT))) (.tup (.inl upd_same) (.cons (.int _) (.cons (.int _) .nil))) (.inl rfl)
      · rw [decide_eq_false h]
        exact iteF ⟨.ref c, rfl, c, rfl, u3, fun p qq H4 u4 b4 i4 w4 => fin p qq H4 u4 (b3.trans b4) i4 (.inr w4)⟩
    · obtain ⟨ux, bx, ws, r, eD, im, lr, rw0⟩ := z
      rw [Int.toNat_natCast] at lr
      refine ⟨D, _, rfl, .inl ⟨.of eD, fun l hl => ?_⟩⟩
      exact q l r _ (ux.same (same_new hl)) (bx.trans (but_same (same_new hl))) (.tup (.inl upd_same) (ImAll.mono (tk_new hl) _ im)) lr rw0
end
end K63

set_option Elab.async false
set_option linter.all false
set_option maxRecDepth 100000
/-! sorted of a list of data -/
namespace SrtO
open PySem PySem.W PySem.Calls PyProof.Rows Srt
theorem perm_small {α : Type} : ∀ {l m : List α}, l.Perm m → m.length ≤ 1 → l = m
  | _, [], p, _ => List.perm_nil.mp p
  | _, [_], p, _ => List.perm_singleton.mp p
  | _, _ :: _ :: _, _, h => by simp at h
theorem sorted_one {prog : Program} {w : World} {A : Around} {E : Value → Shared → Prop} {s : Shared} {l : Addr} {vs : List Value} {Q : Value → Shared → Prop} (O : Swo fun (_ _ : Value) => false) (hl : s.heap.IsList l vs.toArray) (hz : vs.length ≤ sizeLine) (h1 : vs.length ≤ 1)
    (h : ∀ (h' : Heap) (d : Addr), s.heap.objs.size ≤ d → (∀ b o, s.heap.get? b = some o → h'.get? b = some o) → (∃ n, h'.get? d = some (seqObj "list" vs.toArray n)) → Q (.ref d) { s with heap := h' }) : wpAny (model prog w) A (call (.builtin "sorted") [.ref l]) Q E s := by
  refine sorted_ord O hl hz (fun h2 => by omega) fun out hs hb => ?_
  have e : out = vs := perm_small hb.perm h1
  rw [e]
  exact h _ _ (Nat.le_succ _) (fun b o e => sortedAll_old e) (sortedAll_at s.heap vs vs.toArray)
end SrtO
namespace Ly
open PySem PySem.Spec PyProof.Rows L2
def sortedOf (xs : List V) (bs : List PyData) : List (V × PyData) := (xs.zip bs).mergeSort (PySem.W.dataLe false fun x : V × PyData => x.2)
def rSortD (K : PySem.W.Frag) : List V → Hp → VK → Prop := fun vs H Q => ∃ (a : Addr) (xs : List V) (bs : List PyData), vs = [.ref a] ∧ SqL K H a xs ∧ ImAll K H xs bs ∧ PySem.W.AllAlike bs ∧ (PySem.W.Sortable bs ∨ bs.length ≤ 1) ∧ (∀ d ∈ bs, d.depth ≤ 8) ∧
  ∀ p, H p = none → Q (.ref p) (upd H p (.lst ((sortedOf xs bs).map (·.1))))
theorem zip_snd {xs : List V} {bs : List PyData} (h : xs.length = bs.length) : (xs.zip bs).map (fun x : V × PyData => x.2) = bs := by
  rw [List.map_snd_zip]
  omega
theorem kcr_sortedD {X : Cx} (K : PySem.W.Frag) (hu : X.A.units + 20 < cLine) (eK : X.K = K := by rfl) : CallR X (.builtin "sorted") (rSortD K) := by
  subst eK
  intro pins s σ H vs us Q I r q
  obtain ⟨a, xs, bs, rfl, hs, im, al, so, dp, q⟩ := q
  obtain ⟨its, rv, hl, hz⟩ := I.list hs
  rw [Vals.ref1 r]
  have l1 : xs.length = bs.length := im.length
  have lv : xs.length = its.length := rv.length
  have ez : (xs.zip bs).length = xs.length := by rw [List.length_zip]; omega
  have E1 : PySem.W.EachIs (fun (v : Value) (b : V × PyData) => RelV b.1 v ∧ ∃ as, Reads s.heap v b.2 as) its (xs.zip bs) := each_of (by omega) fun i v b h1 h2 => by
    rw [List.getElem?_zip_eq_some] at h2
    obtain ⟨h3, h4⟩ := h2
    obtain ⟨u, h5, h6⟩ := rv.get h3
    rw [h1] at h5
    obtain rfl := Option.some.inj h5
    obtain ⟨x, h7, h8⟩ := im.get h4
    rw [h3] at h7
    obtain rfl := Option.some.inj h7
    exact ⟨h6, Dp.reads I b.2 b.1 v (Im.dp _ h8) h6⟩
  rcases so with so | so
  rotate_left
  · have lv1 : its.length ≤ 1 := by omega
    have sw : SrtO.Swo (fun (_ _ : Value) => false) := ⟨fun _ _ h => Bool.noConfusion h, fun _ _ _ _ _ => rfl⟩
    refine SrtO.sorted_one sw hl.isList (by rw [← lv]; exact hz) lv1 fun h' d hd kp hn => ?_
    obtain ⟨n, hn⟩ := hn
    have eq : sortedOf xs bs = xs.zip bs := by
      unfold sortedOf
      match h : xs.zip bs with
      | [] => exact List.mergeSort_nil
      | [a] => exact List.mergeSort_singleton a
      | a :: b :: r => rw [h] at ez; simp at ez; omega
    have em : (sortedOf xs bs).map (·.1) = xs := by
      rw [eq, List.map_fst_zip]
      omega
    refine ⟨.ref d, upd H d (.lst ((sortedOf xs bs).map (·.1))), I.laid (t' := s.toks) kp hd ⟨?_, its, n, by rw [em]; exact rv, hn⟩, rfl, q _ (I.hok.fresh hd)⟩
    rw [em]; exact hz
  refine PySem.W.sorted_data (R := fun (v : Value) (b : V × PyData) => RelV b.1 v) (enc := fun b : V × PyData => b.2) (vs := its) (bs := xs.zip bs) hl.isList (E1.mono fun _ _ h => h.1) (E1.mono fun _ _ h => h.2) (by rw [zip_snd l1]; exact al) (by rw [zip_snd l1]; exact so) (by rw [ez]; exact hz) (fun b hb => ?_) fun out ho eo => ?_
  · have : b.2 ∈ bs := by rw [← zip_snd l1]; exact List.mem_map.mpr ⟨b, hb, rfl⟩
    have := dp _ this
    omega
  · have vo : Vals ((sortedOf xs bs).map (·.1)) out := by
      clear ho
      show Vals (((xs.zip bs).mergeSort (PySem.W.dataLe false fun b : V × PyData => b.2)).map (·.1)) out
      generalize (xs.zip bs).mergeSort (PySem.W.dataLe false fun b : V × PyData => b.2) = L at eo
      induction eo with
      | nil => exact .nil
      | cons h _ ih => exact .cons h ih
    obtain ⟨n, hn⟩ := sortedAll_at s.heap its out.toArray
    refine ⟨.ref (s.heap.objs.size + 1), upd H (s.heap.objs.size + 1) (.lst ((sortedOf xs bs).map (·.1))), I.laid (t' := s.toks) (fun b o e => sortedAll_old e) (Nat.le_succ _) ⟨?_, out, n, vo, hn⟩, rfl, q _ (I.hok.fresh (Nat.le_succ _))⟩
    unfold sortedOf
    rw [List.length_map, List.length_mergeSort, ez]
    exact hz
/-- what the sorted list holds -/
theorem sortedOf_perm (xs : List V) (bs : List PyData) : (sortedOf xs bs).Perm (xs.zip bs) := List.mergeSort_perm _ _
theorem sortedOf_im {K : PySem.W.Frag} {H : Hp} {xs : List V} {bs : List PyData} (im : ImAll K H xs bs) : ImAll K H ((sortedOf xs bs).map (·.1)) ((sortedOf xs bs).map (·.2)) := by
  have h : ∀ b ∈ sortedOf xs bs, Im K H b.1 b.2 := fun b hb => by
    have := (sortedOf_perm xs bs).mem_iff.mp hb
    obtain ⟨i, hi⟩ := List.getElem?_of_mem this
    rw [List.getElem?_zip_eq_some] at hi
    obtain ⟨x, h1, h2⟩ := im.get hi.2
    rw [hi.1] at h1
    obtain rfl := Option.some.inj h1
    exact h2
  generalize sortedOf xs bs = L at h
  induction L with
  | nil => exact .nil
  | cons b L ih => exact .cons (h b (List.mem_cons_self ..)) (ih fun c hc => h c (List.mem_cons_of_mem _ hc))
theorem sortedOf_data {xs : List V} {bs : List PyData} (e : xs.length = bs.length) : ((sortedOf xs bs).map (·.2)).Perm bs := by
  have := (sortedOf_perm xs bs).map (fun x : V × PyData => x.2)
  rwa [zip_snd e] at this
theorem sortedOf_asc (xs : List V) (bs : List PyData) : ((sortedOf xs bs).map (·.2)).Pairwise fun x y => PySem.W.dataLt y x = false := by
  have tl := PySem.W.sortLe_total (PyProof.Rows.listOrd PyProof.Rows.itemOrd) false fun x : V × PyData => PySem.W.keyToks x.2
  have pw := List.pairwise_mergeSort tl.trans (fun a b => by rw [Bool.or_eq_true]; exact tl.total a b) (xs.zip bs)
  rw [List.pairwise_map]
  refine List.Pairwise.imp (fun {a b} h => ?_) pw
  have : (!PySem.W.dataLt b.2 a.2) = true := h
  simpa using this
end Ly

set_option Elab.async false
set_option linter.all false
set_option maxRecDepth 100000
set_option exponentiation.threshold 20000
set_option pp.deepTerms false
set_option pp.deepTerms.threshold 8
namespace K63
open PySem PySem.Spec PyProof.Rows L2 Ly Mt
/-! ### keys of terms, in order -/
def nlt : List Nat → List Nat → Bool
  | x :: a, y :: b => decide (x < y) || (decide (x = y) && nlt a b)
  | _, _ => false
theorem lex_int (x y : Nat) (r t : List (Int ⊕ List Nat)) (b : Bool) (h : PyProof.Rows.lexLt PyProof.Rows.itemOrd r t = b) : PyProof.Rows.lexLt PyProof.Rows.itemOrd (Sum.inl (x : Int) :: r) (Sum.inl (y : Int) :: t) = (decide (x < y) || (decide (x = y) && b)) := by
  rw [PyProof.Rows.lex_cons, h]
  show (decide ((x : Int) < y) || (!decide ((y : Int) < x) && b)) = _
  by_cases h1 : x < y
  · rw [decide_eq_true h1, decide_eq_true (show (x : Int) < y by omega)]; rfl
  · rw [decide_eq_false h1, decide_eq_false (show ¬ (x : Int) < y by omega)]
    by_cases h2 : x = y
    · rw [decide_eq_true h2, decide_eq_false (show ¬ (y : Int) < x by omega)]; rfl
    · rw [decide_eq_false h2, decide_eq_true (show (y : Int) < x by omega)]; rfl
theorem lex_nats : ∀ (a b : List Nat), a.length = b.length → PyProof.Rows.lexLt PyProof.Rows.itemOrd (PySem.W.keyToksAll (a.map nD) ++ [Sum.inl 0]) (PySem.W.keyToksAll (b.map nD) ++ [Sum.inl 0]) = nlt a b
  | [], [], _ => rfl
  | x :: a, y :: b, h => by
    have ih := lex_nats a b (by simpa using h)
    show PyProof.Rows.lexLt PyProof.Rows.itemOrd (Sum.inl 1 :: (Sum.inl (x : Int) :: (PySem.W.keyToksAll (a.map nD) ++ [Sum.inl 0]))) (Sum.inl 1 :: (Sum.inl (y : Int) :: (PySem.W.keyToksAll (b.map nD) ++ [Sum.inl 0]))) = _
    rw [PyProof.Rows.lex_self]
    exact lex_int x y _ _ _ ih
def key (t : Tm) : List Nat := t.1 :: t.2.1
theorem lt_keyT {s t : Tm} (h : s.2.1.length = t.2.1.length) : PySem.W.dataLt (keyT s) (keyT t) = nlt (key s) (key t) := by
  show PyProof.Rows.lexLt PyProof.Rows.itemOrd (Sum.inl 1 :: (Sum.inl (s.1 : Int) :: (Sum.inl 1 :: (PySem.W.keyToksAll (s.2.1.map nD) ++ [Sum.inl 0])))) (Sum.inl 1 :: (Sum.inl (t.1 : Int) :: (Sum.inl 1 :: (PySem.W.keyToksAll (t.2.1.map nD) ++ [Sum.inl 0])))) = _
  rw [PyProof.Rows.lex_self]
  refine lex_int _ _ _ _ _ ?_
  rw [PyProof.Rows.lex_self]
  exact lex_nats _ _ h
theorem perm_map_inv {α β : Type} {f : α → β} {a b : List β} (h : a.Perm b) : ∀ l : List α, b = l.map f → ∃ m : List α, m.Perm l ∧ a = m.map f := by
  induction h with
  | nil =>
    intro l e
    have : l = [] := by simpa using e.symm
    subst this
    exact ⟨[], .refl _, rfl⟩
  | cons x _ ih =>
    intro l e
    cases l with
    | nil => simp at e
    | cons y l =>
      rw [List.map_cons] at e
      obtain ⟨e1, e2⟩ := List.cons.inj e
      obtain ⟨m, hm, rfl⟩ := ih l e2
      exact ⟨y :: m, hm.cons y, by rw [e1]; rfl⟩
  | swap x y t =>
    intro l e
    match l, e with
    | [], e => simp at e
    | [_], e => simp at e
    | a :: b :: l, e =>
      rw [List.map_cons, List.map_cons] at e
      obtain ⟨e1, e2⟩ := List.cons.inj e
      obtain ⟨e3, e4⟩ := List.cons.inj e2
      exact ⟨b :: a :: l, .swap a b l, by rw [e1, e3, e4]; rfl⟩
  | trans _ _ ih1 ih2 =>
    intro l e
    obtain ⟨m, hm, rfl⟩ := ih2 l e
    obtain ⟨m2, hm2, rfl⟩ := ih1 m rfl
    exact ⟨m2, hm2.trans hm, rfl⟩
def tNGetK (P : Program) (w : World) (K : PySem.W.Frag) (td ty : TE) : TE := fun σ H Q => td σ H fun x H1 => ty σ H1 fun y H2 => ∃ a xs k b v, x = .ref a ∧ rGetN P w K H2 a y xs k b ∧ valN xs k = some v ∧ Q (.ref v) H2
theorem kpe_nget {X : Cx} (P : Program) (w : World) (K : PySem.W.Frag) {o i : Expr} {pos : Pos} {td ty : TE} (hu : X.A.units + 10 < cLine) (ho : PE X o td) (hi : PE X i ty) (hs : NoSl i) (eP : X.prog = P := by rfl) (ew : X.w = w := by rfl) (eK : X.K = K := by rfl) : PE X (.Subscript o i pos) (tNGetK P w K td ty) := by
  subst eP ew eK
  exact pe_nget hu ho hi hs
theorem hu20 {A : Around} {k : Nat} (hr : Room k A) : A.units + 20 < cLine := by have := hr.units; omega
/-! ### keys of terms -/
def kOf (r : Nat) (cs : List Nat) : NestedKey := .tup [.num (r : Int), .tup (cs.map fun c : Nat => .num (c : Int))]
theorem kDs_nums : ∀ cs : List Nat, kDs (cs.map fun c : Nat => .num (c : Int)) = cs.map nD
  | [] => rfl
  | c :: cs => by
    show kD (.num (c : Int)) :: kDs _ = _
    rw [kDs_nums cs]; rfl
theorem kD_of (r : Nat) (cs : List Nat) (q : Rat) : kD (kOf r cs) = keyT (r, cs, q) := by
  show PyData.tuple [.int (r : Int), .tuple (kDs _)] = _
  rw [kDs_nums]; rfl
theorem nums_inj : ∀ {a b : List Nat}, (a.map fun c : Nat => NestedKey.num (c : Int)) = (b.map fun c : Nat => NestedKey.num (c : Int)) → a = b
  | [], [], _ => rfl
  | [], _ :: _, h => by simp at h
  | _ :: _, [], h => by simp at h
  | x :: a, y :: b, h => by
    rw [List.map_cons, List.map_cons] at h
    injection h with h1 h2
    injection h1 with h3
    rw [nums_inj h2, show x = y by omega]
theorem kOf_inj {r r' : Nat} {a b : List Nat} (h : kOf r a = kOf r' b) : r = r' ∧ a = b := by
  unfold kOf at h
  injection h with h
  injection h with h1 h2
  injection h1 with h1
  injection h2 with h2 _
  injection h2 with h2
  exact ⟨by omega, nums_inj h2⟩
theorem nums_depth : ∀ cs : List Nat, NestedKey.depthAll (cs.map fun c : Nat => .num (c : Int)) = 0
  | [] => by simp [NestedKey.depthAll]
  | c :: cs => by
    rw [List.map_cons]
    simp only [NestedKey.depthAll, NestedKey.depth]
    rw [nums_depth cs]; rfl
theorem kOf_depth (r : Nat) (cs : List Nat) : (kOf r cs).depth ≤ 8 := by
  unfold kOf
  simp only [NestedKey.depth, NestedKey.depthAll, nums_depth]
  decide
theorem nlt_total : ∀ {a b : List Nat}, a.length = b.length → nlt a b = false → nlt b a = false → a = b
  | [], [], _, _, _ => rfl
  | [], _ :: _, h, _, _ => by simp at h
  | _ :: _, [], h, _, _ => by simp at h
  | x :: a, y :: b, h, h1, h2 => by
    have h1' : (decide (x < y) || (decide (x = y) && nlt a b)) = false := h1
    have h2' : (decide (y < x) || (decide (y = x) && nlt b a)) = false := h2
    rw [Bool.or_eq_false_iff] at h1' h2'
    have e : x = y := by
      have := of_decide_eq_false h1'.1
      have := of_decide_eq_false h2'.1
      omega
    subst e
    rw [decide_eq_true rfl, Bool.true_and] at h1' h2'
    rw [nlt_total (by simpa using h) h1'.2 h2'.2]
theorem valN_some {xs : List NK} {k : NestedKey} {v : Addr} (h : valN xs k = some v) : ∃ x ∈ xs, x.1 = k ∧ x.2.2 = v := by
  unfold valN at h
  obtain ⟨x, hx, e⟩ := Option.map_eq_some_iff.mp h
  exact ⟨x, List.mem_of_find?_eq_some hx, of_decide_eq_true (List.find?_some (p := fun x : NK => decide (x.1 = k)) hx), e⟩
theorem valN_of {xs : List NK} (nd : (xs.map (·.1)).Nodup) {x : NK} (hx : x ∈ xs) : valN xs x.1 = some x.2.2 := by
  unfold valN
  cases e : xs.find? (fun y => decide (y.1 = x.1)) with
  | none =>
    have := List.find?_eq_none.mp e x hx
    exact absurd (decide_eq_true rfl) this
  | some y =>
    have h1 := List.mem_of_find?_eq_some e
    have h2 : y.1 = x.1 := of_decide_eq_true (List.find?_some (p := fun z : NK => decide (z.1 = x.1)) e)
    obtain ⟨i, hi⟩ := List.getElem?_of_mem h1
    obtain ⟨j, hj⟩ := List.getElem?_of_mem hx
    have g1 : (xs.map (·.1))[i]? = some y.1 := by rw [List.getElem?_map, hi]; rfl
    have g2 : (xs.map (·.1))[j]? = some x.1 := by rw [List.getElem?_map, hj]; rfl
    have hij := (List.getElem?_inj (List.getElem?_eq_some_iff.mp g1).1 nd).mp (g1.trans (by rw [h2]; exact g2.symm))
    subst hij
    rw [hi] at hj
    rw [Option.some.inj hj]; rfl
theorem valN_none {xs : List NK} {k : NestedKey} (h : valN xs k = none) : k ∉ xs.map (·.1) := fun z => by
  obtain ⟨x, hx, e⟩ := List.mem_map.mp z
  unfold valN at h
  rw [Option.map_eq_none_iff] at h
  have := List.find?_eq_none.mp h x hx
  exact this (decide_eq_true e)
theorem tk_ext {H : Hp} {p : Addr} {o : HO} {φ : Heap → Prop} (h : H p = some (.ext φ)) : TK H (upd H p o) := fun b ys e => by
  rw [upd_ne (fun z => by rw [z, h] at e; cases e)]; exact e
/-- the dict of terms as it is drawn -/
structure XI (K : PySem.W.Frag) (H : Hp) (dim : Nat) (ws : List Nat) (i : Nat) (xs : List NK) : Prop where
  keys : KeysIm K H xs
  nd : (xs.map (·.1)).Nodup
  few : xs.length ≤ i
  each : ∀ x ∈ xs, ∃ r cs q, x.1 = kOf r cs ∧ r < dim ∧ cs.length = ws.length ∧ (∀ (i c n : Nat), cs[i]? = some c → ws[i]? = some n → c < n) ∧ Im K H (.ref x.2.2) (rD q) ∧ Wt q
theorem XI.mono {K : PySem.W.Frag} {H H' : Hp} {dim : Nat} {ws : List Nat} {i : Nat} {xs : List NK} (h : XI K H dim ws i xs) (t : TK H H') : XI K H' dim ws i xs :=
  ⟨h.keys.mono t, h.nd, h.few, fun x hx => let ⟨r, cs, q, a, b, c, d, e, f⟩ := h.each x hx; ⟨r, cs, q, a, b, c, d, Im.mono t _ e, f⟩⟩
theorem XI.put {K : PySem.W.Frag} {H : Hp} {dim : Nat} {ws : List Nat} {i : Nat} {xs : List NK} (h : XI K H dim ws i xs) {r : Nat} {cs : List Nat} {q : Rat} {b v : Addr} (hr : r < dim) (hc : cs.length = ws.length) (hl : ∀ (i c n : Nat), cs[i]? = some c → ws[i]? = some n → c < n)
    (ib : Im K H (.ref b) (kD (kOf r cs))) (iv : Im K H (.ref v) (rD q)) (cf : Wt q) : XI K H dim ws (i + 1) (putN xs (kOf r cs) b v) := by
  have few := h.few
  refine ⟨putN_keys h.keys ib (kOf_depth r cs), ?_, Nat.le_trans (putN_length ..) (by omega), fun x hx => ?_⟩
  · unfold putN
    by_cases hs : (valN xs (kOf r cs)).isSome = true
    · rw [if_pos hs, List.map_map]
      have : (xs.map ((fun x : NK => x.1) ∘ fun x => if x.1 = kOf r cs then (x.1, x.2.1, v) else x)) = xs.map (·.1) := List.map_congr_left fun x _ => by
        show (if x.1 = kOf r cs then (x.1, x.2.1, v) else x).1 = x.1
        split <;> rfl
      rw [this]
      exact h.nd
    · rw [if_neg hs, List.map_append]
      have hn : valN xs (kOf r cs) = none := by simpa using hs
      refine List.nodup_append.mpr ⟨h.nd, List.pairwise_singleton _ _, fun a ha c hc e => ?_⟩
      have hc' : c = kOf r cs := List.mem_singleton.mp hc
      rw [e, hc'] at ha
      exact valN_none hn ha
  · unfold putN at hx
    split at hx
    · obtain ⟨y, hy, rfl⟩ := List.mem_map.mp hx
      obtain ⟨r', cs', q', a1, a2, a3, a4, a5, a6⟩ := h.each y hy
      split
      · exact ⟨r', cs', q, a1, a2, a3, a4, iv, cf⟩
      · exact ⟨r', cs', q', a1, a2, a3, a4, a5, a6⟩
    · rcases List.mem_append.mp hx with hx | hx
      · exact h.each x hx
      · rw [List.mem_singleton.mp hx]
        exact ⟨r, cs, q, rfl, hr, hc, hl, iv, cf⟩
theorem XI.alike {K : PySem.W.Frag} {H : Hp} {dim : Nat} {ws : List Nat} {n : Nat} {xs : List NK} (h : XI K H dim ws n xs) : PySem.W.AllAlike (xs.map fun x => kD x.1) := by
  intro a ha b hb
  obtain ⟨x, hx, rfl⟩ := List.mem_map.mp ha
  obtain ⟨y, hy, rfl⟩ := List.mem_map.mp hb
  obtain ⟨r, cs, _, e1, _⟩ := h.each x hx
  obtain ⟨r', cs', _, e2, _⟩ := h.each y hy
  rw [e1, e2, kD_of _ _ 0, kD_of _ _ 0]
  exact alike_keyT _ _
theorem XI.sortable {K : PySem.W.Frag} {H : Hp} {dim : Nat} {ws : List Nat} {n : Nat} {xs : List NK} (h : XI K H dim ws n xs) : PySem.W.Sortable (xs.map fun x => kD x.1) := by
  refine .inl fun a ha => ?_
  obtain ⟨x, hx, rfl⟩ := List.mem_map.mp ha
  obtain ⟨r, cs, _, e1, _⟩ := h.each x hx
  exact ⟨_, _, by rw [e1, kD_of _ _ 0]; rfl⟩
theorem XI.deep {K : PySem.W.Frag} {H : Hp} {dim : Nat} {ws : List Nat} {n : Nat} {xs : List NK} (h : XI K H dim ws n xs) : ∀ d ∈ xs.map (fun x => kD x.1), d.depth ≤ 8 := fun d hd => by
  obtain ⟨x, hx, rfl⟩ := List.mem_map.mp hd
  obtain ⟨r, cs, _, e1, _⟩ := h.each x hx
  rw [e1, kD_of _ _ 0]
  have := depth_nats cs
  show max 0 (max (PyData.depthAll (cs.map nD) + 1) 0) + 1 ≤ 8
  omega
/-- the keys in order -/
theorem XI.inorder {K : PySem.W.Frag} {H : Hp} {dim : Nat} {ws : List Nat} {n : Nat} {xs : List NK} (h : XI K H dim ws n xs) : ∃ ys : List NK, ys.Perm xs ∧ (sortedOf (xs.map fun x => V.ref x.2.1) (xs.map fun x => kD x.1)).map (·.1) = ys.map (fun x => V.ref x.2.1) ∧
    ys.Pairwise fun x y => ∀ r cs r' cs', x.1 = kOf r cs → y.1 = kOf r' cs' → nlt (r :: cs) (r' :: cs') = true := by
  have pz : (sortedOf (xs.map fun x => V.ref x.2.1) (xs.map fun x => kD x.1)).Perm (xs.map fun x => (V.ref x.2.1, kD x.1)) := by
    have := sortedOf_perm (xs.map fun x => V.ref x.2.1) (xs.map fun x => kD x.1)
    rwa [List.zip_map'] at this
  obtain ⟨ys, py, ey0⟩ := perm_map_inv pz xs rfl
  have ey := ey0.symm
  refine ⟨ys, py, ?_, ?_⟩
  · rw [← ey, List.map_map]; rfl
  · have asc := sortedOf_asc (xs.map fun x => V.ref x.2.1) (xs.map fun x => kD x.1)
    rw [← ey, List.map_map, List.pairwise_map] at asc
    have ndy : (ys.map (·.1)).Nodup := (py.map _).nodup_iff.mpr h.nd
    have ndy' := List.pairwise_map.mp ndy
    refine (List.Pairwise.and asc ndy').imp_of_mem fun {x y} hx hy hxy r cs r' cs' ex ey' => ?_
    obtain ⟨h1, h2⟩ := hxy
    obtain ⟨r1, c1, _, k1, _, l1, _⟩ := h.each x (py.mem_iff.mp hx)
    obtain ⟨r2, c2, _, k2, _, l2, _⟩ := h.each y (py.mem_iff.mp hy)
    obtain ⟨rfl, rfl⟩ := kOf_inj (ex.symm.trans k1)
    obtain ⟨rfl, rfl⟩ := kOf_inj (ey'.symm.trans k2)
    have lt0 : PySem.W.dataLt (kD y.1) (kD x.1) = false := h1
    rw [ex, ey', kD_of _ _ 0, kD_of _ _ 0, lt_keyT (by show cs'.length = cs.length; omega)] at lt0
    cases e : nlt (r :: cs) (r' :: cs') with
    | true => rfl
    | false =>
      have := nlt_total (a := r :: cs) (b := r' :: cs') (by simp; omega) e lt0
      injection this with t1 t2
      exact absurd (show x.1 = y.1 by rw [ex, ey', t1, t2]) h2
/-- the terms of a maker, drawn -/
structure Drn (dim : Nat) (ws : List Nat) (ts : List Tm) : Prop where
  ok : TermsOk dim ws 4000 ts
  few : ts.length ≤ 6
  wt : ∀ t ∈ ts, Wt t.2.2
theorem drn_mk {dim : Nat} {ws : List Nat} {ts : List Tm} (few : ts.length ≤ 6) (asc : ts.Pairwise fun a b => nlt (key a) (key b) = true) (each : ∀ t ∈ ts, TermOk dim ws t ∧ Wt t.2.2) : Drn dim ws ts := by
  refine ⟨⟨by omega, fun t ht => (each t ht).1, fun j a b ha hb => ?_⟩, few, fun t ht => (each t ht).2⟩
  obtain ⟨h1, e1⟩ := List.getElem?_eq_some_iff.mp ha
  obtain ⟨h2, e2⟩ := List.getElem?_eq_some_iff.mp hb
  have := List.pairwise_iff_getElem.mp asc j (j + 1) h1 h2 (by omega)
  rw [e1, e2] at this
  have la := (each a (List.mem_of_getElem? ha)).1.len
  have lb := (each b (List.mem_of_getElem? hb)).1.len
  rw [lt_keyT (by omega)]
  exact this
end K63

set_option Elab.async false
set_option linter.all false
set_option maxRecDepth 100000
set_option exponentiation.threshold 20000
set_option pp.deepTerms false
set_option pp.deepTerms.threshold 8
namespace K63
open PySem PySem.Spec PyProof.Rows L2 Ly Mt
/-- a form as it is drawn -/
structure Drf (F : Form) : Prop where
  ok : FormOk 1 F
  few : ∀ i j, (termsAt F i j).length ≤ 6
  wt : ∀ i j, ∀ t ∈ termsAt F i j, Wt t.2.2
  rw : ∀ r ∈ F.rds, ∀ q ∈ r.2.2, q = 0 ∨ Wt q
structure DimsOk (ks : List Kd) (ds : List Nat) : Prop where
  len : ds.length = ks.length
  d16 : ∀ d ∈ ds, d ≤ 16
  d3 : ∀ (j : Nat) d, ds[j]? = some d → 1 ≤ j → d ≤ 4
def CellD (ks : List Kd) (ds : List Nat) (i : Nat) (m : Mk) (ts : List Tm) : Prop := Drn (ds.getD i 0) (m.2.map (wd (ks.map (·.1)) ds)) ts
def RowD (ks : List Kd) (ds : List Nat) (i : Nat) (row : List (List Tm)) : Prop := ∀ kd, ks[i]? = some kd → row.length = kd.2.length ∧ ∀ (j : Nat) m ts, kd.2[j]? = some m → row[j]? = some ts → CellD ks ds i m ts
def tlsS (d : Nat) : List Str := ([["f", "g", "h"], ["r1", "r2", "r3"], ["a", "aa", "aaa"], ["xP0", "xQ0", "xR0"]] : List (List Str)).getD d []
def lowB (z : Str) : Bool := nameB z && (match z.cps[0]? with | some c => lowC c | none => false)
theorem lowB_ok {z : Str} (h : lowB z = true) : NameOk z ∧ ∃ c, z.cps[0]? = some c ∧ lowC c = true := by
  unfold lowB at h
  rw [Bool.and_eq_true] at h
  refine ⟨nameB_ok h.1, ?_⟩
  have h2 := h.2
  split at h2
  · next c e => exact ⟨c, e, h2⟩
  · simp at h2
theorem tls_low : ∀ d < 4, ∀ z ∈ tlsS d, lowB z = true := by decide +kernel
theorem tls_nd : ∀ d < 4, (tlsS d).Nodup := by decide +kernel
theorem tls_len : ∀ d < 4, (tlsS d).length = 3 := by decide +kernel
structure RdsD (ks : List Kd) (ds : List Nat) (d t : Nat) (rs : List Rd) : Prop where
  nm : rs.map (·.1) = (tlsS d).take t
  kind : ∀ r ∈ rs, r.2.1 ∈ ks.map (·.1) ∧ r.2.2.length = ds.getD ((ks.map (·.1)).idxOf r.2.1) 0
  wt : ∀ r ∈ rs, ∀ q ∈ r.2.2, q = 0 ∨ Wt q
theorem sum_dims : ∀ {ds : List Nat}, ds.length ≤ 3 → (∀ d ∈ ds, d ≤ 16) → (∀ (j : Nat) d, ds[j]? = some d → 1 ≤ j → d ≤ 4) → ds.sum ≤ 32
  | [], _, _, _ => by decide
  | [a], _, h, _ => by have := h a (by simp); simp; omega
  | [a, b], _, h, k => by have := h a (by simp); have := k 1 b rfl (by omega); simp; omega
  | [a, b, c], _, h, k => by have := h a (by simp); have := k 1 b rfl (by omega); have := k 2 c rfl (by omega); simp; omega
  | _ :: _ :: _ :: _ :: _, h, _, _ => by simp at h
theorem drf_mk {ks : List Kd} {ds : List Nat} {maps : List (List (List Tm))} {rs : List Rd} {d t : Nat} (ok : KindsOk ks) (k3 : ks.length ≤ 3) (dok : DimsOk ks ds) (lm : maps.length = ks.length) (hr : ∀ (i : Nat) row, maps[i]? = some row → RowD ks ds i row) (d4 : d < 4) (rd : RdsD ks ds d t rs) : Drf ⟨ks, ds, maps, rs⟩ := by
  have cell : ∀ i j ts, (maps.getD i []).getD j [] = ts → ts = [] ∨ ∃ kd m, ks[i]? = some kd ∧ kd.2[j]? = some m ∧ CellD ks ds i m ts := fun i j ts e => by
    by_cases hi : i < maps.length
    · have ei := List.getElem?_eq_getElem hi
      rw [getD_some ei] at e
      have ek := List.getElem?_eq_getElem (show i < ks.length by omega)
      obtain ⟨l1, l2⟩ := hr i _ ei _ ek
      by_cases hj : j < maps[i].length
      · have ej := List.getElem?_eq_getElem hj
        rw [getD_some ej] at e
        have em := List.getElem?_eq_getElem (show j < ks[i].2.length by omega)
        exact .inr ⟨_, _, ek, em, by rw [← e]; exact l2 j _ _ em ej⟩
      · rw [List.getD_eq_getElem?_getD, List.getElem?_eq_none (by omega)] at e
        exact .inl e.symm
    · have en : maps.getD i [] = [] := by rw [List.getD_eq_getElem?_getD, List.getElem?_eq_none (by omega)]; rfl
      rw [en] at e
      exact .inl e.symm
  refine ⟨⟨by decide, ok, dok.len, fun d hd => by have := dok.d16 d hd; omega, by have := sum_dims (by rw [dok.len]; exact k3) dok.d16 dok.d3; show ds.sum ≤ 32 * 1; omega, lm, fun i kd row hk hm => (hr i row hm kd hk).1, fun i kd row hk hm j m ts h1 h2 => ((hr i row hm kd hk).2 j m ts h1 h2).ok, ?_⟩, fun i j => ?_, fun i j => ?_, rd.wt⟩
  · have nl := tls_len d d4
    refine ⟨?_, fun r hr => ?_, ?_, rd.kind⟩
    · have := congrArg List.length rd.nm
      rw [List.length_map, List.length_take] at this
      show rs.length ≤ 60
      omega
    · have : r.1 ∈ rs.map (·.1) := List.mem_map.mpr ⟨r, hr, rfl⟩
      rw [rd.nm] at this
      exact lowB_ok (tls_low d d4 _ (List.mem_of_mem_take this))
    · show (rs.map (·.1)).Nodup
      rw [rd.nm]
      exact (tls_nd d d4).sublist (List.take_sublist _ _)
  · rcases cell i j _ rfl with h | ⟨kd, m, _, _, h⟩
    · show (((maps.getD i []).getD j []).length) ≤ 6
      rw [h]; decide
    · exact h.few
  · rcases cell i j _ rfl with h | ⟨kd, m, _, _, h⟩
    · show ∀ t ∈ (maps.getD i []).getD j [], _
      rw [h]
      intro t ht
      simp at ht
    · exact h.wt
theorem XI.less {K : PySem.W.Frag} {H : Hp} {dim : Nat} {ws : List Nat} {i j : Nat} {xs : List NK} (h : XI K H dim ws i xs) (hij : i ≤ j) : XI K H dim ws j xs := ⟨h.keys, h.nd, Nat.le_trans h.few hij, h.each⟩
theorem keys_all {K : PySem.W.Frag} {H : Hp} : ∀ {xs : List NK}, KeysIm K H xs → ImAll K H (xs.map fun x => V.ref x.2.1) (xs.map fun x => kD x.1)
  | [], _ => .nil
  | x :: xs, h => .cons (h x (List.mem_cons_self ..)).1 (keys_all fun y hy => h y (List.mem_cons_of_mem _ hy))
theorem asc_terms {ys : List NK} {ts : List Tm} (asc : ys.Pairwise fun x y => ∀ r cs r' cs', x.1 = kOf r cs → y.1 = kOf r' cs' → nlt (r :: cs) (r' :: cs') = true) (h : ∀ (j : Nat) t, ts[j]? = some t → ∃ x, ys[j]? = some x ∧ x.1 = kOf t.1 t.2.1) : ts.Pairwise fun a b => nlt (key a) (key b) = true := by
  rw [List.pairwise_iff_getElem]
  intro i j hi hj hij
  obtain ⟨x, hx, ex⟩ := h i _ (List.getElem?_eq_getElem hi)
  obtain ⟨y, hy, ey⟩ := h j _ (List.getElem?_eq_getElem hj)
  obtain ⟨h1, e1⟩ := List.getElem?_eq_some_iff.mp hx
  obtain ⟨h2, e2⟩ := List.getElem?_eq_some_iff.mp hy
  have := List.pairwise_iff_getElem.mp asc i j h1 h2 hij
  rw [e1, e2] at this
  exact this _ _ _ _ ex ey
end K63

set_option Elab.async false
set_option linter.all false
set_option maxRecDepth 100000
/-! a list's method with arguments, within a comprehension -/
namespace Ly
open PySem PySem.Spec PyProof.Rows L2
theorem kmt_index {X : Cx} (K : PySem.W.Frag) (e : X.K = K := by rfl) : MtR X "list.index" (rIndex K) := by subst e; exact mt_index
theorem kpe_bm {X : Cx} (K : PySem.W.Frag) {o e : Expr} {es : List Expr} {to : TE} {t : TA} {name : Str} {apos cpos : Pos} {T id : String} {r : V → List V → Hp → VK → Prop} (pa : PlainAttrs T) (slot : Slot T name id) (hty : typeOf (.builtin id) = pure (.type "method_descriptor")) (hm : MtR X id r) (ho : PE X o to) (ha : PA X (e :: es) t)
    (hbase : attributeBase o name X.env (eval o X.env) = eval o X.env := by rfl)
    (hfew : ((backTo cpos (starEach (e :: es) X.env)).all (fun x => !x.1) && (backToKw cpos (keywordEach [] X.env)).all (fun x => x.1.isSome)
      && decide ((e :: es).length + ([] : List Keyword).length + (if ([] : List Keyword).isEmpty then 0 else 1) < 30)) = true := by rfl)
    (hline : (apos.endLine == cpos.line) = true := by rfl) (hs : starEach (e :: es) X.env = (false, eval e X.env) :: starEach es X.env := by rfl) (hplain : (backTo cpos (starEach es X.env)).any (·.1) = false := by rfl) (eK : X.K = K := by rfl) :
    PE X (.Call (.Attribute o name apos) (e :: es) [] cpos) (tBM K T r to t) := by
  subst eK
  exact pe_bm pa slot hty hm ho ha hbase hfew hline hs hplain
end Ly

set_option Elab.async false
set_option linter.all false
set_option maxRecDepth 100000
set_option exponentiation.threshold 20000
set_option pp.deepTerms false
set_option pp.deepTerms.threshold 8
namespace K63
open PySem PySem.Spec PyProof.Rows L2 Ly Mt
theorem idx_first {xs : List Str} {f : Str} (hf : f ∈ xs) : (xs.map V.str)[xs.idxOf f]? = some (.str f) ∧ ∀ m z', m < xs.idxOf f → (xs.map V.str)[m]? = some z' → eqV z' (.str f) = false := by
  have hi := List.idxOf_lt_length_of_mem hf
  have eat : xs[xs.idxOf f]? = some f := by rw [List.getElem?_eq_getElem hi]; exact congrArg some (List.getElem_idxOf hi)
  refine ⟨by rw [List.getElem?_map, eat]; rfl, fun m z' hm hz => ?_⟩
  rw [List.getElem?_map] at hz
  obtain ⟨g, hg, rfl⟩ := Option.map_eq_some_iff.mp hz
  rw [eqs, decide_eq_false]
  intro e
  have h2 := List.not_of_lt_findIdx (p := fun x => x == f) (xs := xs) hm
  obtain ⟨hl, hv⟩ := List.getElem?_eq_some_iff.mp hg
  rw [hv, e] at h2
  simp at h2
section
variable {P : Program} {w : World} {K : PySem.W.Frag} {mg : Str → Option Value} {base : Heap}
abbrev s__law_form : Stmt := topS 67
theorem sc__law_form : FnScope ["store", "kinds", "most", "wide", "dims", "names", "maps", "k", "some", "maker", "fields", "widths", "keyed", "turn", "row", "titles", "reads", "kind", "makers", "field", "width", "key"] ["store", "kinds", "most", "wide"] (defScope s__law_form) := ⟨rfl, rfl, rfl, by decide +kernel, rfl, by decide +kernel, by decide +kernel⟩
def sp_lform (K : PySem.W.Frag) : Sp := fun vs H Q _ => ∃ (c : Addr) (v : V) (ks : List Kd) (wide : Nat), vs = [.ref c, v, .int 5, .int (wide : Nat)] ∧ 1 ≤ wide ∧ wide ≤ 17 ∧ Sto H c ∧ Im K H v (ksD ks) ∧ KindsOk ks ∧ SmallK 3 ks ∧ ∀ p F H', Sto H' c → But c H H' → Im K H' (.ref p) (fmD F) → F.ks = ks → Drf F → Q (.ref p) H'
set_option maxHeartbeats 4000000 in
theorem ok__law_form {f : Addr} {fd : FuncData} {k : Nat} (F : Fun K "_law_form" "_law_form" s__law_form f fd) (T : Tx K mg){k1 : Nat} (D__law_pick : Def P w K mg base k1 "_law_pick" s__law_pick ["store", "many"] sp_pick) {k2 : Nat} (D__law_weight : Def P w K mg base k2 "_law_weight" s__law_weight ["store"] (sp_weight K)) {k3 : Nat} (D__law_vector : Def P w K mg base k3 "_law_vector" s__law_vector ["store", "size"] (sp_vector K)) (e1 : k1 ≤ k) (e2 : k2 ≤ k) (e3 : k3 ≤ k) : FnOk P w K mg base CX0 (k + 1) f fd ["store", "kinds", "most", "wide"] (sp_lform K) := by
  have nd := sc__law_form.nd
  refine F.ok sc__law_form (fun vs H Q E h => ?_) (fun cdv A outer s H vs Q E hr h => ?_)
  · obtain ⟨_, _, _, _, rfl, _⟩ := h
    rfl
  · obtain ⟨c, v, ks, wide, rfl, w1, w17, u, iv, ok, sm, q⟩ := h
    obtain ⟨ka, kx, rfl, hka, hkx⟩ := iv.tuple_inv
    have lk : kx.length = ks.length := all_len hkx
    have kf := ok.few
    have k3' := sm.k3
    refine ⟨_, (pss_cons (ps_set (i := 4) nd rfl (.inr rfl) (pe_callTy (kcall_tuple K) (by rfl) T.m_tuple (by decide +kernel) (pa_cons (pe_lc (own := [("k", 7)]) (g := gName 7) (tt := tYes) rfl nd (pi_range1 rfl T.m_range (pa_cons (pe_callB (kcall_len K) (by rfl) T.m_len PySem.boot_len (pa_cons (pv 1) pa_nil)) pa_nil)) (blkOk_by (by rfl)) (fun _ _ _ _ _ => (pg_name (i := 7) nd rfl (.inl rfl))) (fun _ _ _ _ _ => pts_nil) (fun _ _ _ _ _ => (pe_def D__law_pick (hr.mono (by omega)) rfl (pa_cons (pv 0) (pa_cons (pe_ifExp (pt_cmpR op_eq (pv 7) pe_int (nomark _)) (pv 3) (pv 2)) pa_nil))))) pa_nil)))
      (pss_cons (ps_set (i := 5) nd rfl (.inr rfl) (pe_lc (own := [("kind", 17), ("makers", 18)]) (g := _) (tt := tYes) rfl nd (kpi_tup K (pv 1)) (blkOk_by (by rfl)) (fun _ _ _ _ _ => (kpg_tup K (n := 2) rfl (pgs_cons (pg_name (i := 17) nd rfl (.inl rfl)) (pgs_cons (pg_name (i := 18) nd rfl (.inl rfl)) pgs_nil)))) (fun _ _ _ _ _ => pts_nil) (fun _ _ _ _ _ => (pv 17))))
      (pss_cons (ps_set (i := 6) nd rfl (.inl rfl) (pe_tup pa_nil))
      (pss_cons (ps_for PassesOwn.never rfl (pi_range1 rfl T.m_range (pa_cons (pe_callB (kcall_len K) (by rfl) T.m_len PySem.boot_len (pa_cons (pv 1) pa_nil)) pa_nil)) (pg_name (i := 7) nd rfl (.inl rfl))
        (pss_cons (ps_set (i := 8) nd rfl (.inl rfl) (pe_tup pa_nil))
        (pss_cons (ps_for PassesOwn.never rfl (kpi_tup K (pe_ix (kix_tup K) (pe_ix (kix_tup K) (pv 1) (pv 7) (fun _ _ => rfl)) pe_int (fun _ _ => rfl))) (kpg_tup K (n := 2) rfl (pgs_cons (pg_name (i := 9) nd rfl (.inl rfl)) (pgs_cons (pg_name (i := 10) nd rfl (.inl rfl)) pgs_nil)))
          (pss_cons (ps_setLc (i := 11) (own := [("field", 19)]) (g := gName 19) (tt := tYes) rfl nd rfl rfl (sw_true rfl rfl rfl (by decide +kernel)) (kpi_tup K (pv 10)) (blkOk_by (by rfl)) (fun _ _ _ _ _ => (pg_name (i := 19) nd rfl (.inl rfl))) (fun _ _ _ _ _ => pts_nil) (fun _ _ _ _ _ => (pe_ifExp (pt_cmpR op_eq (pv 19) pe_str (nomark _)) pe_int (pe_ix (kix_tup K) (pv 4) (kpe_bm K PySem.F.plainAttrs_list PySem.F.slot_list_index PySem.F.type_list_index (kmt_index K) (pv 5) (pa_cons (pv 19) pa_nil)) (fun _ _ => rfl)))))
          (pss_cons (ps_set (i := 12) nd rfl (.inr rfl) pe_dnewN)
          (C8.pss_cut (ps_if (pt_cmpR op_gt (pe_callB (cr_min rfl) (by rfl) T.m_min (by decide +kernel) (pa_cons (pe_op op_cat (pe_lst (pa_cons (pe_ix (kix_tup K) (pv 4) (pv 7) (fun _ _ => rfl)) pa_nil)) (pv 11)) pa_nil)) pe_int (nomark _))
            (pss_one (ps_for PassesOwn.never rfl (pi_range1 rfl T.m_range (pa_cons (pe_def D__law_pick (hr.mono (by omega)) rfl (pa_cons (pv 0) (pa_cons pe_int pa_nil))) pa_nil)) (pg_name (i := 13) nd rfl (.inl rfl))
              (pss_cons (ps_set (i := 14) nd rfl (.inl rfl) (pe_def D__law_pick (hr.mono (by omega)) rfl (pa_cons (pv 0) (pa_cons (pe_ix (kix_tup K) (pv 4) (pv 7) (fun _ _ => rfl)) pa_nil))))
              (pss_one (ps_nput (hu10 hr) (pv 12) (pe_tup (pa_cons (pv 14) (pa_cons (pe_callTy (kcall_tuple K) (by rfl) T.m_tuple (by decide +kernel) (pa_cons (pe_lc (own := [("width", 20)]) (g := gName 20) (tt := tYes) rfl nd (kpi_list K (pv 11)) (blkOk_by (by rfl)) (fun _ _ _ _ _ => (pg_name (i := 20) nd rfl (.inl rfl))) (fun _ _ _ _ _ => pts_nil) (fun _ _ _ _ _ => (pe_def D__law_pick (hr.mono (by omega)) rfl (pa_cons (pv 0) (pa_cons (pv 20) pa_nil))))) pa_nil)) pa_nil))) (pe_def D__law_weight (hr.mono (by omega)) rfl (pa_cons (pv 0) pa_nil)) rfl)))))
            pss_nil)
          (pss_one (ps_set (i := 8) nd rfl (.inl rfl) (pe_op (kop_catA K) (pv 8) (pe_tup (pa_cons (pe_callTy (kcall_tuple K) (by rfl) T.m_tuple (by decide +kernel) (pa_cons (pe_lc (own := [("key", 21)]) (g := gName 21) (tt := tYes) rfl nd (kpi_list K (pe_callB (kcr_sortedD K (hu20 hr)) (by rfl) T.m_sorted (by decide +kernel) (pa_cons (pe_callTy (kcall_listN P w K) (by rfl) T.m_list (by decide +kernel) (pa_cons (pv 12) pa_nil)) pa_nil))) (blkOk_by (by rfl)) (fun _ _ _ _ _ => (pg_name (i := 21) nd rfl (.inl rfl))) (fun _ _ _ _ _ => pts_nil) (fun _ _ _ _ _ => (pe_tup (pa_cons (pe_ix (kix_tup K) (pv 21) pe_int (fun _ _ => rfl)) (pa_cons (pe_ix (kix_tup K) (pv 21) pe_int (fun _ _ => rfl)) (pa_cons (kpe_nget P w K (hu10 hr) (pv 12) (pv 21) (fun _ _ => rfl)) pa_nil)))))) pa_nil)) pa_nil)))))))))
        (pss_one (ps_set (i := 6) nd rfl (.inl rfl) (pe_op (kop_catA K) (pv 6) (pe_tup (pa_cons (pv 8) pa_nil))))))))
      (pss_cons (ps_set (i := 15) nd rfl (.inl rfl) (pe_ix (kix_list K) (pe_lst (pa_cons (pe_lst (pa_cons pe_str (pa_cons pe_str (pa_cons pe_str pa_nil)))) (pa_cons (pe_lst (pa_cons pe_str (pa_cons pe_str (pa_cons pe_str pa_nil)))) (pa_cons (pe_lst (pa_cons pe_str (pa_cons pe_str (pa_cons pe_str pa_nil)))) (pa_cons (pe_lst (pa_cons pe_str (pa_cons pe_str (pa_cons pe_str pa_nil)))) pa_nil))))) (pe_def D__law_pick (hr.mono (by omega)) rfl (pa_cons (pv 0) (pa_cons pe_int pa_nil))) (fun _ _ => rfl)))
      (pss_cons (ps_set (i := 16) nd rfl (.inl rfl) (pe_tup pa_nil))
      (pss_cons (ps_for PassesOwn.never rfl (pi_range1 rfl T.m_range (pa_cons (pe_def D__law_pick (hr.mono (by omega)) rfl (pa_cons (pv 0) (pa_cons pe_int pa_nil))) pa_nil)) (pg_name (i := 13) nd rfl (.inl rfl))
        (pss_cons (ps_set (i := 7) nd rfl (.inl rfl) (pe_def D__law_pick (hr.mono (by omega)) rfl (pa_cons (pv 0) (pa_cons (pe_callB (kcall_len K) (by rfl) T.m_len PySem.boot_len (pa_cons (pv 1) pa_nil)) pa_nil))))
        (pss_one (ps_set (i := 16) nd rfl (.inl rfl) (pe_op (kop_catA K) (pv 16) (pe_tup (pa_cons (pe_tup (pa_cons (pe_ix (kix_list K) (pv 15) (pv 13) (fun _ _ => rfl)) (pa_cons (pe_ix (kix_list K) (pv 5) (pv 7) (fun _ _ => rfl)) (pa_cons (pe_def D__law_vector (hr.mono (by omega)) rfl (pa_cons (pv 0) (pa_cons (pe_ix (kix_tup K) (pv 4) (pv 7) (fun _ _ => rfl)) pa_nil))) pa_nil)))) pa_nil)))))))
      (pss_one (ps_ret (pe_tup (pa_cons (pv 1) (pa_cons (pv 4) (pa_cons (pv 6) (pa_cons (pv 16) pa_nil)))))))))))))), ?_⟩
    refine ⟨.ref ka, rfl, ka, kx, rfl, .inr hka.sq, (kx.length : Nat), rfl, by omega, by omega, fun D hD => ?_⟩
    have nDc := u.ne hD
    refine lc_all (walk_range (lo := 0) (n := ((kx.length : Nat) : Int).toNat)) (fun i Hx => Sto Hx c ∧ But c H Hx ∧ ∃ ds : List Nat, Hx D = some (.lst (ds.map fun n : Nat => V.int (n : Nat))) ∧ ds.length = i ∧ (∀ d ∈ ds, d ≤ 16) ∧ ∀ (j : Nat) d, ds[j]? = some d → 1 ≤ j → d ≤ 4) ⟨u.same (same_new hD), but_same (same_new hD), [], upd_same, rfl, fun d h => by simp at h, fun j d h => by simp at h⟩ (fun _ _ _ _ => trivial) (fun i x Hx Hy hi z y => ?_) (fun Hx z => ?_)
    · obtain ⟨ux, bx, ds, eD, ld, d16, d3⟩ := z
      obtain ⟨rfl, rfl⟩ := y
      rw [Int.toNat_natCast] at hi
      have fin : ∀ (b : Nat), (i = 0 ∧ b ≤ 17 ∨ b ≤ 5) → ∀ (d : Nat) (H9 : Hp), (d : Int) < (b : Nat) → Sto H9 c → But c Hy H9 → ∃ acc, H9 D = some (.lst acc) ∧ acc.length < sizeLine ∧ Sto (upd H9 D (.lst (acc ++ [.int (d : Nat)]))) c ∧ But c H (upd H9 D (.lst (acc ++ [.int (d : Nat)]))) ∧ ∃ ds : List Nat, (upd H9 D (.lst (acc ++ [.int (d : Nat)]))) D = some (.lst (ds.map fun n : Nat => V.int (n : Nat))) ∧ ds.length = i + 1 ∧ (∀ d ∈ ds, d ≤ 16) ∧ ∀ (j : Nat) d, ds[j]? = some d → 1 ≤ j → d ≤ 4 := fun b hb d H9 hd u9 b9 => by
        have e9 := b9 _ _ nDc eD
        refine ⟨_, e9, small1000 (by rw [List.length_map]; omega), u9.upd nDc, fun b o nb e => ?_, ds ++ [d], by rw [upd_same, List.map_append]; rfl, by rw [List.length_append, ld]; rfl, fun d' h' => ?_, fun j d' h' hj => ?_⟩
        · rw [upd_ne (ne_of_none e hD)]; exact b9 _ _ nb (bx _ _ nb e)
        · rcases List.mem_append.mp h' with h' | h'
          · exact d16 d' h'
          · rw [List.mem_singleton.mp h']; omega
        · rcases get_snoc h' with h' | ⟨hj', rfl⟩
          · exact d3 j d' h' hj
          · omega
      refine ⟨rfl, .ref c, rfl, .int _, rfl, rfl, _, rfl, ?_⟩
      by_cases h : V.int ((0 : Int) + (i : Nat)) = V.int 0
      · rw [decide_eq_true h]
        have i0 : i = 0 := by have := V.int.inj h; omega
        exact iteT ⟨.int (wide : Nat), rfl, c, (wide : Nat), rfl, ux, by omega, fun d H9 hd u9 b9 => fin wide (.inl ⟨i0, w17⟩) d H9 hd u9 b9⟩
      · rw [decide_eq_false h]
        exact iteF ⟨.int 5, rfl, c, ((5 : Nat) : Int), rfl, ux, by decide, fun d H9 hd u9 b9 => fin 5 (.inr (Nat.le_refl _)) d H9 hd u9 b9⟩
    · obtain ⟨ux, bx, ds, eD, ld, d16, d3⟩ := z
      rw [Int.toNat_natCast, lk] at ld
      have dok : DimsOk ks ds := ⟨ld, d16, d3⟩
      refine ⟨D, _, rfl, .inl ⟨.of eD, fun Dm hDm => ?_⟩⟩
      have sDm := same_new (o := .tup (ds.map fun n : Nat => V.int (n : Nat))) hDm
      have hdm : ITup K (upd Hx Dm (.tup (ds.map fun n : Nat => V.int (n : Nat)))) Dm (ds.map fun n : Nat => V.int (n : Nat)) := .inl upd_same
      have u1 := ux.same sDm
      have b1 := bx.trans (but_same sDm)
      generalize upd Hx Dm (.tup (ds.map fun n : Nat => V.int (n : Nat))) = H1 at *
      have hka1 := hka.mono (b1.tk u)
      have hkx1 := ImAll.mono (b1.tk u) _ hkx
      clear eD nDc hD sDm hDm bx ux
      refine ⟨.ref ka, rfl, ka, rfl, ⟨_, hka1.sq⟩, fun N hN => ?_⟩
      have nNc := u1.ne hN
      refine lc_all (walk_tup (xs := kx)) (fun i Hx => Same H1 Hx ∧ Hx N = some (.lst (((ks.take i).map (·.1)).map V.str))) ⟨same_new hN, upd_same⟩ (fun i Hx _ z => (hka1.mono (tk_same z.1)).sq) (fun i x Hx Hy hi z y => ?_) (fun Hx z => ?_)
      · obtain ⟨s2, eN⟩ := z
        obtain ⟨rfl, hxi⟩ := y
        obtain ⟨kd, hk, ik⟩ := all_get (ImAll.mono (tk_same s2) _ hkx1) hxi
        obtain ⟨pk, x1, x2, rfl, hpk, i1, i2⟩ := im_pair ik
        obtain rfl := i1.str_inv
        refine ⟨pk, _, rfl, hpk.sq, rfl, .str kd.1, _, rfl, x2, _, rfl, rfl, rfl, .str kd.1, rfl, _, eN, small1000 (by rw [List.length_map, List.length_map, List.length_take]; omega), fun b o e => ?_, ?_⟩
        · rw [upd_ne (ne_of_none e hN)]; exact s2 _ _ e
        · rw [upd_same, List.take_add_one, hk, List.map_append, List.map_append]; rfl
      · obtain ⟨s2, eN⟩ := z
        rw [lk, List.take_of_length_le (Nat.le_refl _)] at eN
        refine ⟨by show 0 ≤ sizeLine; decide, fun M0 hM0 => ?_⟩
        have sM := same_new (o := .tup []) hM0
        have u2 := (u1.same s2).same sM
        have b2 := b1.trans (but_same (s2.trans sM))
        have t12 := tk_same (s2.trans sM)
        have eN2 := sM _ _ eN
        have hka2 := hka1.mono t12
        have hkx2 := ImAll.mono t12 _ hkx1
        have hdm2 := hdm.mono t12
        have iM : Im K (upd Hx M0 (.tup [])) (.ref M0) (mpD []) := .tup (.inl upd_same) .nil
        generalize upd Hx M0 (.tup []) = H2 at *
        clear hdm hka1 hkx1 eN sM hM0 s2 t12
        refine ⟨.ref ka, rfl, ka, kx, rfl, .inr hka2.sq, (kx.length : Nat), rfl, by omega, by omega, ?_⟩
        refine for_it (walk_range (lo := 0) (n := ((kx.length : Nat) : Int).toNat)) (fun i σ Ha => ∃ (y7 y8 y9 y10 y11 y12 y13 y14 y15 y16 : Option V) (M : Addr) (maps : List (List (List Tm))), σ = [some (.ref c), some (.ref ka), some (.int 5), some (.int (wide : Nat)), some (.ref Dm), some (.ref N), some (.ref M), y7, y8, y9, y10, y11, y12, y13, y14, y15, y16, none, none, none, none, none] ∧ Sto Ha c ∧ But c H2 Ha ∧ Im K Ha (.ref M) (mpD maps) ∧ maps.length = i ∧ ∀ (j : Nat) row, maps[j]? = some row → RowD ks ds j row) ⟨_, _, _, _, _, _, _, _, _, _, M0, [], rfl, u2, .refl _ _, iM, rfl, fun j row h => by simp at h⟩ (fun _ _ _ _ _ => trivial) ?_ ?_
        · rintro i x σ Ha Hb hi ⟨y7, y8, y9, y10, y11, y12, y13, y14, y15, y16, M, maps, rfl, ua, ba, iM, lM, hM⟩ ⟨rfl, rfl⟩
          rw [Int.toNat_natCast] at hi
          show gName 7 (V.int ((0 : Int) + (i : Nat))) _ _ _
          rw [show (0 : Int) + (i : Nat) = (i : Nat) by omega]
          have hki := List.getElem?_eq_getElem (show i < ks.length by omega)
          generalize ks[i] = kd at hki
          have hdi := List.getElem?_eq_getElem (show i < ds.length by rw [dok.len]; omega)
          have edi : ds.getD i 0 = ds[i]'(by rw [dok.len]; omega) := getD_some hdi
          generalize hdk : ds[i]'(by rw [dok.len]; omega) = dk at hdi edi
          have dk16 := dok.d16 dk (List.mem_of_getElem? hdi)
          have tba := ba.tk u2
          obtain ⟨x, ex, ix⟩ := all_at (ImAll.mono tba _ hkx2) hki
          obtain ⟨pk, z1, z2, rfl, hpk, iz1, iz2⟩ := im_pair ix
          obtain ⟨pm, ms, rfl, hpm, hms⟩ := iz2.tuple_inv
          have lms : ms.length = kd.2.length := all_len hms
          have kmem := List.mem_of_getElem? hki
          have mk6 := ok.mks kd kmem
          have hka3 := hka2.mono tba
          refine ⟨by show 0 ≤ sizeLine; decide, fun S0 hS0 => ?_⟩
          have sS := same_new (o := .tup []) hS0
          have u3 := ua.same sS
          have iS : Im K (upd Hb S0 (.tup [])) (.ref S0) (mrD []) := .tup (.inl upd_same) .nil
          have tS := tk_same sS
          have bS := but_same (w := c) sS
          generalize upd Hb S0 (.tup []) = H3 at *
          refine ⟨.ref ka, rfl, .int (i : Nat), rfl, ka, kx, _, .ref pk, rfl, rfl, (hka3.mono tS).sq, atI_nat ex, pk, _, 1, _, rfl, rfl, (hpk.mono tS).sq, atI_nat (j := 1) rfl, pm, rfl, ⟨_, (hpm.mono tS).sq⟩, ?_⟩
          refine for_it (walk_tup (xs := ms)) (fun t σ Hc => ∃ (y9 y10 y11 y12 y13 y14 : Option V) (S : Addr) (row : List (List Tm)), σ = [some (.ref c), some (.ref ka), some (.int 5), some (.int (wide : Nat)), some (.ref Dm), some (.ref N), some (.ref M), some (.int (i : Nat)), some (.ref S), y9, y10, y11, y12, y13, y14, y15, y16, none, none, none, none, none] ∧ Sto Hc c ∧ But c Hb Hc ∧ Im K Hc (.ref S) (mrD row) ∧ row.length = t ∧ ∀ (j : Nat) m ts, kd.2[j]? = some m → row[j]? = some ts → CellD ks ds i m ts) ⟨_, _, _, _, _, _, S0, [], rfl, u3, bS, iS, rfl, fun j m ts _ h => by simp at h⟩ (fun t σ Hc _ z => ?_) ?_ ?_
          · obtain ⟨_, _, _, _, _, _, _, _, _, _, bc, _⟩ := z
            exact (hpm.mono (bc.tk ua)).sq
          · rintro t x σ Hc Hd ht ⟨y9, y10, y11, y12, y13, y14, S, row, rfl, uc, bc, iS, lS, hS⟩ ⟨rfl, hxt⟩
            have tbc := bc.tk ua
            obtain ⟨mk, hmk, ik⟩ := all_get (ImAll.mono tbc _ hms) hxt
            obtain ⟨pp, z3, z4, rfl, hpp, iz3, iz4⟩ := im_pair ik
            obtain rfl := iz3.str_inv
            obtain ⟨pf, fx, rfl, hpf, hfx⟩ := iz4.tuple_inv
            obtain rfl := im_strs hfx
            have mmem := List.mem_of_getElem? hmk
            have f3 : mk.2.length ≤ 3 := sm.fld kd kmem mk mmem
            have fok := ok.flds kd kmem mk mmem
            refine ⟨pp, _, rfl, hpp.sq, rfl, .str mk.1, _, rfl, .ref pf, _, rfl, rfl, ?_⟩
            refine ⟨.ref pf, rfl, pf, rfl, ⟨_, hpf.sq⟩, fun W hW => ?_⟩
            have nWc := uc.ne hW
            have eNd : Hd N = some (.lst ((ks.map (·.1)).map V.str)) := bc _ _ nNc (ba _ _ nNc eN2)
            have hdmd := hdm2.mono (tba.trans tbc)
            generalize hws : mk.2.map (wd (ks.map (·.1)) ds) = ws
            have lws : ws.length = mk.2.length := by rw [← hws, List.length_map]
            refine lc_all (walk_tup (xs := mk.2.map V.str)) (fun s Hx => Same Hd Hx ∧ Hx W = some (.lst ((ws.take s).map fun n : Nat => V.int (n : Nat)))) ⟨same_new hW, upd_same⟩ (fun s Hx _ z => (hpf.mono (tk_same z.1)).sq) (fun s x Hx Hy hs z y => ?_) (fun Hx z => ?_)
            · obtain ⟨s4, eW⟩ := z
              obtain ⟨rfl, hxs⟩ := y
              rw [List.getElem?_map] at hxs
              obtain ⟨f, hf, rfl⟩ := Option.map_eq_some_iff.mp hxs
              rw [List.length_map] at hs
              have wf : ws[s]? = some (wd (ks.map (·.1)) ds f) := by rw [← hws, List.getElem?_map, hf]; rfl
              have fin : ∀ (n : Nat), n = wd (ks.map (·.1)) ds f → ∃ acc, Hy W = some (.lst acc) ∧ acc.length < sizeLine ∧ Same Hd (upd Hy W (.lst (acc ++ [V.int (n : Nat)]))) ∧ (upd Hy W (.lst (acc ++ [V.int (n : Nat)]))) W = some (.lst ((ws.take (s + 1)).map fun n : Nat => V.int (n : Nat))) := fun n en => by
                refine ⟨_, eW, small1000 (by rw [List.length_map, List.length_take]; omega), fun b o e => ?_, ?_⟩
                · rw [upd_ne (ne_of_none e hW)]; exact s4 _ _ e
                · rw [upd_same, List.take_add_one, wf, List.map_append, en]; rfl
              refine ⟨rfl, .str f, rfl, rfl, _, rfl, ?_⟩
              rw [dec_str]
              by_cases h1 : f = ("number" : Str)
              · rw [decide_eq_true h1]
                refine iteT (fin 2 ?_)
                unfold wd
                rw [if_neg (by rw [h1]; exact num_not ok)]
              · rw [decide_eq_false h1]
                have hin := (fok f (List.mem_of_getElem? hf)).resolve_left h1
                obtain ⟨ix1, ix2⟩ := idx_first hin
                have hlt : (ks.map (·.1)).idxOf f < ds.length := by
                  have := List.idxOf_lt_length_of_mem hin
                  rw [List.length_map] at this
                  rw [dok.len]; exact this
                refine iteF ⟨.ref Dm, rfl, .ref N, rfl, .inl ⟨rfl, _, .of (s4 _ _ eNd)⟩, .str f, rfl, N, _, .str f, (ks.map (·.1)).idxOf f, .str f, rfl, rfl, .of (s4 _ _ eNd), rfl, flat_strs' _, ix1, by rw [eqs, decide_eq_true rfl], ix2, ?_⟩
                refine ⟨Dm, _, _, .int ((ds.getD ((ks.map (·.1)).idxOf f) 0 : Nat) : Int), rfl, rfl, (hdmd.mono (tk_same s4)).sq, atI_nat ?_, fin _ ?_⟩
                · rw [List.getElem?_map, List.getD_eq_getElem?_getD, List.getElem?_eq_getElem hlt]; rfl
                · unfold wd
                  rw [if_pos hin]
            · obtain ⟨s4, eW⟩ := z
              rw [List.length_map, ← lws, List.take_of_length_le (Nat.le_refl _)] at eW
              intro Kd hKd
              show gName 12 (V.ref Kd) _ (upd Hx Kd (dN P w Kd [])) _
              have nWK : W ≠ Kd := ne_of_none eW hKd
              have nKc : Kd ≠ c := (uc.same s4).ne hKd
              have sK := same_new (o := dN P w Kd []) hKd
              have u5 := (uc.same s4).same sK
              have eK : (upd Hx Kd (dN P w Kd [])) Kd = some (dN P w Kd []) := upd_same
              have s45 := s4.trans sK
              have eW5 := sK _ _ eW
              generalize upd Hx Kd (dN P w Kd []) = H5 at *
              have hKd0 : Hd Kd = none := s4.free hKd
              have t5 := tk_same s45
              have hdm5 := hdmd.mono t5
              have x0 : XI K H5 dk ws 6 [] := ⟨fun x hx => by simp at hx, .nil, Nat.zero_le _, fun x hx => by simp at hx⟩
              refine ⟨fun σ' H' => ∃ (y13 y14 : Option V) (xs : List NK), σ' = [some (.ref c), some (.ref ka), some (.int 5), some (.int (wide : Nat)), some (.ref Dm), some (.ref N), some (.ref M), some (.int (i : Nat)), some (.ref S), some (.str mk.1), some (.ref pf), some (.ref W), some (.ref Kd), y13, y14, y15, y16, none, none, none, none, none] ∧ Sto H' c ∧ But c Hd H' ∧ H' Kd = some (dN P w Kd xs) ∧ XI K H' dk ws 6 xs, ?_, ?_⟩
              · refine ⟨.ref Dm, rfl, .int (i : Nat), rfl, Dm, _, _, .int (dk : Nat), rfl, rfl, hdm5.sq, atI_nat (by rw [List.getElem?_map, hdi]; rfl), by show 1 ≤ sizeLine; decide, fun A hA => ?_⟩
                have sA := same_new (o := .lst [V.int (dk : Nat)]) hA
                have eA : (upd H5 A (.lst [V.int (dk : Nat)])) A = some (.lst [V.int (dk : Nat)]) := upd_same
                generalize upd H5 A (.lst [V.int (dk : Nat)]) = H6 at *
                refine ⟨.ref W, rfl, A, W, _, _, rfl, rfl, eA, sA _ _ eW5, Nat.le_trans (show [V.int (dk : Nat)].length + (ws.map fun n : Nat => V.int (n : Nat)).length ≤ 1000 by rw [List.length_map, List.length_singleton]; omega) (by decide), fun B hB => ?_⟩
                have eB : ([V.int (dk : Nat)] ++ ws.map fun n : Nat => V.int (n : Nat)) = ((dk :: ws).map fun n : Nat => (n : Int)).map V.int := by rw [List.map_map]; rfl
                rw [eB]
                have sB := same_new (o := .lst (((dk :: ws).map fun n : Nat => (n : Int)).map V.int)) hB
                refine ⟨B, _, rfl, .of upd_same, by rw [List.length_map]; exact Nat.succ_pos _, fun mn hmn hmin => ⟨_, _, rfl, rfl, _, rfl, ?_⟩⟩
                generalize upd H6 B (.lst (((dk :: ws).map fun n : Nat => (n : Int)).map V.int)) = H7 at *
                have s57 := sA.trans sB
                have b57 : But c Hd H7 := but_same (s45.trans s57)
                have u7 := u5.same s57
                have eK7 := s57 _ _ eK
                have x7 := x0.mono (tk_same s57)
                by_cases hm0 : mn > 0
                · rw [decide_eq_true hm0]
                  have hpos : ∀ n ∈ dk :: ws, 1 ≤ n := fun n hn => by
                    have := hmin (n : Int) (List.mem_map.mpr ⟨n, hn, rfl⟩)
                    omega
                  have dpos := hpos dk (List.mem_cons_self ..)
                  refine iteT ⟨.ref c, rfl, c, 7, rfl, u7, by decide, fun tn H8 tn7 u8 b8 => ⟨(tn : Nat), rfl, by omega, by omega, ?_⟩⟩
                  refine for_it (walk_range (lo := 0) (n := (tn : Int).toNat)) (fun r σ He => ∃ (y13 y14 : Option V) (xs : List NK), σ = [some (.ref c), some (.ref ka), some (.int 5), some (.int (wide : Nat)), some (.ref Dm), some (.ref N), some (.ref M), some (.int (i : Nat)), some (.ref S), some (.str mk.1), some (.ref pf), some (.ref W), some (.ref Kd), y13, y14, y15, y16, none, none, none, none, none] ∧ Sto He c ∧ But c Hd He ∧ He Kd = some (dN P w Kd xs) ∧ XI K He dk ws r xs ∧ He W = some (.lst (ws.map fun n : Nat => V.int (n : Nat)))) ⟨_, _, [], rfl, u8, b57.trans b8, b8 _ _ nKc eK7, (x7.mono (b8.tk u7)).less (Nat.le_refl _) |> fun z => ⟨z.keys, z.nd, Nat.le_refl _, z.each⟩, b8 _ _ nWc (s57 _ _ eW5)⟩ (fun _ _ _ _ _ => trivial) ?_ ?_
                  · rintro r x σ He Hf hr' ⟨y13, y14, xs, rfl, ue, be, eKe, xe, eWe⟩ ⟨rfl, rfl⟩
                    rw [Int.toNat_natCast] at hr'
                    have few := xe.few
                    have tbe := be.tk uc
                    refine ⟨.ref c, rfl, .ref Dm, rfl, .int (i : Nat), rfl, Dm, _, _, .int (dk : Nat), rfl, rfl, (hdmd.mono tbe).sq, atI_nat (by rw [List.getElem?_map, hdi]; rfl), c, (dk : Nat), rfl, ue, by omega, fun rr H9 rl u9 b9 => ?_⟩
                    refine ⟨.ref c, rfl, c, rfl, u9, fun pq qq H10 u10 b10 iq wq => ⟨.ref Kd, rfl, .int (rr : Nat), rfl, .ref W, rfl, W, rfl, ⟨_, .of (b10 _ _ nWc (b9 _ _ nWc eWe))⟩, fun D2 hD2 => ?_⟩⟩
                    have nD2c := u10.ne hD2
                    have eW10 := b10 _ _ nWc (b9 _ _ nWc eWe)
                    refine lc_all (walk_list (xs := ws.map fun n : Nat => V.int (n : Nat))) (fun a Hx => Sto Hx c ∧ But c H10 Hx ∧ ∃ cs : List Nat, Hx D2 = some (.lst (cs.map fun n : Nat => V.int (n : Nat))) ∧ cs.length = a ∧ ∀ (j cc n : Nat), cs[j]? = some cc → ws[j]? = some n → cc < n) ⟨u10.same (same_new hD2), but_same (same_new hD2), [], upd_same, rfl, fun j cc n h => by simp at h⟩ (fun a Hx _ z => .of (z.2.1 _ _ nWc eW10)) (fun a x Hx Hy ha z y => ?_) (fun Hx z => ?_)
                    · obtain ⟨ux, bx, cs, eD, lc, hc⟩ := z
                      obtain ⟨rfl, hxa⟩ := y
                      rw [List.getElem?_map] at hxa
                      obtain ⟨wn, hwn, rfl⟩ := Option.map_eq_some_iff.mp hxa
                      rw [List.length_map] at ha
                      have wpos := hpos wn (List.mem_cons_of_mem _ (List.mem_of_getElem? hwn))
                      refine ⟨rfl, .ref c, rfl, .int (wn : Nat), rfl, c, (wn : Nat), rfl, ux, by omega, fun cv H11 cl u11 b11 => ?_⟩
                      have e11 := b11 _ _ nD2c eD
                      refine ⟨_, e11, small1000 (by rw [List.length_map]; omega), u11.upd nD2c, fun b o nb e => ?_, cs ++ [cv], by rw [upd_same, List.map_append]; rfl, by rw [List.length_append, lc]; rfl, fun j cc n h1 h2 => ?_⟩
                      · rw [upd_ne (ne_of_none e hD2)]; exact b11 _ _ nb (bx _ _ nb e)
                      · rcases get_snoc h1 with h1 | ⟨hj, rfl⟩
                        · exact hc j cc n h1 h2
                        · rw [hj, lc, hwn] at h2
                          obtain rfl := Option.some.inj h2
                          omega
                    · obtain ⟨ux, bx, cs, eD, lc, hc⟩ := z
                      rw [List.length_map] at lc
                      refine ⟨D2, _, rfl, .inl ⟨.of eD, fun l hl => ⟨by show 2 ≤ sizeLine; decide, fun K1 hK1 => ?_⟩⟩⟩
                      have sl := same_new (o := .tup (cs.map fun n : Nat => V.int (n : Nat))) hl
                      have il : Im K (upd Hx l (.tup (cs.map fun n : Nat => V.int (n : Nat)))) (.ref l) (nsD cs) := .tup (.inl upd_same) (nats_im _)
                      generalize upd Hx l (.tup (cs.map fun n : Nat => V.int (n : Nat))) = H12 at *
                      have sK1 := same_new (o := .tup [V.int (rr : Nat), .ref l]) hK1
                      have ik : Im K (upd H12 K1 (.tup [V.int (rr : Nat), .ref l])) (.ref K1) (kD (kOf rr cs)) := by
                        rw [kD_of _ _ 0]
                        exact .tup (.inl upd_same) (.cons (.int _) (.cons (Im.mono (tk_same sK1) _ il) .nil))
                      have u13 := (ux.same sl).same sK1
                      have bAll : But c Hf _ := (b9.trans b10).trans (bx.trans (but_same (sl.trans sK1)))
                      have iq13 := Im.mono ((bx.tk u10).trans (tk_same (sl.trans sK1))) _ iq
                      have eW13 := (sl.trans sK1) _ _ (bx _ _ nWc eW10)
                      generalize upd H12 K1 (.tup [V.int (rr : Nat), .ref l]) = H13 at *
                      have eK13 := bAll _ _ nKc eKe
                      have x13 := xe.mono (bAll.tk ue)
                      refine ⟨Kd, xs, kOf rr cs, K1, pq, rfl, rfl, ⟨eK13, x13.keys, rfl, ik, kOf_depth _ _⟩, small1000 (by omega), ?_⟩
                      have te : TK H13 (upd H13 Kd (dN P w Kd (putN xs (kOf rr cs) K1 pq))) := tk_ext eK13
                      refine ⟨_, _, _, rfl, u13.upd nKc, fun b o nb e => ?_, upd_same, (x13.put (by omega) lc hc ik iq13 wq).mono te, ?_⟩
                      · rw [upd_ne (ne_of_none e hKd0)]; exact bAll _ _ nb (be _ _ nb e)
                      · rw [upd_ne nWK]; exact eW13
                  · rintro σ He ⟨y13, y14, xs, rfl, ue, be, eKe, xe, eWe⟩
                    rw [Int.toNat_natCast] at xe
                    exact ⟨y13, y14, xs, rfl, ue, be, eKe, xe.less (by omega)⟩
                · rw [decide_eq_false hm0]
                  exact iteF ⟨_, _, [], rfl, u7, b57, eK7, x7⟩
              · rintro σ' H6 ⟨y13, y14, xs, rfl, u6, b6, eK6, xi⟩
                have few := xi.few
                obtain ⟨ys, py, ey, asc⟩ := xi.inorder
                have lys : ys.length = xs.length := py.length_eq
                refine ⟨.ref S, rfl, .ref Kd, rfl, Kd, xs, rfl, eK6, xi.keys, fun A hA => ?_⟩
                have sA := same_new (o := .lst (xs.map fun x => V.ref x.2.1)) hA
                refine ⟨A, _, _, rfl, .of upd_same, ImAll.mono (tk_same sA) _ (keys_all xi.keys), xi.alike, .inl xi.sortable, xi.deep, fun S2 hS2 => ⟨S2, rfl, ⟨_, .of upd_same⟩, fun D2 hD2 => ?_⟩⟩
                rw [ey] at hD2 ⊢
                have sS2 := same_new (o := .lst (ys.map fun x => V.ref x.2.1)) hS2
                have eS2 : (upd (upd H6 A (.lst (xs.map fun x => V.ref x.2.1))) S2 (.lst (ys.map fun x => V.ref x.2.1))) S2 = some (.lst (ys.map fun x => V.ref x.2.1)) := upd_same
                have s68 := sA.trans sS2
                generalize upd (upd H6 A (.lst (xs.map fun x => V.ref x.2.1))) S2 (.lst (ys.map fun x => V.ref x.2.1)) = H8 at *
                have xi8 := xi.mono (tk_same s68)
                have eK8 := s68 _ _ eK6
                have u8 := u6.same s68
                have b8 : But c Hd H8 := b6.trans (but_same s68)
                refine lc_all (walk_list (xs := ys.map fun x => V.ref x.2.1)) (fun a Hx => Same H8 Hx ∧ ∃ (vs : List V) (ts : List Tm), Hx D2 = some (.lst vs) ∧ ImAll K Hx vs (ts.map tmD) ∧ ts.length = a ∧ ∀ (j : Nat) t, ts[j]? = some t → ∃ x, ys[j]? = some x ∧ x.1 = kOf t.1 t.2.1 ∧ TermOk dk ws t ∧ Wt t.2.2) ⟨same_new hD2, [], [], upd_same, .nil, rfl, fun j t h => by simp at h⟩ (fun a Hx _ z => .of (z.1 _ _ eS2)) (fun a x Hx Hy ha z y => ?_) (fun Hx z => ?_)
                · obtain ⟨s9, vs, ts, eD, iD, lts, hts⟩ := z
                  obtain ⟨rfl, hxa⟩ := y
                  rw [List.getElem?_map] at hxa
                  obtain ⟨x, hx, rfl⟩ := Option.map_eq_some_iff.mp hxa
                  rw [List.length_map] at ha
                  have mx : x ∈ xs := py.mem_iff.mp (List.mem_of_getElem? hx)
                  have xi9 := xi8.mono (tk_same s9)
                  obtain ⟨r, cs, q0, k1, k2, k3, k4, k5, k6⟩ := xi9.each x mx
                  obtain ⟨ikx, _⟩ := xi9.keys x mx
                  have vx := valN_of xi.nd mx
                  have ikk := ikx
                  rw [k1] at vx ikk
                  rw [k1, kD_of _ _ q0] at ikx
                  obtain ⟨pk', v1, v2, e1, hpk', iv1, iv2⟩ := im_pair ikx
                  obtain rfl := V.ref.inj e1
                  obtain rfl := iv1.int_inv
                  refine ⟨rfl, .ref x.2.1, rfl, x.2.1, _, 0, _, rfl, rfl, hpk'.sq, atI_nat (j := 0) rfl, .ref x.2.1, rfl, x.2.1, _, 1, _, rfl, rfl, hpk'.sq, atI_nat (j := 1) rfl, ?_⟩
                  refine ⟨.ref Kd, rfl, .ref x.2.1, rfl, Kd, xs, kOf r cs, x.2.1, x.2.2, rfl, ⟨s9 _ _ eK8, xi9.keys, rfl, ikk, kOf_depth _ _⟩, vx, by show 3 ≤ sizeLine; decide, fun T hT => ?_⟩
                  have sT := same_new (o := .tup [.int (r : Nat), v2, .ref x.2.2]) hT
                  have it : Im K (upd Hy T (.tup [.int (r : Nat), v2, .ref x.2.2])) (.ref T) (tmD (r, cs, q0)) := .tup (.inl upd_same) (.cons (.int _) (.cons (Im.mono (tk_same sT) _ iv2) (.cons (Im.mono (tk_same sT) _ k5) .nil)))
                  have eD8 := sT _ _ eD
                  refine ⟨vs, eD8, small1000 (by rw [all_len iD]; omega), fun b o e => ?_, vs ++ [.ref T], ts ++ [(r, cs, q0)], upd_same, ?_, by rw [List.length_append, lts]; rfl, fun j t' h' => ?_⟩
                  · rw [upd_ne (ne_of_none e hD2)]
                    exact sT _ _ (s9 _ _ e)
                  · rw [List.map_append]
                    exact (ImAll.mono ((tk_same sT).trans (tk_lst eD8)) _ iD).snoc (Im.mono (tk_lst eD8) _ it)
                  · rcases get_snoc h' with h' | ⟨hj, rfl⟩
                    · exact hts j t' h'
                    · rw [hj, lts]
                      exact ⟨x, hx, k1, ⟨k2, k3, k4, k6.1⟩, k6⟩
                · obtain ⟨s9, vs, ts, eD, iD, lts, hts⟩ := z
                  rw [List.length_map] at lts
                  refine ⟨D2, vs, rfl, .inl ⟨.of eD, fun l hl => ⟨by show 1 ≤ sizeLine; decide, fun T1 hT1 => ?_⟩⟩⟩
                  have sl := same_new (o := .tup vs) hl
                  have il : Im K (upd Hx l (.tup vs)) (.ref l) (tsD ts) := .tup (.inl upd_same) (ImAll.mono (tk_same sl) _ iD)
                  have sT1 := same_new (o := .tup [V.ref l]) hT1
                  obtain ⟨pS, sx, epS, hpS, hsx⟩ := iS.tuple_inv
                  cases epS
                  have lsx : sx.length = row.length := all_len hsx
                  have tg := (((b8.tk uc).trans (tk_same s9)).trans (tk_same sl)).trans (tk_same sT1)
                  refine cat_any (hpS.mono tg) (.inl upd_same) (by rw [List.length_singleton]; omega) fun p H14 s14 ip => ?_
                  refine ⟨_, _, _, _, _, _, p, row ++ [ts], rfl, ((((u8.same s9).same sl).same sT1).same s14), (bc.trans b8).trans (but_same (((s9.trans sl).trans sT1).trans s14)), .tup ip ?_, by rw [List.length_append, lS]; rfl, fun j m' ts' h1 h2 => ?_⟩
                  · rw [List.map_append]
                    exact ImAll.app (ImAll.mono (tg.trans (tk_same s14)) _ hsx) (.cons (Im.mono ((tk_same sT1).trans (tk_same s14)) _ il) .nil)
                  · rcases get_snoc h2 with h2 | ⟨hj, rfl⟩
                    · exact hS j m' ts' h1 h2
                    · rw [hj, lS, hmk] at h1
                      obtain rfl := Option.some.inj h1
                      unfold CellD
                      rw [edi, hws]
                      refine drn_mk (by omega) (asc_terms asc fun j t h => let ⟨x, a, b, _⟩ := hts j t h; ⟨x, a, b⟩) fun t ht => ?_
                      obtain ⟨j, hj⟩ := List.getElem?_of_mem ht
                      obtain ⟨x, _, _, a, b⟩ := hts j t hj
                      exact ⟨a, b⟩
          · rintro σ Hc ⟨y9, y10, y11, y12, y13, y14, S, row, rfl, uc, bc, iS, lS, hS⟩
            rw [lms] at lS
            refine ⟨.ref M, rfl, .ref S, rfl, by show 1 ≤ sizeLine; decide, fun T hT => ?_⟩
            have sT := same_new (o := .tup [V.ref S]) hT
            obtain ⟨pM, mx, epM, hpM, hmx⟩ := iM.tuple_inv
            cases epM
            have lmx : mx.length = maps.length := all_len hmx
            have tg := (bc.tk ua).trans (tk_same sT)
            refine cat_any (hpM.mono tg) (.inl upd_same) (by rw [List.length_singleton]; omega) fun p H9 s9 ip => ?_
            refine ⟨_, _, _, _, _, _, _, _, _, _, p, maps ++ [row], rfl, (uc.same sT).same s9, (ba.trans bc).trans (but_same (sT.trans s9)), .tup ip ?_, by rw [List.length_append, lM]; rfl, fun j row' hj => ?_⟩
            · rw [List.map_append]
              exact ImAll.app (ImAll.mono (tg.trans (tk_same s9)) _ hmx) (.cons (Im.mono (tk_same (sT.trans s9)) _ iS) .nil)
            · rcases get_snoc hj with hj | ⟨rfl, rfl⟩
              · exact hM j row' hj
              · rw [lM]
                intro kd' hkd'
                rw [hki] at hkd'
                obtain rfl := Option.some.inj hkd'
                exact ⟨lS, hS⟩
        · rintro σ Ha ⟨y7, y8, y9, y10, y11, y12, y13, y14, y15, y16, M, maps, rfl, ua, ba, iM, lM, hM⟩
          rw [Int.toNat_natCast, lk] at lM
          refine ⟨by show 3 ≤ sizeLine; decide, fun L1 hL1 => ⟨by show 3 ≤ sizeLine; decide, fun L2 hL2 => ⟨by show 3 ≤ sizeLine; decide, fun L3 hL3 => ⟨by show 3 ≤ sizeLine; decide, fun L4 hL4 => ⟨by show 4 ≤ sizeLine; decide, fun L5 hL5 => ?_⟩⟩⟩⟩⟩
          have sA := same_new (o := .lst [V.str "f", .str "g", .str "h"]) hL1
          have sB := same_new (o := .lst [V.str "r1", .str "r2", .str "r3"]) hL2
          have sC := same_new (o := .lst [V.str "a", .str "aa", .str "aaa"]) hL3
          have sD := same_new (o := .lst [V.str "xP0", .str "xQ0", .str "xR0"]) hL4
          have sE := same_new (o := .lst [V.ref L1, .ref L2, .ref L3, .ref L4]) hL5
          have n1 := ua.ne hL1
          have n2 := (ua.same sA).ne hL2
          have n3 := ((ua.same sA).same sB).ne hL3
          have n4 := (((ua.same sA).same sB).same sC).ne hL4
          have n5 := ((((ua.same sA).same sB).same sC).same sD).ne hL5
          have s5 : Same Ha _ := (((sA.trans sB).trans sC).trans sD).trans sE
          have e1 := sE _ _ (sD _ _ (sC _ _ (sB _ _ (show (upd Ha L1 (.lst [V.str "f", .str "g", .str "h"])) L1 = some (.lst ((tlsS 0).map V.str)) from upd_same))))
          have e2 := sE _ _ (sD _ _ (sC _ _ (show (upd (upd Ha L1 (.lst [V.str "f", .str "g", .str "h"])) L2 (.lst [V.str "r1", .str "r2", .str "r3"])) L2 = some (.lst ((tlsS 1).map V.str)) from upd_same)))
          have e3 := sE _ _ (sD _ _ (show (upd (upd (upd Ha L1 (.lst [V.str "f", .str "g", .str "h"])) L2 (.lst [V.str "r1", .str "r2", .str "r3"])) L3 (.lst [V.str "a", .str "aa", .str "aaa"])) L3 = some (.lst ((tlsS 2).map V.str)) from upd_same))
          have e4 := sE _ _ (show (upd (upd (upd (upd Ha L1 (.lst [V.str "f", .str "g", .str "h"])) L2 (.lst [V.str "r1", .str "r2", .str "r3"])) L3 (.lst [V.str "a", .str "aa", .str "aaa"])) L4 (.lst [V.str "xP0", .str "xQ0", .str "xR0"])) L4 = some (.lst ((tlsS 3).map V.str)) from upd_same)
          have e5 : (upd (upd (upd (upd (upd Ha L1 (.lst [V.str "f", .str "g", .str "h"])) L2 (.lst [V.str "r1", .str "r2", .str "r3"])) L3 (.lst [V.str "a", .str "aa", .str "aaa"])) L4 (.lst [V.str "xP0", .str "xQ0", .str "xR0"])) L5 (.lst [V.ref L1, .ref L2, .ref L3, .ref L4])) L5 = some (.lst [V.ref L1, .ref L2, .ref L3, .ref L4]) := upd_same
          clear sA sB sC sD sE hL1 hL2 hL3 hL4 hL5
          generalize upd (upd (upd (upd (upd Ha L1 (.lst [V.str "f", .str "g", .str "h"])) L2 (.lst [V.str "r1", .str "r2", .str "r3"])) L3 (.lst [V.str "a", .str "aa", .str "aaa"])) L4 (.lst [V.str "xP0", .str "xQ0", .str "xR0"])) L5 (.lst [V.ref L1, .ref L2, .ref L3, .ref L4]) = H4 at *
          have u4 := ua.same s5
          refine ⟨.ref c, rfl, c, 4, rfl, u4, by decide, fun d H5 d4 u5 b5 => ?_⟩
          have d4' : d < 4 := by omega
          obtain ⟨Ld, gs, nLd, eLd⟩ : ∃ Ld, atI [V.ref L1, .ref L2, .ref L3, .ref L4] (d : Nat) = some (.ref Ld) ∧ Ld ≠ c ∧ H5 Ld = some (.lst ((tlsS d).map V.str)) := by
            have : d = 0 ∨ d = 1 ∨ d = 2 ∨ d = 3 := by omega
            rcases this with rfl | rfl | rfl | rfl
            · exact ⟨L1, rfl, n1, b5 _ _ n1 e1⟩
            · exact ⟨L2, rfl, n2, b5 _ _ n2 e2⟩
            · exact ⟨L3, rfl, n3, b5 _ _ n3 e3⟩
            · exact ⟨L4, rfl, n4, b5 _ _ n4 e4⟩
          refine ⟨L5, _, _, _, rfl, rfl, .of (b5 _ _ n5 e5), gs, ?_⟩
          have nl := tls_len d d4'
          refine ⟨by show 0 ≤ sizeLine; decide, fun R0 hR0 => ?_⟩
          have sR := same_new (o := .tup []) hR0
          have u6 := u5.same sR
          have b6 : But c Ha _ := ((but_same s5).trans b5).trans (but_same sR)
          have iR : Im K (upd H5 R0 (.tup [])) (.ref R0) (rdsD []) := .tup (.inl upd_same) .nil
          have eLd6 := sR _ _ eLd
          generalize upd H5 R0 (.tup []) = H6 at *
          refine ⟨.ref c, rfl, c, 4, rfl, u6, by decide, fun tn H7 tn4 u7 b7 => ⟨(tn : Nat), rfl, by omega, by omega, ?_⟩⟩
          refine for_it (walk_range (lo := 0) (n := (tn : Int).toNat)) (fun t σ Hb => ∃ (y7 y13 : Option V) (R : Addr) (rs : List Rd), σ = [some (.ref c), some (.ref ka), some (.int 5), some (.int (wide : Nat)), some (.ref Dm), some (.ref N), some (.ref M), y7, y8, y9, y10, y11, y12, y13, y14, some (.ref Ld), some (.ref R), none, none, none, none, none] ∧ Sto Hb c ∧ But c H6 Hb ∧ Im K Hb (.ref R) (rdsD rs) ∧ RdsD ks ds d t rs) ⟨_, _, R0, [], rfl, u7, b7, Im.mono (b7.tk u6) _ iR, ⟨rfl, fun r h => by simp at h, fun r h => by simp at h⟩⟩ (fun _ _ _ _ _ => trivial) ?_ ?_
          · rintro t x σ Hb Hc ht ⟨y7, y13, R, rs, rfl, ub, bb, iR, rd⟩ ⟨rfl, rfl⟩
            rw [Int.toNat_natCast] at ht
            show gName 13 (V.int ((0 : Int) + (t : Nat))) _ _ _
            rw [show (0 : Int) + (t : Nat) = (t : Nat) by omega]
            have BB : But c H2 Hc := (ba.trans b6).trans bb
            have tBB := BB.tk u2
            refine ⟨.ref c, rfl, .ref ka, rfl, ka, kx, rfl, .inr (hka2.mono tBB).sq, c, (kx.length : Nat), rfl, ub, by omega, fun kk H8 kl u8 b8 => ?_⟩
            have hkk := List.getElem?_eq_getElem (show kk < ks.length by omega)
            generalize ks[kk] = kd at hkk
            have hdk := List.getElem?_eq_getElem (show kk < ds.length by rw [dok.len]; omega)
            generalize hdd : ds[kk]'(by rw [dok.len]; omega) = dk at hdk
            have dk16 := dok.d16 dk (List.mem_of_getElem? hdk)
            have htt := List.getElem?_eq_getElem (show t < (tlsS d).length by omega)
            generalize (tlsS d)[t] = tt at htt
            have eLd8 := b8 _ _ nLd (bb _ _ nLd eLd6)
            have eN8 := b8 _ _ nNc (BB _ _ nNc eN2)
            have hdm8 := (hdm2.mono tBB).mono (b8.tk ub)
            refine ⟨.ref R, rfl, .ref Ld, rfl, .int (t : Nat), rfl, Ld, _, _, .str tt, rfl, rfl, .of eLd8, atI_nat (by rw [List.getElem?_map, htt]; rfl), .ref N, rfl, .int (kk : Nat), rfl, N, _, _, .str kd.1, rfl, rfl, .of eN8, atI_nat (by rw [List.getElem?_map, List.getElem?_map, hkk]; rfl), ?_⟩
            refine ⟨.ref c, rfl, .ref Dm, rfl, .int (kk : Nat), rfl, Dm, _, _, .int (dk : Nat), rfl, rfl, hdm8.sq, atI_nat (by rw [List.getElem?_map, hdk]; rfl), c, dk, rfl, by omega, u8, fun pv rv H9 u9 b9 iv9 lv9 wv9 => ⟨by show 3 ≤ sizeLine; decide, fun P1 hP1 => ⟨by show 1 ≤ sizeLine; decide, fun P2 hP2 => ?_⟩⟩⟩
            have sP1 := same_new (o := .tup [V.str tt, .str kd.1, .ref pv]) hP1
            have sP2 := same_new (o := .tup [V.ref P1]) hP2
            have iP1 : Im K (upd H9 P1 (.tup [V.str tt, .str kd.1, .ref pv])) (.ref P1) (rdD (tt, kd.1, rv)) := .tup (.inl upd_same) (.cons (.str _) (.cons (.str _) (.cons (Im.mono (tk_new hP1) _ iv9) .nil)))
            obtain ⟨pR, rx, epR, hpR, hrx⟩ := iR.tuple_inv
            cases epR
            have lrx : rx.length = rs.length := all_len hrx
            have lrs : rs.length ≤ 3 := by
              have := congrArg List.length rd.nm
              rw [List.length_map, List.length_take] at this
              omega
            have tg := (((b8.trans b9).tk ub).trans (tk_same sP1)).trans (tk_same sP2)
            refine cat_any (hpR.mono tg) (.inl upd_same) (by rw [List.length_singleton]; omega) fun p H14 s14 ip => ?_
            refine ⟨_, _, p, rs ++ [(tt, kd.1, rv)], rfl, ((u9.same sP1).same sP2).same s14, ((bb.trans b8).trans b9).trans (but_same ((sP1.trans sP2).trans s14)), .tup ip ?_, ⟨?_, fun r hr' => ?_, fun r hr' => (List.mem_append.mp hr').elim (rd.wt r) fun h => by rw [List.mem_singleton.mp h]; exact wv9⟩⟩
            · rw [List.map_append]
              exact ImAll.app (ImAll.mono (tg.trans (tk_same s14)) _ hrx) (.cons (Im.mono ((tk_same sP2).trans (tk_same s14)) _ iP1) .nil)
            · rw [List.map_append, rd.nm, List.take_add_one, htt]; rfl
            · rcases List.mem_append.mp hr' with hr' | hr'
              · exact rd.kind r hr'
              · rw [List.mem_singleton.mp hr']
                refine ⟨List.mem_map.mpr ⟨kd, List.mem_of_getElem? hkk, rfl⟩, ?_⟩
                show rv.length = ds.getD ((ks.map (·.1)).idxOf kd.1) 0
                rw [idx_get ok.nd (i := kk) (by rw [List.getElem?_map, hkk]; rfl), lv9, getD_some hdk]
          · rintro σ Hb ⟨y7, y13, R, rs, rfl, ub, bb, iR, rd⟩
            rw [Int.toNat_natCast] at rd
            have BB : But c H2 Hb := (ba.trans b6).trans bb
            have tBB := BB.tk u2
            refine ⟨.ref ka, rfl, .ref Dm, rfl, .ref M, rfl, .ref R, rfl, by show 4 ≤ sizeLine; decide, fun Z hZ => ?_⟩
            have sZ := same_new (o := .tup [V.ref ka, .ref Dm, .ref M, .ref R]) hZ
            have tZ := tk_same sZ
            refine q Z ⟨ks, ds, maps, rs⟩ _ (ub.same sZ) ((b2.trans BB).trans (but_same sZ)) ?_ rfl (drf_mk ok k3' dok lM hM d4' rd)
            exact .tup (.inl upd_same) (.cons (.tup (hka2.mono (tBB.trans tZ)) (ImAll.mono (tBB.trans tZ) _ hkx2)) (.cons (.tup (hdm2.mono (tBB.trans tZ)) (nats_im _)) (.cons (Im.mono (((b6.trans bb).tk ua).trans tZ) _ iM) (.cons (Im.mono tZ _ iR) .nil))))
end
end K63

set_option Elab.async false
set_option linter.all false
set_option maxRecDepth 100000
set_option exponentiation.threshold 20000
set_option pp.deepTerms false
set_option pp.deepTerms.threshold 8
namespace K63
open PySem PySem.Spec PyProof.Rows L2 Ly Mt
theorem as_div {q : Rat} {t : Int} {n : Nat} (hn : n ≠ 0) (h : q * (n : Rat) = (t : Rat)) : q = Rat.divInt t n := by
  have h0 : ((n : Nat) : Rat) ≠ 0 := fun z => hn (Rat.natCast_eq_zero_iff.mp z)
  have e : q = q * (n : Rat) / (n : Rat) := (Rat.mul_div_cancel h0).symm
  rw [e, h, Rat.divInt_eq_div]; rfl
/-! ### bounds -/
def Sx (B d : Nat) (q : Rat) : Prop := ∃ t : Int, q * ((6 ^ d : Nat) : Rat) = (t : Rat) ∧ t.natAbs ≤ B * 6 ^ d
theorem sx_zero (B d : Nat) : Sx B d 0 := ⟨0, by rw [Rat.zero_mul]; rfl, by simp⟩
theorem Sx.mono {B C d e : Nat} {q : Rat} (h : Sx B d q) (hB : B ≤ C) (hd : d ≤ e) : Sx C e q := by
  obtain ⟨t, et, bt⟩ := h
  obtain ⟨f, rfl⟩ : ∃ f, e = d + f := ⟨e - d, by omega⟩
  refine ⟨t * ((6 ^ f : Nat) : Int), ?_, ?_⟩
  · rw [Nat.pow_add, Rat.natCast_mul, ← Rat.mul_assoc, et, Rat.intCast_mul, Rat.intCast_natCast]
  · rw [Int.natAbs_mul, Int.natAbs_natCast, Nat.pow_add, ← Nat.mul_assoc]
    exact Nat.mul_le_mul (Nat.le_trans bt (Nat.mul_le_mul hB (Nat.le_refl _))) (Nat.le_refl _)
theorem Sx.mul {B C d e : Nat} {x y : Rat} (h : Sx B d x) (k : Sx C e y) : Sx (B * C) (d + e) (x * y) := by
  obtain ⟨t, et, bt⟩ := h
  obtain ⟨u, eu, bu⟩ := k
  refine ⟨t * u, ?_, ?_⟩
  · rw [Nat.pow_add, Rat.natCast_mul, Rat.intCast_mul, ← et, ← eu]
    generalize ((6 ^ d : Nat) : Rat) = a
    generalize ((6 ^ e : Nat) : Rat) = b
    rw [Rat.mul_assoc, ← Rat.mul_assoc y a b, Rat.mul_comm y a, Rat.mul_assoc a y b, ← Rat.mul_assoc]
  · rw [Int.natAbs_mul, Nat.pow_add]
    calc t.natAbs * u.natAbs ≤ (B * 6 ^ d) * (C * 6 ^ e) := Nat.mul_le_mul bt bu
      _ = B * C * (6 ^ d * 6 ^ e) := by simp only [Nat.mul_assoc, Nat.mul_comm, Nat.mul_left_comm]
theorem Sx.add {B C d : Nat} {x y : Rat} (h : Sx B d x) (k : Sx C d y) : Sx (B + C) d (x + y) := by
  obtain ⟨t, et, bt⟩ := h
  obtain ⟨u, eu, bu⟩ := k
  refine ⟨t + u, ?_, ?_⟩
  · rw [Rat.add_mul, et, eu, Rat.intCast_add]
  · have := Int.natAbs_add_le t u
    rw [Nat.add_mul]
    omega
theorem Sx.neg {B d : Nat} {x : Rat} (h : Sx B d x) : Sx B d (-x) := by
  obtain ⟨t, et, bt⟩ := h
  exact ⟨-t, by rw [Rat.neg_mul, et, Rat.intCast_neg], by rw [Int.natAbs_neg]; exact bt⟩
theorem sx_int {B : Nat} {e : Int} (h : e.natAbs ≤ B) : Sx B 0 (e : Rat) := ⟨e, by show (e : Rat) * 1 = _; rw [Rat.mul_one], by simpa using h⟩
theorem sx_one {B d : Nat} (h : 1 ≤ B) : Sx B d 1 := (show Sx 1 0 1 from sx_int (e := 1) (by decide)).mono h (Nat.zero_le _)
def WB : Nat := 1000000000001
theorem sx_wt {q : Rat} (h : Wt q) : Sx WB 1 q := by
  obtain ⟨_, t, e, b⟩ := h
  exact ⟨t, e, b⟩
theorem Sx.bd {B d n m : Nat} {q : Rat} (h : Sx B d q) (hn : B * 6 ^ d < 2 ^ n) (hm : 6 ^ d < 2 ^ m) : Bd n m q := by
  obtain ⟨t, et, bt⟩ := h
  have h6 : 0 < 6 ^ d := Nat.pow_pos (by decide)
  rw [as_div (by omega) et]
  refine bd_divInt (by omega) (Nat.lt_of_le_of_lt bt hn) ?_
  rw [Int.natAbs_natCast]; exact hm
/-! ### products of entries -/
def pB : List (Nat × Nat) → Nat
  | [] => 1
  | b :: bs => b.1 * pB bs
def sB : List (Nat × Nat) → Nat
  | [] => 0
  | b :: bs => b.2 + sB bs
def PB : List (List Rat) → List (Nat × Nat) → Prop
  | [], [] => True
  | p :: ps, b :: bs => (1 ≤ b.1 ∧ ∀ q ∈ p, Sx b.1 b.2 q) ∧ PB ps bs
  | _, _ => False
theorem pB_pos : ∀ {ps : List (List Rat)} {bs : List (Nat × Nat)}, PB ps bs → 1 ≤ pB bs
  | [], [], _ => Nat.le_refl _
  | [], _ :: _, h => h.elim
  | _ :: _, [], h => h.elim
  | p :: ps, b :: bs, h => Nat.mul_le_mul h.1.1 (pB_pos h.2)
theorem prod_sx : ∀ {ps : List (List Rat)} {bs : List (Nat × Nat)}, PB ps bs → ∀ (cs : List Nat) (n : Nat), Sx (pB bs) (sB bs) (prodT (ps.take n) (cs.take n))
  | [], [], _, cs, n => by rw [List.take_nil]; exact sx_one (Nat.le_refl _)
  | [], _ :: _, h, _, _ => h.elim
  | _ :: _, [], h, _, _ => h.elim
  | p :: ps, b :: bs, h, cs, 0 => by
    rw [List.take_zero]
    exact sx_one (pB_pos (ps := p :: ps) h)
  | p :: ps, b :: bs, h, [], n + 1 => by
    rw [List.take_nil]
    exact sx_one (pB_pos (ps := p :: ps) h)
  | p :: ps, b :: bs, h, c :: cs, n + 1 => by
    show Sx (b.1 * pB bs) (b.2 + sB bs) (p.getD c 0 * prodT (ps.take n) (cs.take n))
    refine Sx.mul ?_ (prod_sx h.2 cs n)
    rw [List.getD_eq_getElem?_getD]
    by_cases hc : c < p.length
    · rw [List.getElem?_eq_getElem hc]
      exact h.1.2 _ (List.getElem_mem hc)
    · rw [List.getElem?_eq_none (by omega)]
      exact sx_zero _ _
theorem wth_sx {ps : List (List Rat)} {bs : List (Nat × Nat)} (h : PB ps bs) {r : Rat} (hr : Sx WB 1 r) (cs : List Nat) (n : Nat) : Sx (WB * pB bs) (1 + sB bs) (wth r ps cs n) := hr.mul (prod_sx h cs n)
theorem vec_sx {ps : List (List Rat)} {M D dim : Nat} {ts : List Tm} (h : ∀ t ∈ ts, Sx M D (t.2.2 * prodT ps t.2.1)) : ∀ (n : Nat), ∀ q ∈ vecT dim (ts.take n) ps, Sx (n * M) D q
  | 0, q, hq => by
    rw [List.take_zero] at hq
    have := List.eq_of_mem_replicate hq
    rw [this]
    exact sx_zero _ _
  | n + 1, q, hq => by
    cases e : ts[n]? with
    | none =>
      have hle := List.getElem?_eq_none_iff.mp e
      rw [List.take_of_length_le (by omega)] at hq
      have := vec_sx h n q (by rw [List.take_of_length_le (by omega)]; exact hq)
      exact this.mono (Nat.mul_le_mul (by omega) (Nat.le_refl _)) (Nat.le_refl _)
    | some t =>
      rw [vecT_snoc e] at hq
      unfold addTerm at hq
      rcases List.mem_or_eq_of_mem_set hq with hq | rfl
      · exact (vec_sx h n q hq).mono (Nat.mul_le_mul (by omega) (Nat.le_refl _)) (Nat.le_refl _)
      · rw [Nat.succ_mul]
        refine Sx.add ?_ (h t (List.mem_of_getElem? e))
        rw [List.getD_eq_getElem?_getD]
        by_cases hc : t.1 < (vecT dim (ts.take n) ps).length
        · rw [List.getElem?_eq_getElem hc]
          exact vec_sx h n _ (List.getElem_mem hc)
        · rw [List.getElem?_eq_none (by omega)]
          exact sx_zero _ _
/-! ### the vectors of rows -/
def EE : Nat := 2 ^ 140
structure Coef (F : Form) : Prop where
  few : ∀ i j, (termsAt F i j).length ≤ 12
  cf : ∀ i j, ∀ t ∈ termsAt F i j, Sx WB 1 t.2.2
def bOf (ns : List Str) (sz : List Nat) : List Str → List Int → List (Nat × Nat)
  | f :: fs, e :: es => (if f ∈ ns then (EE ^ sz.getD e.toNat 0, sz.getD e.toNat 0) else (2000000000, 0)) :: bOf ns sz fs es
  | _, _ => []
theorem bOf_s {ns : List Str} {sz : List Nat} : ∀ (fs : List Str) (es : List Int), sB (bOf ns sz fs es) = costI ns sz fs es
  | [], _ => by simp [bOf, sB, costI]
  | _ :: _, [] => by simp [bOf, sB, costI]
  | f :: fs, e :: es => by
    show _ + sB (bOf ns sz fs es) = _ + costI ns sz fs es
    rw [bOf_s fs es]
    split <;> rfl
theorem bOf_p {ns : List Str} {sz : List Nat} : ∀ (fs : List Str) (es : List Int), pB (bOf ns sz fs es) ≤ 2000000000 ^ fs.length * EE ^ costI ns sz fs es
  | [], _ => by simp [bOf, pB, costI]
  | f :: fs, [] => by
    show 1 ≤ 2000000000 ^ (fs.length + 1) * EE ^ 0
    rw [Nat.pow_zero, Nat.mul_one]
    exact Nat.pow_pos (by decide)
  | f :: fs, e :: es => by
    have ih := bOf_p (ns := ns) (sz := sz) fs es
    show _ * pB (bOf ns sz fs es) ≤ 2000000000 ^ (fs.length + 1) * EE ^ (_ + costI ns sz fs es)
    rw [Nat.pow_succ, Nat.pow_add]
    by_cases hf : f ∈ ns
    · rw [if_pos hf, if_pos hf]
      calc EE ^ sz.getD e.toNat 0 * pB (bOf ns sz fs es) ≤ EE ^ sz.getD e.toNat 0 * (2000000000 ^ fs.length * EE ^ costI ns sz fs es) := Nat.mul_le_mul (Nat.le_refl _) ih
        _ = 2000000000 ^ fs.length * (EE ^ sz.getD e.toNat 0 * EE ^ costI ns sz fs es) := Nat.mul_left_comm _ _ _
        _ ≤ _ := Nat.mul_le_mul (Nat.le_mul_of_pos_right _ (by decide)) (Nat.le_refl _)
    · rw [if_neg hf, if_neg hf, Nat.pow_zero, Nat.one_mul]
      calc 2000000000 * pB (bOf ns sz fs es) ≤ 2000000000 * (2000000000 ^ fs.length * EE ^ costI ns sz fs es) := Nat.mul_le_mul (Nat.le_refl _) ih
        _ = _ := by simp only [Nat.mul_assoc, Nat.mul_comm, Nat.mul_left_comm]
theorem take_get {α : Type} {l : List α} {t n : Nat} {x : α} (h : (l.take t)[n]? = some x) : n < t ∧ l[n]? = some x := by
  have := (List.getElem?_eq_some_iff.mp h).1
  rw [List.length_take] at this
  rw [List.getElem?_take, if_pos (by omega)] at h
  exact ⟨by omega, h⟩
theorem KindAt.of_take {ks : List Kd} {rows : List Rw} {t n i : Nat} (h : KindAt ks (rows.take t) n i) : KindAt ks rows n i := by
  obtain ⟨r, j, kd, m, e, a⟩ := h
  exact ⟨r, j, kd, m, (take_get e).2, a⟩
theorem KindAt.one {ks : List Kd} (ok : KindsOk ks) {rows : List Rw} {n i i' : Nat} (h : KindAt ks rows n i) (k : KindAt ks rows n i') : i = i' := by
  obtain ⟨r, j, kd, m, e, a⟩ := h
  obtain ⟨r', j', kd', m', e', a'⟩ := k
  rw [e] at e'
  obtain rfl := Option.some.inj e'
  exact (at_one ok a.hk a.hm a'.hk a'.hm (by rw [← a.nm, ← a'.nm])).1
/-- what is known of the vectors of the first rows -/
structure VB (F : Form) (rows : List Rw) (sz : List Nat) (t : Nat) : Prop where
  len : ∀ (n i : Nat) v, (vecsOf F (rows.take t))[n]? = some v → KindAt F.ks rows n i → v.length = F.dims.getD i 0
  sx : ∀ (n : Nat) v, (vecsOf F (rows.take t))[n]? = some v → ∀ q ∈ v, Sx (EE ^ sz.getD n 0) (sz.getD n 0) q
theorem parts_PB {F : Form} {rows : List Rw} {sz : List Nat} {t : Nat} (vb : VB F rows sz t) (tl : t ≤ rows.length) : ∀ (fs : List Str) (es : List Int), es.length = fs.length → (∀ (x : Nat) f e, fs[x]? = some f → es[x]? = some e → EntOk F.ks (rows.take t) f e) →
    PB (partsI (vecsOf F (rows.take t)) (fs.map (placeOf (F.ks.map (·.1)))) es) (bOf (F.ks.map (·.1)) sz fs es)
  | [], [], _, _ => trivial
  | [], _ :: _, h, _ => by simp at h
  | _ :: _, [], h, _ => by simp at h
  | f :: fs, e :: es, h, hent => by
    refine ⟨?_, parts_PB vb tl fs es (by simpa using h) fun x g d hg hd => hent (x + 1) g d (by simpa using hg) (by simpa using hd)⟩
    have h0 := hent 0 f e rfl rfl
    by_cases hf : f ∈ F.ks.map (·.1)
    · obtain ⟨n, rfl, hn, _⟩ := h0.1 hf
      dsimp only
      rw [if_pos hf, if_neg (fun z => place_num.mp z hf), Int.toNat_natCast]
      refine ⟨Nat.pow_pos (by decide), ?_⟩
      have hl : n < (vecsOf F (rows.take t)).length := by rw [vecsOf_len]; exact hn
      intro q hq
      rw [List.getD_eq_getElem?_getD, List.getElem?_eq_getElem hl] at hq
      exact vb.sx n _ (List.getElem?_eq_getElem hl) q hq
    · dsimp only
      rw [if_neg hf, if_pos (place_num.mpr hf)]
      refine ⟨by decide, fun q hq => ?_⟩
      have hq' : q = 1 ∨ q = (e : Rat) := by simpa using hq
      rcases hq' with rfl | rfl
      · exact sx_one (by decide)
      · exact sx_int (h0.2 hf)
theorem pow_big {c : Nat} (h : c ≤ 121) : EE ^ c * 6 ^ c < 2 ^ 18000 ∧ 6 ^ c < 2 ^ 400 := by
  have e : EE ^ c = 2 ^ (140 * c) := (Nat.pow_mul 2 140 c).symm
  have h6 : 6 ^ c ≤ 2 ^ (3 * c) := by
    rw [Nat.pow_mul 2 3 c]
    exact Nat.pow_le_pow_left (by decide) c
  constructor
  · rw [e]
    calc 2 ^ (140 * c) * 6 ^ c ≤ 2 ^ (140 * c) * 2 ^ (3 * c) := Nat.mul_le_mul (Nat.le_refl _) h6
      _ = 2 ^ (140 * c + 3 * c) := (Nat.pow_add ..).symm
      _ < 2 ^ 18000 := Nat.pow_lt_pow_right (by decide) (by omega)
  · exact Nat.lt_of_le_of_lt h6 (Nat.pow_lt_pow_right (by decide) (by omega))
theorem PB_bd : ∀ {ps : List (List Rat)} {bs : List (Nat × Nat)}, PB ps bs → (∀ b ∈ bs, b.1 * 6 ^ b.2 < 2 ^ 18000 ∧ 6 ^ b.2 < 2 ^ 400) → ∀ v ∈ ps, ∀ q ∈ v, Bd 18000 400 q
  | [], [], _, _ => fun v hv => by simp at hv
  | [], _ :: _, h, _ => h.elim
  | _ :: _, [], h, _ => h.elim
  | p :: ps, b :: bs, h, hb => fun v hv q hq => by
    have h0 := hb b (List.mem_cons_self ..)
    rcases List.mem_cons.mp hv with rfl | hv
    · exact (h.1.2 q hq).bd h0.1 h0.2
    · exact PB_bd h.2 (fun b hb' => hb b (List.mem_cons_of_mem _ hb')) v hv q hq
theorem bOf_bd {ns : List Str} {sz : List Nat} (h30 : ∀ s ∈ sz, s ≤ 121) : ∀ (fs : List Str) (es : List Int), ∀ b ∈ bOf ns sz fs es, b.1 * 6 ^ b.2 < 2 ^ 18000 ∧ 6 ^ b.2 < 2 ^ 400
  | [], _, b, hb => by simp [bOf] at hb
  | _ :: _, [], b, hb => by simp [bOf] at hb
  | f :: fs, e :: es, b, hb => by
    have hb' : b = (if f ∈ ns then (EE ^ sz.getD e.toNat 0, sz.getD e.toNat 0) else (2000000000, 0)) ∨ b ∈ bOf ns sz fs es := List.mem_cons.mp hb
    rcases hb' with rfl | hb'
    · split
      · refine pow_big ?_
        rw [List.getD_eq_getElem?_getD]
        by_cases hc : e.toNat < sz.length
        · rw [List.getElem?_eq_getElem hc]
          exact h30 _ (List.getElem_mem hc)
        · rw [List.getElem?_eq_none (by omega)]
          exact Nat.zero_le 121
      · refine ⟨?_, ?_⟩
        · show 2000000000 * 6 ^ 0 < 2 ^ 18000
          rw [Nat.pow_zero, Nat.mul_one]
          calc 2000000000 < 2 ^ 31 := by decide
            _ ≤ 2 ^ 18000 := Nat.pow_le_pow_right (by decide) (by decide)
        · show 6 ^ 0 < 2 ^ 400
          rw [Nat.pow_zero]
          exact Nat.one_lt_two_pow (by decide)
    · exact bOf_bd h30 fs es b hb'
theorem parts_at {acc : List (List Rat)} {fl es : List Int} {x : Nat} {p : List Rat} (h : (partsI acc fl es)[x]? = some p) : ∃ f e, fl[x]? = some f ∧ es[x]? = some e ∧ p = if f = -1 then [1, (e : Rat)] else acc.getD e.toNat [] := by
  unfold partsI at h
  rw [List.getElem?_zipWith] at h
  cases hf : fl[x]? with
  | none => rw [hf] at h; simp at h
  | some f =>
    cases he : es[x]? with
    | none => rw [hf, he] at h; simp at h
    | some e =>
      rw [hf, he] at h
      exact ⟨f, e, rfl, rfl, (Option.some.inj h).symm⟩
theorem parts_len {F : Form} {rows : List Rw} {sz : List Nat} {t : Nat} (vb : VB F rows sz t) {fs : List Str} {es : List Int} (hent : ∀ (x : Nat) f e, fs[x]? = some f → es[x]? = some e → EntOk F.ks (rows.take t) f e) {x : Nat} {p : List Rat}
    (h : (partsI (vecsOf F (rows.take t)) (fs.map (placeOf (F.ks.map (·.1)))) es)[x]? = some p) : ∃ f, fs[x]? = some f ∧ p.length = wd (F.ks.map (·.1)) F.dims f := by
  obtain ⟨fl, e, h1, h2, rfl⟩ := parts_at h
  rw [List.getElem?_map] at h1
  obtain ⟨f, hf, rfl⟩ := Option.map_eq_some_iff.mp h1
  refine ⟨f, hf, ?_⟩
  unfold wd
  have h0 := hent x f e hf h2
  by_cases hin : f ∈ F.ks.map (·.1)
  · rw [if_pos hin, if_neg (fun z => place_num.mp z hin)]
    obtain ⟨n, rfl, hn, ka⟩ := h0.1 hin
    have hl : n < (vecsOf F (rows.take t)).length := by rw [vecsOf_len]; exact hn
    rw [Int.toNat_natCast, List.getD_eq_getElem?_getD, List.getElem?_eq_getElem hl]
    exact vb.len n _ _ (List.getElem?_eq_getElem hl) ka.of_take
  · rw [if_neg hin, if_pos (place_num.mpr hin)]; rfl
theorem vb_step {wide : Nat} {F : Form} (ok : FormOk wide F) (cf : Coef F) (sm : SmallK 3 F.ks) {rows : List Rw} {sz : List Nat} {hd : List Str} (rs : RS F.ks rows sz hd) {t : Nat} {r : Rw} (hr : rows[t]? = some r) (vb : VB F rows sz t) :
    (∀ i j kd m, At F.ks r i j kd m → VecJob (F.dims.getD i 0) (termsAt F i j) (partsI (vecsOf F (rows.take t)) (m.2.map (placeOf (F.ks.map (·.1)))) r.2)) ∧ VB F rows sz (t + 1) := by
  have ht := (List.getElem?_eq_some_iff.mp hr).1
  obtain ⟨i, j, kd, m, a, l, hent, hcost⟩ := rs.each t r hr
  have l3 := sm.fld kd (List.mem_of_getElem? a.hk) m (List.mem_of_getElem? a.hm)
  have s30 : sz.getD t 0 ≤ 121 := by
    rw [List.getD_eq_getElem?_getD, List.getElem?_eq_getElem (by have := rs.lsz; omega)]
    exact rs.s30 _ (List.getElem_mem _)
  obtain ⟨dim, row, ts, hdim, hrow, hts, ed, et⟩ := ok.at a.hk a.hm
  have tok := ok.tm i kd row a.hk hrow j m ts a.hm hts
  have few := cf.few i j
  have hcf := cf.cf i j
  rw [et] at few hcf
  rw [ed] at tok
  have pb := parts_PB vb (by omega) m.2 r.2 l hent
  generalize hps : partsI (vecsOf F (rows.take t)) (m.2.map (placeOf (F.ks.map (·.1)))) r.2 = ps at *
  have lps : ps.length = m.2.length := by
    rw [← hps]
    unfold partsI
    rw [List.length_zipWith, List.length_map]; omega
  have hsB := bOf_s (ns := F.ks.map (·.1)) (sz := sz) m.2 r.2
  have hpB := bOf_p (ns := F.ks.map (·.1)) (sz := sz) m.2 r.2
  generalize hbs : bOf (F.ks.map (·.1)) sz m.2 r.2 = bs at *
  generalize hc : costI (F.ks.map (·.1)) sz m.2 r.2 = cost at *
  generalize hs : sz.getD t 0 = sT at *
  have hM : 12 * (WB * pB bs) ≤ EE ^ sT := by
    have h1 : 2000000000 ^ m.2.length ≤ 2000000000 ^ 3 := Nat.pow_le_pow_right (by decide) l3
    have h2 : EE ^ (1 + cost) ≤ EE ^ sT := Nat.pow_le_pow_right (by decide) hcost
    have h3 : EE ^ (1 + cost) = EE * EE ^ cost := by rw [Nat.add_comm, Nat.pow_succ, Nat.mul_comm]
    have h4 : pB bs ≤ 2000000000 ^ 3 * EE ^ cost := Nat.le_trans hpB (Nat.mul_le_mul h1 (Nat.le_refl _))
    have h5 : 12 * WB * 2000000000 ^ 3 ≤ EE := by decide
    calc 12 * (WB * pB bs) = 12 * WB * pB bs := (Nat.mul_assoc ..).symm
      _ ≤ 12 * WB * (2000000000 ^ 3 * EE ^ cost) := Nat.mul_le_mul (Nat.le_refl _) h4
      _ = 12 * WB * 2000000000 ^ 3 * EE ^ cost := (Nat.mul_assoc ..).symm
      _ ≤ EE * EE ^ cost := Nat.mul_le_mul h5 (Nat.le_refl _)
      _ = EE ^ (1 + cost) := h3.symm
      _ ≤ _ := h2
  have big := pow_big s30
  have up : ∀ {q : Rat}, Bd 18000 400 q → Bd 44000 4400 q := fun h => h.mono (by decide) (by decide)
  have hw : ∀ tm ∈ ts, ∀ n, Sx (WB * pB bs) (1 + sB bs) (wth tm.2.2 ps tm.2.1 n) := fun tm htm n => wth_sx pb (hcf tm htm) _ n
  have hv : ∀ n, ∀ q ∈ vecT dim (ts.take n) ps, Sx (EE ^ sT) sT q := fun n q hq => by
    have h1 : ∀ tm ∈ ts, Sx (WB * pB bs) (1 + sB bs) (tm.2.2 * prodT ps tm.2.1) := fun tm htm => by
      have := hw tm htm ps.length
      rw [wth_all (Nat.le_refl _) (by rw [(tok.each tm htm).len, List.length_map]; omega)] at this
      exact this
    by_cases hn : n ≤ 12
    · exact (vec_sx h1 n q hq).mono (Nat.le_trans (Nat.mul_le_mul hn (Nat.le_refl _)) hM) (by omega)
    · rw [List.take_of_length_le (by omega)] at hq
      have h2 := vec_sx h1 12 q (by rw [List.take_of_length_le few]; exact hq)
      exact h2.mono hM (by omega)
  have job : VecJob dim ts ps := by
    refine ⟨by omega, fun tm htm => (tok.each tm htm).row, fun tm htm => by rw [(tok.each tm htm).len, List.length_map]; exact lps.symm, fun tm htm x c v hc hv' => ?_, fun tm htm n => ?_, fun v hv' q hq => ?_, fun n q hq => ?_⟩
    · rw [← hps] at hv'
      obtain ⟨f, hf, hl⟩ := parts_len vb hent hv'
      rw [hl]
      exact (tok.each tm htm).cols x c _ hc (by rw [List.getElem?_map, hf]; rfl)
    · exact up (((hw tm htm n).mono (Nat.le_trans (Nat.le_mul_of_pos_left _ (by decide)) hM) (by omega)).bd big.1 big.2)
    · exact up (PB_bd pb (by rw [← hbs]; exact bOf_bd rs.s30 m.2 r.2) v hv' q hq)
    · exact ((hv n q hq).bd big.1 big.2).mono (by decide) (by decide)
  have enew : vecsOf F (rows.take (t + 1)) = vecsOf F (rows.take t) ++ [vecT dim ts ps] := by
    rw [vecsOf_snoc hr]
    unfold vecStep
    rw [rowOf_at ok.kinds a]
    show vecsOf F (rows.take t) ++ [vecT (F.dims.getD i 0) (termsAt F i j) (partsI (vecsOf F (rows.take t)) (m.2.map (placeOf (F.ks.map (·.1)))) r.2)] = _
    rw [ed, et, hps]
  have lvo : (vecsOf F (rows.take t)).length = t := by rw [vecsOf_len, List.length_take]; omega
  refine ⟨fun i' j' kd' m' a' => ?_, ⟨fun n i' v hn ka => ?_, fun n v hn q hq => ?_⟩⟩
  · obtain ⟨rfl, rfl⟩ := at_one ok.kinds a.hk a.hm a'.hk a'.hm (by rw [← a.nm, ← a'.nm])
    have h1 := a'.hk
    rw [a.hk] at h1
    obtain rfl := Option.some.inj h1
    have h2 := a'.hm
    rw [a.hm] at h2
    obtain rfl := Option.some.inj h2
    rw [ed, et, hps]
    exact job
  · rw [enew] at hn
    rcases get_snoc hn with hn2 | ⟨hn2, rfl⟩
    · exact vb.len n i' v hn2 ka
    · rw [vecT_len]
      have ka' : KindAt F.ks rows n i := ⟨r, j, kd, m, by rw [hn2, lvo]; exact hr, a⟩
      rw [ka.one ok.kinds ka', ed]
  · rw [enew] at hn
    rcases get_snoc hn with hn2 | ⟨hn2, rfl⟩
    · exact vb.sx n v hn2 q hq
    · rw [hn2, lvo, hs]
      exact hv ts.length q (by rw [List.take_of_length_le (Nat.le_refl _)]; exact hq)
theorem vb_all {wide : Nat} {F : Form} (ok : FormOk wide F) (cf : Coef F) (sm : SmallK 3 F.ks) {rows : List Rw} {sz : List Nat} {hd : List Str} (rs : RS F.ks rows sz hd) : ∀ t, t ≤ rows.length → VB F rows sz t
  | 0, _ => ⟨fun n i v h => by simp [vecsOf] at h, fun n v h => by simp [vecsOf] at h⟩
  | t + 1, h => (vb_step ok cf sm rs (List.getElem?_eq_getElem (by omega)) (vb_all ok cf sm rs t (by omega))).2
theorem vecs_job {wide : Nat} {F : Form} (ok : FormOk wide F) (cf : Coef F) (sm : SmallK 3 F.ks) {rows : List Rw} {sz : List Nat} {hd : List Str} (rs : RS F.ks rows sz hd) : VecsJob F rows :=
  ⟨fun t r i j kd m hr a => (vb_step ok cf sm rs hr (vb_all ok cf sm rs t (by have := (List.getElem?_eq_some_iff.mp hr).1; omega))).1 i j kd m a⟩
theorem drf_coef {F : Form} (h : Drf F) : Coef F := ⟨fun i j => Nat.le_trans (h.few i j) (by decide), fun i j t ht => sx_wt (h.wt i j t ht)⟩
end K63

set_option Elab.async false
set_option linter.all false
set_option maxRecDepth 100000
set_option exponentiation.threshold 20000
set_option pp.deepTerms false
set_option pp.deepTerms.threshold 8
namespace K63
open PySem PySem.Spec PyProof.Rows L2 Ly Mt
/-! ### dicts of makers -/
structure TabG (K : PySem.W.Frag) (H : Hp) (d : Addr) (g : MR → PyData) (rs : List MR) : Prop where
  ex : ∃ kvs : List (Key × V), H d = some (.dK kvs) ∧ kvs.map (·.1) = rs.map (fun r => Sum.inr r.1) ∧ ImAll K H (kvs.map (·.2)) (rs.map g)
theorem TabG.keep {K : PySem.W.Frag} {H H' : Hp} {d : Addr} {g : MR → PyData} {rs : List MR} (h : TabG K H d g rs) (e : ∀ o, H d = some o → H' d = some o) (t : TK H H') : TabG K H' d g rs := by
  obtain ⟨kvs, e0, h1, h2⟩ := h
  exact ⟨kvs, e _ e0, h1, ImAll.mono t _ h2⟩
theorem TabG.same {K : PySem.W.Frag} {H H' : Hp} {d : Addr} {g : MR → PyData} {rs : List MR} (h : TabG K H d g rs) (s : Same H H') : TabG K H' d g rs := h.keep (fun o e => s _ _ e) (tk_same s)
theorem valG_at {K : PySem.W.Frag} {H : Hp} {g : MR → PyData} : ∀ {kvs : List (Key × V)} {rs : List MR} {i : Nat} {r : MR}, kvs.map (·.1) = rs.map (fun r => Sum.inr r.1) → (rs.map (·.1)).Nodup → ImAll K H (kvs.map (·.2)) (rs.map g) → rs[i]? = some r → ∃ v, valV kvs (Sum.inr r.1) = some v ∧ Im K H v (g r)
  | [], [], i, r, _, _, _, h => by simp at h
  | p :: kvs, q :: rs, 0, r, h1, nd, im, h => by
    obtain rfl : q = r := by simpa using h
    rw [List.map_cons, List.map_cons] at h1
    injection h1 with e1 e2
    obtain ⟨v, vs, e3, i1, _⟩ := im.cons_inv
    injection e3 with e4 e5
    exact ⟨p.2, valV_pos e1, by have e5 : p.2 = v := e4; rw [e5]; exact i1⟩
  | p :: kvs, q :: rs, i + 1, r, h1, nd, im, h => by
    have hr : rs[i]? = some r := by simpa using h
    rw [List.map_cons, List.map_cons] at h1
    injection h1 with e1 e2
    obtain ⟨v, vs, e3, i1, ir⟩ := im.cons_inv
    injection e3 with e4 e5
    rw [List.map_cons, List.nodup_cons] at nd
    rw [← e5] at ir
    obtain ⟨u, h3, h4⟩ := valG_at e2 nd.2 ir hr
    refine ⟨u, ?_, h4⟩
    rw [valV_neg (fun z => nd.1 ?_)]
    · exact h3
    · rw [e1] at z
      have : q.1 = r.1 := Sum.inr.inj z
      rw [this]
      exact List.mem_map.mpr ⟨r, List.mem_of_getElem? hr, rfl⟩
  | [], _ :: _, _, _, h1, _, _, _ => by simp at h1
  | _ :: _, [], _, _, h1, _, _, _ => by simp at h1
theorem TabG.put {K : PySem.W.Frag} {H : Hp} {d : Addr} {v : V} {g : MR → PyData} {rs : List MR} {r : MR} {kvs : List (Key × V)} (e : H d = some (.dK kvs)) (h1 : kvs.map (·.1) = rs.map (fun r => Sum.inr r.1)) (h2 : ImAll K H (kvs.map (·.2)) (rs.map g)) (hn : r.1 ∉ rs.map (·.1)) (iT : Im K H v (g r)) :
    TabG K (upd H d (.dK (putK kvs (Sum.inr r.1) v))) d g (rs ++ [r]) := by
  have hv : valV kvs (Sum.inr r.1) = none := valV_none (by
    rw [h1]
    intro z
    obtain ⟨x, hx, ex⟩ := List.mem_map.mp z
    exact hn (List.mem_map.mpr ⟨x, hx, Sum.inr.inj ex⟩))
  rw [putK_new _ hv]
  have tk := tk_dK (o := .dK (kvs ++ [(Sum.inr r.1, v)])) e
  refine ⟨_, upd_same, by rw [List.map_append, List.map_append, h1]; rfl, ?_⟩
  rw [List.map_append, List.map_append]
  exact (ImAll.mono tk _ h2).snoc (Im.mono tk _ iT)
theorem mrs_names (ks : List Kd) : (mrs ks).map (·.1) = (allMk ks).map (·.1) := by
  rw [← rows_names]
  unfold mrs mrsOf rowsOf
  rw [List.map_flatMap, List.map_flatMap]
  congr 1
  funext k
  unfold mrK kindRows
  rw [List.map_map, List.map_map]; rfl
theorem mrs_nd {ks : List Kd} (ok : KindsOk ks) : ((mrs ks).map (·.1)).Nodup := by rw [mrs_names]; exact ok.ndm
theorem tg_get {K : PySem.W.Frag} {H : Hp} {d : Addr} {ks : List Kd} {g : MR → PyData} (tb : TabG K H d g (mrs ks)) (ok : KindsOk ks) {i j : Nat} {kd : Kd} {m : Mk} (hk : ks[i]? = some kd) (hm : kd.2[j]? = some m) : ∃ v, DGet H d (.str m.1) (some v) ∧ Im K H v (g (m.1, m.2, kd.1, i, j)) := by
  obtain ⟨n, hn⟩ := List.getElem?_of_mem (mrs_mem.mpr ⟨i, kd, j, m, hk, hm, rfl⟩)
  obtain ⟨kvs, e, h1, h2⟩ := tb.ex
  obtain ⟨v, hv, iv⟩ := valG_at h1 (mrs_nd ok) h2 hn
  refine ⟨v, ?_, iv⟩
  have g : DGet H d (kV (Sum.inr m.1)) (valV kvs (Sum.inr m.1)) := .k e
  have hv' : valV kvs (Sum.inr m.1) = some v := hv
  rw [hv'] at g
  exact g
def tD (r : MR) : PyData := .tuple [sD r.2.1, nD r.2.2.2.1, nD r.2.2.2.2]
section
variable {P : Program} {w : World} {K : PySem.W.Frag} {mg : Str → Option Value} {base : Heap}
abbrev s__law_vectors : Stmt := topS 68
theorem sc__law_vectors : FnScope ["form", "rows", "table", "maker", "fields", "kind", "k", "m", "found", "entries", "vector", "row", "cols", "ratio", "worth", "at"] ["form", "rows"] (defScope s__law_vectors) := ⟨rfl, rfl, rfl, by decide +kernel, rfl, by decide +kernel, by decide +kernel⟩
def sp_lvectors (K : PySem.W.Frag) : Sp := fun vs H Q _ => ∃ (v u : V) (F : Form) (rows : List Rw) (wide : Nat), vs = [v, u] ∧ Im K H v (fmD F) ∧ Im K H u (rwsD rows) ∧ FormOk wide F ∧ RowsOk F.ks rows ∧ VecsJob F rows ∧ ∀ D ws H', Same H H' → H D = none → H' D = some (.lst ws) → ImAll K H' ws ((vecsOf F rows).map vD) → Q (.ref D) H'
set_option maxHeartbeats 4000000 in
theorem ok__law_vectors {f : Addr} {fd : FuncData} {k : Nat} (F : Fun K "_law_vectors" "_law_vectors" s__law_vectors f fd) (T : Tx K mg){k1 : Nat} (D__law_makers : Def P w K mg base k1 "_law_makers" s__law_makers ["kinds"] (sp_makers K)) {k2 : Nat} (D__law_plus : Def P w K mg base k2 "_law_plus" s__law_plus ["one", "other"] (sp_lplus K)) {k3 : Nat} (D__law_times : Def P w K mg base k3 "_law_times" s__law_times ["one", "other"] (sp_ltimes K)) (e1 : k1 ≤ k) (e2 : k2 ≤ k) (e3 : k3 ≤ k) : FnOk P w K mg base CX0 (k + 1) f fd ["form", "rows"] (sp_lvectors K) := by
  have nd := sc__law_vectors.nd
  refine F.ok sc__law_vectors (fun vs H Q E h => ?_) (fun cdv A outer s H vs Q E hr h => ?_)
  · obtain ⟨_, _, _, _, _, rfl, _⟩ := h
    rfl
  · obtain ⟨v, u, F', rows, wide, rfl, iv, iu, ok, ro, job, q⟩ := h
    obtain ⟨a, x1, x2, x3, x4, rfl, ha, i1, i2, i3, i4⟩ := im_quad iv
    obtain ⟨c, ds, rfl, hc, hds⟩ := i2.tuple_inv
    obtain rfl := im_nats hds
    obtain ⟨pm, ms, rfl, hpm, hms⟩ := i3.tuple_inv
    obtain ⟨b, xs, rfl, hb, hx⟩ := iu.tuple_inv
    have lx := all_len hx
    have few := ro.few
    have kf := ok.kinds
    have kf6 := kf.few
    refine ⟨_, (pss_cons (ps_set (i := 2) nd rfl (.inl rfl) pe_dnewK)
      (pss_cons (ps_for PassesOwn.never rfl (kpi_list K (pe_def D__law_makers (hr.mono (by omega)) rfl (pa_cons (pe_ix (kix_tup K) (pv 0) pe_int (fun _ _ => rfl)) pa_nil))) (kpg_tup K (n := 5) rfl (pgs_cons (pg_name (i := 3) nd rfl (.inl rfl)) (pgs_cons (pg_name (i := 4) nd rfl (.inl rfl)) (pgs_cons (pg_name (i := 5) nd rfl (.inl rfl)) (pgs_cons (pg_name (i := 6) nd rfl (.inl rfl)) (pgs_cons (pg_name (i := 7) nd rfl (.inl rfl)) pgs_nil))))))
        (pss_one (ps_dput (hu_of hr) (pv 2) (pv 3) (pe_tup (pa_cons (pv 4) (pa_cons (pv 6) (pa_cons (pv 7) pa_nil)))) rfl)))
      (pss_cons (ps_set (i := 8) nd rfl (.inl rfl) (pe_lst pa_nil))
      (pss_cons (ps_for PassesOwn.never rfl (kpi_tup K (pv 1)) (kpg_tup K (n := 2) rfl (pgs_cons (pg_name (i := 3) nd rfl (.inl rfl)) (pgs_cons (pg_name (i := 9) nd rfl (.inl rfl)) pgs_nil)))
        (pss_cons (ps_asg (pe_dget (hu_of hr) (pv 2) (pv 3) (fun _ _ => rfl)) (kpg_tup K (n := 3) rfl (pgs_cons (pg_name (i := 4) nd rfl (.inl rfl)) (pgs_cons (pg_name (i := 6) nd rfl (.inl rfl)) (pgs_cons (pg_name (i := 7) nd rfl (.inl rfl)) pgs_nil)))))
        (pss_cons (ps_set (i := 10) nd rfl (.inl rfl) (pe_op op_rep (pe_lst (pa_cons (pe_tup (pa_cons pe_int (pa_cons pe_int pa_nil))) pa_nil)) (pe_ix (kix_tup K) (pe_ix (kix_tup K) (pv 0) pe_int (fun _ _ => rfl)) (pv 6) (fun _ _ => rfl))))
        (pss_cons (ps_for PassesOwn.never rfl (kpi_tup K (pe_ix (kix_tup K) (pe_ix (kix_tup K) (pe_ix (kix_tup K) (pv 0) pe_int (fun _ _ => rfl)) (pv 6) (fun _ _ => rfl)) (pv 7) (fun _ _ => rfl))) (kpg_tup K (n := 3) rfl (pgs_cons (pg_name (i := 11) nd rfl (.inl rfl)) (pgs_cons (pg_name (i := 12) nd rfl (.inl rfl)) (pgs_cons (pg_name (i := 13) nd rfl (.inl rfl)) pgs_nil))))
          (pss_cons (ps_set (i := 14) nd rfl (.inl rfl) (pv 13))
          (pss_cons (ps_for PassesOwn.never rfl (pi_range1 rfl T.m_range (pa_cons (pe_callB (kcall_len K) (by rfl) T.m_len PySem.boot_len (pa_cons (pv 4) pa_nil)) pa_nil)) (pg_name (i := 15) nd rfl (.inl rfl))
            (pss_one (ps_if (pt_cmpR op_ne (pe_ix (kix_tup K) (pv 4) (pv 15) (fun _ _ => rfl)) pe_str (nomark _))
              (pss_one (ps_set (i := 14) nd rfl (.inl rfl) (pe_def D__law_times (hr.mono (by omega)) rfl (pa_cons (pv 14) (pa_cons (pe_ix (kix_tup K) (pe_ix (kix_list K) (pv 8) (pe_ix (kix_tup K) (pv 9) (pv 15) (fun _ _ => rfl)) (fun _ _ => rfl)) (pe_ix (kix_tup K) (pv 12) (pv 15) (fun _ _ => rfl)) (fun _ _ => rfl)) pa_nil)))))
              (pss_one (ps_if (pt_cmpR op_eq (pe_ix (kix_tup K) (pv 12) (pv 15) (fun _ _ => rfl)) pe_int (nomark _))
                (pss_one (ps_set (i := 14) nd rfl (.inl rfl) (pe_def D__law_times (hr.mono (by omega)) rfl (pa_cons (pv 14) (pa_cons (pe_tup (pa_cons (pe_ix (kix_tup K) (pv 9) (pv 15) (fun _ _ => rfl)) (pa_cons pe_int pa_nil))) pa_nil)))))
                pss_nil)))))
          (pss_one (ps_asg (pe_def D__law_plus (hr.mono (by omega)) rfl (pa_cons (pe_ix (kix_list K) (pv 10) (pv 11) (fun _ _ => rfl)) (pa_cons (pv 14) pa_nil))) (pg_sub (pv 10) (pv 11) set_list))))))
        (pss_one (ps_expr (pe_bm PySem.F.plainAttrs_list PySem.F.slot_list_append PySem.F.type_list_append mt_append (pv 8) (pa_cons (pe_callTy (kcall_tuple K) (by rfl) T.m_tuple (by decide +kernel) (pa_cons (pv 10) pa_nil)) pa_nil))))))))
      (pss_one (ps_ret (pv 8))))))), ?_⟩
    intro d hd
    have s1 := same_new (o := .dK []) hd
    have ed : (upd H d (.dK [])) d = some (.dK []) := upd_same
    show gName 2 (V.ref d) _ (upd H d (.dK [])) _
    generalize upd H d (.dK []) = H1 at *
    have t1 := tk_same s1
    refine ⟨.ref a, rfl, a, _, 0, _, rfl, rfl, (ha.mono t1).sq, atI_nat (j := 0) rfl, x1, F'.ks, rfl, Im.mono t1 _ i1, kf, fun D ws H2 s2 hD eD imD => ⟨D, rfl, ⟨_, .of eD⟩, ?_⟩⟩
    have ed2 := s2 _ _ ed
    have ndD : D ≠ d := (ne_of_none ed hD).symm
    have lws : ws.length = (mrs F'.ks).length := all_len imD
    have fewm : (mrs F'.ks).length ≤ 6 * F'.ks.length := mrs_few kf F'.ks.length (Nat.le_refl _)
    refine for_it (walk_list (xs := ws)) (fun j σ Hx => ∃ (y3 y4 y5 y6 y7 : Option V), σ = [some (.ref a), some (.ref b), some (.ref d), y3, y4, y5, y6, y7, none, none, none, none, none, none, none, none] ∧ Bar' d H2 Hx ∧ TabG K Hx d tD ((mrs F'.ks).take j)) ⟨_, _, _, _, _, rfl, fun b o _ e => e, ⟨[], ed2, rfl, .nil⟩⟩ (fun j σ Hx _ z => ?_) ?_ ?_
    · obtain ⟨_, _, _, _, _, _, bar, _⟩ := z
      exact .of (bar _ _ ndD eD)
    · rintro j x σ Hx Hy hj ⟨y3, y4, y5, y6, y7, rfl, bar, tb⟩ ⟨rfl, hxj⟩
      have tbar : TK H2 Hy := fun b xs e => bar b _ (fun z => by subst z; rw [ed2] at e; cases e) e
      obtain ⟨r, hr1, ir⟩ := all_get (ImAll.mono tbar _ imD) hxj
      obtain ⟨pr, w1, w2, w3, w4, w5, rfl, hpr, j1, j2, j3, j4, j5⟩ := im_five ir
      obtain rfl := j1.str_inv
      obtain rfl := j3.str_inv
      obtain rfl := j4.int_inv
      obtain rfl := j5.int_inv
      refine ⟨pr, _, rfl, hpr.sq, rfl, .str r.1, _, rfl, w2, _, rfl, .str r.2.2.1, _, rfl, .int (r.2.2.2.1 : Nat), _, rfl, .int (r.2.2.2.2 : Nat), _, rfl, rfl, ?_⟩
      refine ⟨w2, rfl, .int (r.2.2.2.1 : Nat), rfl, .int (r.2.2.2.2 : Nat), rfl, by show 3 ≤ sizeLine; decide, fun T hT => ?_⟩
      have sT := same_new (o := .tup [w2, .int (r.2.2.2.1 : Nat), .int (r.2.2.2.2 : Nat)]) hT
      have iT : Im K (upd Hy T (.tup [w2, .int (r.2.2.2.1 : Nat), .int (r.2.2.2.2 : Nat)])) (.ref T) (tD r) := .tup (.inl upd_same) (.cons (Im.mono (tk_new hT) _ j2) (.cons (.int _) (.cons (.int _) .nil)))
      have tbT := tb.same sT
      generalize upd Hy T (.tup [w2, .int (r.2.2.2.1 : Nat), .int (r.2.2.2.2 : Nat)]) = H5 at *
      obtain ⟨kvs, ek, h1, h2⟩ := tbT.ex
      have lk : kvs.length ≤ 100 := by
        have := congrArg List.length h1
        rw [List.length_map, List.length_map, List.length_take] at this
        omega
      refine ⟨.ref d, rfl, .str r.1, rfl, d, _, rfl, .k (k := Sum.inr r.1) ek (small1000 (by omega)), ?_⟩
      refine ⟨_, _, _, _, _, rfl, fun b o nb e => ?_, ?_⟩
      · rw [upd_ne nb]; exact sT _ _ (bar b o nb e)
      · rw [List.take_add_one, hr1]
        refine TabG.put (r := r) ek h1 h2 ?_ iT
        have ndm := mrs_nd kf
        intro z
        obtain ⟨n, hn⟩ := List.getElem?_of_mem z
        rw [List.getElem?_map, List.getElem?_take] at hn
        split at hn
        · next hlt =>
          have g1 : ((mrs F'.ks).map (·.1))[n]? = some r.1 := by rw [List.getElem?_map]; exact hn
          have g2 : ((mrs F'.ks).map (·.1))[j]? = some r.1 := by rw [List.getElem?_map, hr1]; rfl
          have := (List.getElem?_inj (List.getElem?_eq_some_iff.mp g1).1 ndm).mp (g1.trans g2.symm)
          omega
        · simp at hn
    · rintro σ H3 ⟨y3, y4, y5, y6, y7, rfl, bar, tb⟩
      rw [lws, List.take_of_length_le (Nat.le_refl _)] at tb
      have s3 : Same H H3 := fun b o e => bar b o (ne_of_none e hd) (s2 _ _ (s1 _ _ e))
      refine ⟨by show 0 ≤ sizeLine; decide, fun L hL => ?_⟩
      have sL := same_new (o := .lst []) hL
      have eL : (upd H3 L (.lst [])) L = some (.lst []) := upd_same
      have ndL : d ≠ L := by
        obtain ⟨kvs, e0, _⟩ := tb.ex
        exact ne_of_none e0 hL
      have hL0 : H L = none := s3.free hL
      have tb4 := tb.same sL
      have s4 := s3.trans sL
      generalize upd H3 L (.lst []) = H4 at *
      refine ⟨.ref b, rfl, b, rfl, ⟨_, (hb.mono (tk_same s4)).sq⟩, ?_⟩
      refine for_it (walk_tup (xs := xs)) (fun t σ Ha => ∃ (y3 y4 y5 y6 y7 y9 y10 y11 y12 y13 y14 y15 : Option V) (ws : List V), σ = [some (.ref a), some (.ref b), some (.ref d), y3, y4, y5, y6, y7, some (.ref L), y9, y10, y11, y12, y13, y14, y15] ∧ Same H Ha ∧ TabG K Ha d tD (mrs F'.ks) ∧ Ha L = some (.lst ws) ∧ ImAll K Ha ws ((vecsOf F' (rows.take t)).map vD)) ⟨_, _, _, _, _, _, _, _, _, _, _, _, [], rfl, s4, tb4, eL, .nil⟩ (fun t σ Ha _ z => ?_) ?_ ?_
      · obtain ⟨_, _, _, _, _, _, _, _, _, _, _, _, _, _, sm, _⟩ := z
        exact (hb.mono (tk_same sm)).sq
      · rintro t x σ Ha Hb ht ⟨y3, y4, y5, y6, y7, y9, y10, y11, y12, y13, y14, y15, fw, rfl, sm, tbm, mL, im⟩ ⟨rfl, hxt⟩
        obtain ⟨r, hr', ir⟩ := all_get (ImAll.mono (tk_same sm) _ hx) hxt
        obtain ⟨p, z1, z2, rfl, hp, iz1, iz2⟩ := im_pair ir
        obtain rfl := iz1.str_inv
        obtain ⟨pe, es, rfl, hpe, hes⟩ := iz2.tuple_inv
        obtain rfl := im_ints hes
        obtain ⟨i, j, kd, m, at', hl, hent⟩ := ro.each t r hr'
        obtain ⟨dim, row, ts, hdim, hrow, hts, edm, ets⟩ := ok.at at'.hk at'.hm
        obtain ⟨vr, gr, irr⟩ := tg_get tbm kf at'.hk at'.hm
        obtain ⟨qr, r1, r2, r3, rfl, hqr, ir1, ir22, ir3⟩ := im_trip irr
        obtain rfl := ir22.int_inv
        obtain rfl := ir3.int_inv
        obtain ⟨pf, fx, rfl, hpf, hfx⟩ := ir1.tuple_inv
        obtain rfl := im_strs hfx
        rw [← at'.nm] at gr
        have l4 := (kf.mkk _ (List.mem_of_getElem? at'.hk) _ (List.mem_of_getElem? at'.hm)).2
        have vj := job.each t r i j kd m hr' at'
        have ero := rowOf_at kf at'
        have lr := (List.getElem?_eq_some_iff.mp hr').1
        have d32 := ok.dim_le i
        rw [edm, ets] at vj
        rw [edm] at d32
        refine ⟨p, _, rfl, hp.sq, rfl, .str r.1, _, rfl, .ref pe, _, rfl, rfl, ?_⟩
        refine ⟨.ref d, rfl, .str r.1, rfl, d, _, rfl, gr, qr, _, rfl, hqr.sq, rfl, .ref pf, _, rfl, .int (i : Nat), _, rfl, .int (j : Nat), _, rfl, rfl, ?_⟩
        have emb : vecsOf F' (rows.take (t + 1)) = vecsOf F' (rows.take t) ++ [vecT dim ts (partsI (vecsOf F' (rows.take t)) (m.2.map (placeOf (F'.ks.map (·.1)))) r.2)] := by
          rw [vecsOf_snoc hr']
          unfold vecStep
          rw [ero]
          show vecsOf F' (rows.take t) ++ [vecT (F'.dims.getD i 0) (termsAt F' i j) (partsI (vecsOf F' (rows.take t)) (m.2.map (placeOf (F'.ks.map (·.1)))) r.2)] = _
          rw [edm, ets]
        generalize hps : partsI (vecsOf F' (rows.take t)) (m.2.map (placeOf (F'.ks.map (·.1)))) r.2 = ps at *
        have lps : ps.length = m.2.length := by
          rw [← hps]
          unfold partsI
          rw [List.length_zipWith, List.length_map]; omega
        have lvo : (vecsOf F' (rows.take t)).length = t := by rw [vecsOf_len, List.length_take]; omega
        have lfw : fw.length = t := by rw [all_len im, lvo]
        refine ⟨by show 2 ≤ sizeLine; decide, fun T0 hT0 => ⟨by show 1 ≤ sizeLine; decide, fun V1 hV1 => ?_⟩⟩
        have sT0 := same_new (o := .tup [V.int 0, .int 1]) hT0
        have sV1 := same_new (o := .lst [V.ref T0]) hV1
        have iT0 : Im K (upd Hb T0 (.tup [V.int 0, .int 1])) (.ref T0) (rD 0) := rat_mk (q := 0) (.inl upd_same)
        have iT1 := Im.mono (tk_same sV1) _ iT0
        have eV1 : (upd (upd Hb T0 (.tup [V.int 0, .int 1])) V1 (.lst [V.ref T0])) V1 = some (.lst [V.ref T0]) := upd_same
        have s01 := sT0.trans sV1
        generalize upd (upd Hb T0 (.tup [V.int 0, .int 1])) V1 (.lst [V.ref T0]) = H5 at *
        have t5 := tk_same (sm.trans s01)
        have edd : (F'.dims.map (fun n : Nat => V.int (n : Nat)))[i]? = some (.int (dim : Nat)) := by rw [List.getElem?_map, hdim]; rfl
        obtain ⟨xm, exm, ixm⟩ := all_at (ImAll.mono t5 _ hms) hrow
        obtain ⟨pr, rs, rfl, hpr, hrs⟩ := ixm.tuple_inv
        obtain ⟨xm, exm2, ixm2⟩ := all_at hrs hts
        obtain ⟨pt, txs, rfl, hpt, htxs⟩ := ixm2.tuple_inv
        have ltx : txs.length = ts.length := all_len htxs
        refine ⟨.ref a, rfl, a, _, 1, _, rfl, rfl, (ha.mono t5).sq, atI_nat (j := 1) rfl, .int (i : Nat), rfl, c, _, _, _, rfl, rfl, (hc.mono t5).sq, atI_nat edd, V1, dim, [.ref T0], rfl, rfl, eV1, by omega, by omega, ?_, fun Vp hVp => ?_⟩
        · show 1 * (dim : Int).toNat ≤ sizeLine
          have : (33 : Nat) ≤ sizeLine := by decide
          omega
        rw [Int.toNat_natCast, flat1]
        have sVp := same_new (o := .lst (List.replicate dim (.ref T0))) hVp
        have eVp : (upd H5 Vp (.lst (List.replicate dim (.ref T0)))) Vp = some (.lst (List.replicate dim (.ref T0))) := upd_same
        have sb6 := s01.trans sVp
        have hVb : Hb Vp = none := s01.free hVp
        have iT6 := Im.mono (tk_same sVp) _ iT1
        generalize upd H5 Vp (.lst (List.replicate dim (.ref T0))) = H6 at *
        have t6 := tk_same (sm.trans sb6)
        have tv6 := tk_same sVp
        refine ⟨.ref a, rfl, a, _, 2, _, rfl, rfl, (ha.mono t6).sq, atI_nat (j := 2) rfl, .int (i : Nat), rfl, pm, _, _, _, rfl, rfl, (hpm.mono t6).sq, atI_nat exm, .int (j : Nat), rfl, pr, _, _, _, rfl, rfl, (hpr.mono tv6).sq, atI_nat exm2, pt, rfl, ⟨_, (hpt.mono tv6).sq⟩, ?_⟩
        have hpt6 := hpt.mono tv6
        have htxs6 := ImAll.mono tv6 _ htxs
        refine for_it (walk_tup (xs := txs)) (fun s σ Hx => ∃ (y11 y12 y13 y14 y15 : Option V) (vs : List V), σ = [some (.ref a), some (.ref b), some (.ref d), some (.str r.1), some (.ref pf), y5, some (.int (i : Nat)), some (.int (j : Nat)), some (.ref L), some (.ref pe), some (.ref Vp), y11, y12, y13, y14, y15] ∧ Same Hb Hx ∧ TK H6 Hx ∧ Hx Vp = some (.lst vs) ∧ ImAll K Hx vs ((vecT dim (ts.take s) ps).map rD)) ⟨_, _, _, _, _, _, rfl, sb6, fun _ _ e => e, eVp, all_rep iT6 dim⟩ (fun s σ Hx _ z => ?_) ?_ ?_
        · obtain ⟨_, _, _, _, _, _, _, _, tk, _⟩ := z
          exact (hpt6.mono tk).sq
        · rintro s x σ Hx Hy hs ⟨y11, y12, y13, y14, y15, vs, rfl, sx, tx, eV, iV⟩ ⟨rfl, hxs⟩
          obtain ⟨tm, htm, it⟩ := all_get (ImAll.mono tx _ htxs6) hxs
          obtain ⟨px, v1, v2, v3, rfl, hpx, iv1, iv2, iv3⟩ := im_trip it
          obtain rfl := iv1.int_inv
          obtain ⟨pc, cs, rfl, hpc, hcs⟩ := iv2.tuple_inv
          obtain rfl := im_nats hcs
          have tmem := List.mem_of_getElem? htm
          have lcs := vj.len tm tmem
          refine ⟨px, _, rfl, hpx.sq, rfl, .int (tm.1 : Nat), _, rfl, .ref pc, _, rfl, v3, _, rfl, rfl, v3, rfl, ?_⟩
          have hpfy := hpf.mono (tk_same sx)
          have hpey := hpe.mono (tk_same sx)
          have mLy := sx _ _ mL
          have imy := ImAll.mono (tk_same sx) _ im
          refine ⟨.ref pf, rfl, pf, _, rfl, .inr hpfy.sq, ((m.2.map V.str).length : Nat), rfl, by rw [List.length_map]; omega, by rw [List.length_map]; omega, ?_⟩
          refine for_it (walk_range (lo := 0) (n := (((m.2.map V.str).length : Nat) : Int).toNat)) (fun x σ Hc => ∃ (uv : V) (y15 : Option V), σ = [some (.ref a), some (.ref b), some (.ref d), some (.str r.1), some (.ref pf), y5, some (.int (i : Nat)), some (.int (j : Nat)), some (.ref L), some (.ref pe), some (.ref Vp), some (.int (tm.1 : Nat)), some (.ref pc), some v3, some uv, y15] ∧ Same Hy Hc ∧ Im K Hc uv (rD (wth tm.2.2 ps tm.2.1 x))) ⟨v3, _, rfl, Same.refl _, by rw [wth_zero]; exact iv3⟩ (fun _ _ _ _ _ => trivial) ?_ ?_
          · rintro x x' σ Hc Hd hxl ⟨uv, y15, rfl, sc, iuv⟩ ⟨rfl, rfl⟩
            rw [Int.toNat_natCast, List.length_map] at hxl
            show gName 15 (V.int ((0 : Int) + (x : Nat))) _ _ _
            rw [show (0 : Int) + (x : Nat) = (x : Nat) by omega]
            have hf := List.getElem?_eq_getElem hxl
            generalize m.2[x] = f at hf
            have he := List.getElem?_eq_getElem (show x < r.2.length by omega)
            generalize hee : r.2[x]'(by omega) = e at he
            have hcc := List.getElem?_eq_getElem (show x < tm.2.1.length by omega)
            generalize hc2 : tm.2.1[x]'(by omega) = cc at hcc
            have pz : ps[x]? = some (if placeOf (F'.ks.map (·.1)) f = -1 then [1, (e : Rat)] else (vecsOf F' (rows.take t)).getD e.toNat []) := by
              rw [← hps]
              unfold partsI
              rw [List.getElem?_zipWith, List.getElem?_map, hf, he]; rfl
            have hpfd := hpfy.mono (tk_same sc)
            have hped := hpey.mono (tk_same sc)
            have hpcd := hpc.mono (tk_same sc)
            have clt := vj.col tm tmem x cc _ hcc pz
            have bx := vj.bp tm tmem x
            have by' := vj.bv _ (List.mem_of_getElem? pz) _ (List.getElem_mem clt)
            have wsn := wth_snoc (r := tm.2.2) pz hcc
            have gf : atI (m.2.map V.str) ((x : Nat) : Int) = some (.str f) := atI_nat (by rw [List.getElem?_map, hf]; rfl)
            have ge : atI (r.2.map V.int) ((x : Nat) : Int) = some (.int e) := atI_nat (by rw [List.getElem?_map, he]; rfl)
            have gc : atI (tm.2.1.map fun n : Nat => V.int (n : Nat)) ((x : Nat) : Int) = some (.int (cc : Nat)) := atI_nat (by rw [List.getElem?_map, hcc]; rfl)
            refine ⟨.ref pf, rfl, .int (x : Nat), rfl, pf, _, _, .str f, rfl, rfl, hpfd.sq, gf, rfl, _, rfl, ?_⟩
            rw [dec_str]
            by_cases h1 : f = ("number" : Str)
            · rw [decide_eq_true h1]
              have pm1 : placeOf (F'.ks.map (·.1)) f = -1 := place_num.mpr (by rw [h1]; exact num_not kf)
              rw [if_pos pm1] at pz
              simp only [if_pos pm1] at clt by' wsn
              refine iteF ⟨.ref pc, rfl, .int (x : Nat), rfl, pc, _, _, .int (cc : Nat), rfl, rfl, hpcd.sq, gc, rfl, _, rfl, ?_⟩
              have c2 : cc < 2 := clt
              by_cases h2 : V.int (cc : Nat) = V.int 1
              · rw [decide_eq_true h2]
                have c1 : cc = 1 := by have := V.int.inj h2; omega
                subst c1
                refine iteT ⟨uv, rfl, .ref pe, rfl, .int (x : Nat), rfl, pe, _, _, .int e, rfl, rfl, hped.sq, ge, by show 2 ≤ sizeLine; decide, fun T hT => ?_⟩
                have sT := same_new (o := .tup [V.int e, .int 1]) hT
                refine ⟨uv, .ref T, _, (e : Rat), rfl, Im.mono (tk_same sT) _ iuv, rat_mk (q := (e : Rat)) (.inl upd_same), bx, by', fun p' H7 s7 i7 => ?_⟩
                refine ⟨_, _, rfl, (sc.trans sT).trans s7, ?_⟩
                rw [wsn]
                exact i7
              · rw [decide_eq_false h2]
                have c0 : cc = 0 := by
                  have : cc ≠ 1 := fun e => h2 (by rw [e]; rfl)
                  omega
                subst c0
                refine iteF ⟨uv, _, rfl, sc, ?_⟩
                rw [wsn]
                show Im K Hd uv (rD (_ * (1 : Rat)))
                rw [Rat.mul_one]
                exact iuv
            · rw [decide_eq_false h1]
              have hin := (kf.flds _ (List.mem_of_getElem? at'.hk) _ (List.mem_of_getElem? at'.hm) f (List.mem_of_getElem? hf)).resolve_left h1
              have pm1 : ¬ placeOf (F'.ks.map (·.1)) f = -1 := fun z => place_num.mp z hin
              obtain ⟨n, rfl, hn, ka⟩ := hent x f e hf he hin
              have ln : n < (vecsOf F' (rows.take t)).length := by omega
              have ev : (vecsOf F' (rows.take t)).getD ((n : Int)).toNat [] = (vecsOf F' (rows.take t))[n] := by
                rw [Int.toNat_natCast]; exact getD_some (List.getElem?_eq_getElem ln)
              rw [if_neg pm1, ev] at pz
              simp only [if_neg pm1, ev] at clt by' wsn
              obtain ⟨yv, eyv, iyv⟩ := all_at (ImAll.mono (tk_same sc) _ imy) (List.getElem?_eq_getElem ln)
              obtain ⟨pv', vx, rfl, hpv, hvx⟩ := vec_inv iyv
              obtain ⟨y, ey, iy⟩ := all_at hvx (List.getElem?_eq_getElem clt)
              refine iteT ⟨uv, rfl, .ref L, rfl, .ref pe, rfl, .int (x : Nat), rfl, pe, _, _, .int (n : Nat), rfl, rfl, hped.sq, ge, L, _, _, .ref pv', rfl, rfl, .of (sc _ _ mLy), atI_nat eyv, .ref pc, rfl, .int (x : Nat), rfl, pc, _, _, .int (cc : Nat), rfl, rfl, hpcd.sq, gc, pv', _, _, y, rfl, rfl, hpv.sq, atI_nat ey, ?_⟩
              refine ⟨uv, y, _, _, rfl, iuv, iy, bx, by', fun p' H7 s7 i7 => ?_⟩
              refine ⟨_, _, rfl, sc.trans s7, ?_⟩
              rw [wsn, List.getD_eq_getElem?_getD, List.getElem?_eq_getElem clt]
              exact i7
          · rintro σ Hc ⟨uv, y15, rfl, sc, iuv⟩
            rw [Int.toNat_natCast, List.length_map] at iuv
            have iuv' := iuv
            rw [wth_all (by omega) (by omega)] at iuv'
            have vt := vecT_snoc (dim := dim) (ps := ps) htm
            have lv : tm.1 < (vecT dim (ts.take s) ps).length := by rw [vecT_len]; exact vj.row tm tmem
            obtain ⟨y, ey, iy⟩ := all_at (ImAll.mono (tk_same sc) _ iV) (List.getElem?_eq_getElem lv)
            have b1 := vj.bs s _ (List.getElem_mem lv)
            have b2 := vj.bp tm tmem ps.length
            rw [wth_all (Nat.le_refl _) (by omega)] at b2
            have lw : vs.length = (vecT dim (ts.take s) ps).length := all_len iV
            refine ⟨.ref Vp, rfl, .int (tm.1 : Nat), rfl, Vp, vs, _, y, rfl, rfl, .of (sc _ _ eV), atI_nat ey, uv, rfl, y, uv, _, _, rfl, iy, iuv', b1.mono (by decide) (by decide), b2, fun p' H7 s7 i7 => ?_⟩
            have eV7 := s7 _ _ (sc _ _ eV)
            refine ⟨.ref Vp, rfl, .int (tm.1 : Nat), rfl, Vp, vs, _, tm.1, rfl, rfl, eV7, ixN_nat (by omega), _, _, _, _, _, vs.set tm.1 (.ref p'), rfl, fun b o eb => ?_, ?_, upd_same, ?_⟩
            · rw [upd_ne (ne_of_none eb hVb)]
              exact s7 _ _ (sc _ _ (sx _ _ eb))
            · exact (tx.trans (tk_same (sc.trans s7))).trans (tk_lst eV7)
            · rw [vt]
              unfold addTerm
              rw [List.getD_eq_getElem?_getD, List.getElem?_eq_getElem lv]
              have t5 := (tk_same s7).trans (tk_lst (o := .lst (vs.set tm.1 (.ref p'))) eV7)
              exact all_set (Im.mono (tk_lst eV7) _ i7) (ImAll.mono ((tk_same sc).trans t5) _ iV)
        · rintro σ Hx ⟨y11, y12, y13, y14, y15, vs, rfl, sx, tx, eV, iV⟩
          rw [ltx, List.take_of_length_le (Nat.le_refl _)] at iV
          have mLx := sx _ _ mL
          refine ⟨.ref L, rfl, .inl ⟨rfl, _, .of mLx⟩, .ref Vp, rfl, Vp, vs, rfl, .inl ⟨.of eV, fun l hl => ?_⟩⟩
          have sl := same_new (o := .tup vs) hl
          have il : Im K (upd Hx l (.tup vs)) (.ref l) (vD (vecT dim ts ps)) := .tup (.inl upd_same) (ImAll.mono (tk_new hl) _ iV)
          have mLl := sl _ _ mLx
          refine ⟨L, _, _, rfl, rfl, mLl, small1000 (by omega), ?_⟩
          refine ⟨_, _, _, _, _, _, _, _, _, _, _, _, fw ++ [.ref l], rfl, fun b o e => ?_, ?_, upd_same, ?_⟩
          · rw [upd_ne (ne_of_none e hL0)]; exact sl _ _ (sx _ _ (sm _ _ e))
          · exact tbm.keep (fun o e => by rw [upd_ne ndL]; exact sl _ _ (sx _ _ e)) ((tk_same (sx.trans sl)).trans (tk_lst mLl))
          · rw [emb, List.map_append]
            exact (ImAll.mono ((tk_same (sx.trans sl)).trans (tk_lst mLl)) _ im).snoc (Im.mono (tk_lst mLl) _ il)
      · rintro σ Ha ⟨y3, y4, y5, y6, y7, y9, y10, y11, y12, y13, y14, y15, fw, rfl, sm, tbm, mL, im⟩
        rw [lx, List.take_of_length_le (Nat.le_refl _)] at im
        exact ⟨.ref L, rfl, q L fw Ha sm hL0 mL im⟩
end
end K63

set_option Elab.async false
set_option linter.all false
set_option maxRecDepth 100000
set_option exponentiation.threshold 20000
set_option pp.deepTerms false
set_option pp.deepTerms.threshold 8
namespace K63
open PySem PySem.Spec PyProof.Rows L2 Ly Mt
/-! ### tall forms: coordinates that are sums -/
def tallFs (many more : Nat) : List Str := List.replicate many ("A" : Str) ++ List.replicate more ("number" : Str)
def tallKs (many more : Nat) : List Kd := [("A", [("L", []), ("N", tallFs many more)])]
theorem tall_kinds {many more : Nat} (h : many + more ≤ 4) : KindsOk (tallKs many more) := by
  have hA : High ("A" : Str) := highB_ok (by decide +kernel)
  have hL : High ("L" : Str) := highB_ok (by decide +kernel)
  have hN : High ("N" : Str) := highB_ok (by decide +kernel)
  refine ⟨⟨Nat.le_refl 1, by show 1 ≤ 6; decide⟩, fun k hk => ?_, fun k hk => ?_, fun k hk m hm => ?_, List.pairwise_singleton _ _, by show (["L", "N"] : List Str).Nodup; decide +kernel, fun k hk m hm f hf => ?_⟩
  · rw [List.mem_singleton.mp hk]; exact hA
  · rw [List.mem_singleton.mp hk]; exact ⟨by show 1 ≤ 2; decide, by show 2 ≤ 6; decide⟩
  · rw [List.mem_singleton.mp hk] at hm
    have : m = (("L" : Str), []) ∨ m = (("N" : Str), tallFs many more) := by simpa using hm
    rcases this with rfl | rfl
    · exact ⟨hL, Nat.zero_le _⟩
    · exact ⟨hN, by show (tallFs many more).length ≤ 4; unfold tallFs; simpa using h⟩
  · rw [List.mem_singleton.mp hk] at hm
    have : m = (("L" : Str), []) ∨ m = (("N" : Str), tallFs many more) := by simpa using hm
    rcases this with rfl | rfl
    · simp at hf
    · have hf : f ∈ tallFs many more := hf
      unfold tallFs at hf
      rcases List.mem_append.mp hf with hf | hf
      · rw [List.eq_of_mem_replicate hf]; exact .inr (List.mem_singleton.mpr rfl)
      · exact .inl (List.eq_of_mem_replicate hf)
structure TallTm (many more : Nat) (t : Tm) : Prop where
  row : t.1 < 3
  len : t.2.1.length = many + more
  cols : ∀ (i c : Nat), t.2.1[i]? = some c → c < (if i < many then 3 else 2)
  wt : ∃ z : Int, t.2.2 = (z : Rat) ∧ z.natAbs ≤ 2 ∧ z ≠ 0
  one : t.1 = 0 → (∀ c ∈ t.2.1, c = 0) ∧ t.2.2 = 1
  sole : ∀ (i j c d : Nat), t.2.1[i]? = some c → t.2.1[j]? = some d → c ≠ 0 → d ≠ 0 → i = j
structure LeafTm (t : Tm) : Prop where
  row : t.1 < 3
  cols : t.2.1 = []
  wt : Sx 1 1 t.2.2 ∧ t.2.2 ≠ 0
  one : t.1 = 0 → Sx 1 0 t.2.2
structure TallF (many more : Nat) (F : Form) : Prop where
  ok : FormOk 1 F
  ks : F.ks = tallKs many more
  dims : F.dims = [3]
  leaf : (∀ t ∈ termsAt F 0 0, LeafTm t) ∧ (termsAt F 0 0).length ≤ 9 ∧ (termsAt F 0 0).Pairwise fun a b => nlt (key a) (key b) = true
  node : (∀ t ∈ termsAt F 0 1, TallTm many more t) ∧ (termsAt F 0 1).length ≤ 9 ∧ (termsAt F 0 1).Pairwise fun a b => nlt (key a) (key b) = true
  rw : ∀ r ∈ F.rds, ∀ q ∈ r.2.2, q = 0 ∨ Wt q
structure TallR (many more : Nat) (rows : List Rw) : Prop where
  each : ∀ (t : Nat) r, rows[t]? = some r → r = (("L" : Str), []) ∨ (r.1 = ("N" : Str) ∧ r.2.length = many + more ∧ ∀ (i : Nat) e, r.2[i]? = some e → (i < many → ∃ n : Nat, e = n ∧ n < t) ∧ (many ≤ i → e.natAbs ≤ 2))
theorem prod_one {B : Nat} (hB : 1 ≤ B) : ∀ (ps : List (List Rat)) (cs : List Nat), (∀ (i c : Nat) p, ps[i]? = some p → cs[i]? = some c → (c = 0 → Sx 1 0 (p.getD c 0)) ∧ Sx B 1 (p.getD c 0)) →
    ((∀ (i c : Nat), i < ps.length → cs[i]? = some c → c = 0) → Sx 1 0 (prodT ps cs)) ∧ ((∀ (i j c d : Nat), cs[i]? = some c → cs[j]? = some d → c ≠ 0 → d ≠ 0 → i = j) → Sx B 1 (prodT ps cs))
  | [], _, _ => ⟨fun _ => sx_one (Nat.le_refl _), fun _ => sx_one hB⟩
  | _ :: _, [], _ => ⟨fun _ => sx_one (Nat.le_refl _), fun _ => sx_one hB⟩
  | p :: ps, c :: cs, h => by
    obtain ⟨i1, i2⟩ := prod_one hB ps cs fun i c' p' h1 h2 => h (i + 1) c' p' (by simpa using h1) (by simpa using h2)
    obtain ⟨h1, h2⟩ := h 0 c p rfl rfl
    refine ⟨fun z => ?_, fun so => ?_⟩
    · have c0 := z 0 c (by simp) rfl
      exact (h1 c0).mul (i1 fun i c' hl hc => z (i + 1) c' (by simpa using hl) (by simpa using hc))
    · show Sx B 1 (p.getD c 0 * prodT ps cs)
      by_cases c0 : c = 0
      · have := (h1 c0).mul (i2 fun i j c' d hc hd a b => by
          have := so (i + 1) (j + 1) c' d (by simpa using hc) (by simpa using hd) a b
          omega)
        rwa [Nat.one_mul, Nat.zero_add] at this
      · have := h2.mul (i1 fun i c' hl hc => Decidable.byContradiction fun cn => by
          have := so 0 (i + 1) c c' rfl (by simpa using hc) c0 cn
          omega)
        rwa [Nat.mul_one, Nat.add_zero] at this
def cnt (k : Nat) (ts : List Tm) : Nat := (ts.filter fun t => decide (t.1 = k)).length
theorem cnt_snoc (k : Nat) (ts : List Tm) (t : Tm) : cnt k (ts ++ [t]) = cnt k ts + if t.1 = k then 1 else 0 := by
  unfold cnt
  rw [List.filter_append, List.length_append]
  congr 1
  by_cases h : t.1 = k
  · simp [h]
  · simp [h]
theorem vec_row {ps : List (List Rat)} {M D dim k : Nat} {ts : List Tm} (h : ∀ t ∈ ts, t.1 = k → Sx M D (t.2.2 * prodT ps t.2.1)) : ∀ (n : Nat), Sx (cnt k (ts.take n) * M) D ((vecT dim (ts.take n) ps).getD k 0)
  | 0 => by
    rw [List.take_zero]
    have e : (vecT dim [] ps).getD k 0 = 0 := by
      show (List.replicate dim (0 : Rat)).getD k 0 = 0
      rw [List.getD_eq_getElem?_getD, List.getElem?_replicate]
      split <;> rfl
    rw [e]
    exact sx_zero _ _
  | n + 1 => by
    have ih := vec_row h (dim := dim) n
    cases e : ts[n]? with
    | none =>
      have hle := List.getElem?_eq_none_iff.mp e
      rw [List.take_of_length_le (by omega)] at ih ⊢
      exact ih
    | some t =>
      have et : ts.take (n + 1) = ts.take n ++ [t] := by rw [List.take_add_one, e]; rfl
      have ec : cnt k (ts.take (n + 1)) = cnt k (ts.take n) + if t.1 = k then 1 else 0 := by rw [et, cnt_snoc]
      rw [ec, vecT_snoc e]
      unfold addTerm
      by_cases hk : t.1 = k
      · rw [if_pos hk, Nat.add_mul, Nat.one_mul]
        have ht := h t (List.mem_of_getElem? e) hk
        rw [hk]
        by_cases hl : k < (vecT dim (ts.take n) ps).length
        · rw [List.getD_eq_getElem?_getD, List.getElem?_set_self (by exact hl)]
          exact ih.add ht
        · rw [List.getD_eq_getElem?_getD, List.getElem?_eq_none (by rw [List.length_set]; omega)]
          exact sx_zero _ _
      · rw [if_neg hk, Nat.add_zero]
        rw [List.getD_eq_getElem?_getD, List.getElem?_set_ne hk, ← List.getD_eq_getElem?_getD]
        exact ih
theorem nlt_irr : ∀ a : List Nat, nlt a a = false
  | [] => rfl
  | x :: a => by
    show (decide (x < x) || (decide (x = x) && nlt a a)) = false
    rw [nlt_irr a]; simp
theorem zeros_eq : ∀ {a b : List Nat}, a.length = b.length → (∀ c ∈ a, c = 0) → (∀ c ∈ b, c = 0) → a = b
  | [], [], _, _, _ => rfl
  | [], _ :: _, h, _, _ => by simp at h
  | _ :: _, [], h, _, _ => by simp at h
  | x :: a, y :: b, h, h1, h2 => by
    rw [h1 x (List.mem_cons_self ..), h2 y (List.mem_cons_self ..), zeros_eq (by simpa using h) (fun c hc => h1 c (List.mem_cons_of_mem _ hc)) fun c hc => h2 c (List.mem_cons_of_mem _ hc)]
/-- at most one term of row 0 -/
theorem cnt_zero {l : Nat} {ts : List Tm} (asc : ts.Pairwise fun a b => nlt (key a) (key b) = true) (h : ∀ t ∈ ts, t.1 = 0 → t.2.1.length = l ∧ ∀ c ∈ t.2.1, c = 0) : ∀ n, cnt 0 (ts.take n) ≤ 1 := fun n => by
  unfold cnt
  have sub : (ts.take n).Sublist ts := List.take_sublist _ _
  have asc2 : ((ts.take n).filter fun t => decide (t.1 = 0)).Pairwise fun a b => nlt (key a) (key b) = true := (asc.sublist sub).filter _
  have mem : ∀ t ∈ (ts.take n).filter (fun t => decide (t.1 = 0)), t ∈ ts ∧ t.1 = 0 := fun t ht => by
    obtain ⟨a, b⟩ := List.mem_filter.mp ht
    exact ⟨List.mem_of_mem_take a, of_decide_eq_true b⟩
  generalize (ts.take n).filter (fun t => decide (t.1 = 0)) = l0 at asc2 mem
  match l0, asc2, mem with
  | [], _, _ => exact Nat.zero_le _
  | [_], _, _ => exact Nat.le_refl _
  | a :: b :: r, asc2, mem =>
    have hab := (List.pairwise_cons.mp asc2).1 b (List.mem_cons_self ..)
    obtain ⟨a1, a2⟩ := mem a (List.mem_cons_self ..)
    obtain ⟨b1, b2⟩ := mem b (List.mem_cons_of_mem _ (List.mem_cons_self ..))
    obtain ⟨a3, a4⟩ := h a a1 a2
    obtain ⟨b3, b4⟩ := h b b1 b2
    have e : key a = key b := by
      unfold key
      rw [a2, b2, zeros_eq (by omega) a4 b4]
    rw [e, nlt_irr] at hab
    cases hab
theorem cnt_le (k : Nat) (ts : List Tm) : cnt k ts ≤ ts.length := List.length_filter_le ..
end K63

set_option Elab.async false
set_option linter.all false
set_option maxRecDepth 100000
set_option exponentiation.threshold 20000
set_option pp.deepTerms false
set_option pp.deepTerms.threshold 8
namespace K63
open PySem PySem.Spec PyProof.Rows L2 Ly Mt
def tallL : Mk := ("L", [])
def tallN (many more : Nat) : Mk := ("N", tallFs many more)
def tallKd (many more : Nat) : Kd := ("A", [tallL, tallN many more])
structure VT (F : Form) (rows : List Rw) (t : Nat) : Prop where
  each : ∀ (n : Nat) v, (vecsOf F (rows.take t))[n]? = some v → v.length = 3 ∧ Sx 1 0 (v.getD 0 0) ∧ ∀ k, Sx (20 ^ (n + 1)) 1 (v.getD k 0)
theorem tall_big {t : Nat} (h : t ≤ 96) : 400 * 20 ^ t * 6 ^ 1 < 2 ^ 600 := by
  have h1 : 20 ^ t ≤ 2 ^ (5 * t) := by
    rw [Nat.pow_mul 2 5 t]
    exact Nat.pow_le_pow_left (by decide) t
  have h2 : 2 ^ (5 * t) ≤ 2 ^ 480 := Nat.pow_le_pow_right (by decide) (by omega)
  calc 400 * 20 ^ t * 6 ^ 1 ≤ 400 * 2 ^ 480 * 6 ^ 1 := Nat.mul_le_mul (Nat.mul_le_mul (Nat.le_refl _) (Nat.le_trans h1 h2)) (Nat.le_refl _)
    _ < 2 ^ 600 := by decide
theorem sx_bd6 {B t : Nat} {q : Rat} (h : Sx B 1 q) (hB : B ≤ 400 * 20 ^ t) (ht : t ≤ 96) : Bd 600 3 q := h.bd (Nat.lt_of_le_of_lt (Nat.mul_le_mul hB (Nat.le_refl _)) (tall_big ht)) (by decide)
theorem mem_getD {v : List Rat} {q : Rat} (h : q ∈ v) : ∃ k, v.getD k 0 = q := by
  obtain ⟨k, hk⟩ := List.getElem?_of_mem h
  exact ⟨k, getD_some hk⟩
theorem tall_vec {ps : List (List Rat)} {ts : List Tm} {M : Nat} (h9 : ts.length ≤ 9) (h0 : ∀ t ∈ ts, t.1 = 0 → Sx 1 0 (t.2.2 * prodT ps t.2.1)) (h1 : ∀ t ∈ ts, Sx M 1 (t.2.2 * prodT ps t.2.1)) (c0 : ∀ n, cnt 0 (ts.take n) ≤ 1) (n : Nat) :
    (vecT 3 (ts.take n) ps).length = 3 ∧ Sx 1 0 ((vecT 3 (ts.take n) ps).getD 0 0) ∧ ∀ k, Sx (9 * M) 1 ((vecT 3 (ts.take n) ps).getD k 0) := by
  refine ⟨vecT_len _ _ _, ?_, fun k => ?_⟩
  · exact (vec_row (M := 1) (D := 0) (k := 0) h0 n).mono (by rw [Nat.mul_one]; exact c0 n) (Nat.le_refl _)
  · refine (vec_row (k := k) (fun t ht _ => h1 t ht) n).mono (Nat.mul_le_mul ?_ (Nat.le_refl _)) (Nat.le_refl _)
    have := cnt_le k (ts.take n)
    rw [List.length_take] at this
    omega
theorem tall_step {many more : Nat} (m1 : 1 ≤ many) (mm : many + more ≤ 4) {F : Form} (tf : TallF many more F) {rows : List Rw} (tr : TallR many more rows) {t : Nat} {r : Rw} (t95 : t ≤ 95) (hr : rows[t]? = some r) (vt : VT F rows t) :
    (∀ i j kd m, At F.ks r i j kd m → VecJob (F.dims.getD i 0) (termsAt F i j) (partsI (vecsOf F (rows.take t)) (m.2.map (placeOf (F.ks.map (·.1)))) r.2)) ∧ VT F rows (t + 1) ∧ (∃ i j kd m, At F.ks r i j kd m ∧ r.2.length = m.2.length ∧ ∀ (s : Nat) f e, m.2[s]? = some f → r.2[s]? = some e → f ∈ F.ks.map (·.1) → ∃ n : Nat, e = n ∧ n < t ∧ ((F.ks.map (·.1)).idxOf f) = 0) := by
  have kf := tf.ok.kinds
  have ht := (List.getElem?_eq_some_iff.mp hr).1
  have lvo : (vecsOf F (rows.take t)).length = t := by rw [vecsOf_len, List.length_take]; omega
  have ens : F.ks.map (·.1) = [("A" : Str)] := by rw [tf.ks]; rfl
  have ed : F.dims.getD 0 0 = 3 := by rw [tf.dims]; rfl
  have close : ∀ (j : Nat) (m : Mk), At F.ks r 0 j (tallKd many more) m → VecJob 3 (termsAt F 0 j) (partsI (vecsOf F (rows.take t)) (m.2.map (placeOf (F.ks.map (·.1)))) r.2) →
      ((vecT 3 (termsAt F 0 j) (partsI (vecsOf F (rows.take t)) (m.2.map (placeOf (F.ks.map (·.1)))) r.2)).length = 3 ∧ Sx 1 0 ((vecT 3 (termsAt F 0 j) (partsI (vecsOf F (rows.take t)) (m.2.map (placeOf (F.ks.map (·.1)))) r.2)).getD 0 0) ∧ ∀ k, Sx (20 ^ (t + 1)) 1 ((vecT 3 (termsAt F 0 j) (partsI (vecsOf F (rows.take t)) (m.2.map (placeOf (F.ks.map (·.1)))) r.2)).getD k 0)) →
      (∀ i j kd m, At F.ks r i j kd m → VecJob (F.dims.getD i 0) (termsAt F i j) (partsI (vecsOf F (rows.take t)) (m.2.map (placeOf (F.ks.map (·.1)))) r.2)) ∧ VT F rows (t + 1) := fun j m a job nv => by
    refine ⟨fun i' j' kd' m' a' => ?_, ⟨fun n v hn => ?_⟩⟩
    · obtain ⟨rfl, rfl⟩ := at_one kf a.hk a.hm a'.hk a'.hm (by rw [← a.nm, ← a'.nm])
      have h1 := a'.hk
      rw [a.hk] at h1
      obtain rfl := Option.some.inj h1
      have h2 := a'.hm
      rw [a.hm] at h2
      obtain rfl := Option.some.inj h2
      rw [ed]
      exact job
    · rw [vecsOf_snoc hr] at hn
      unfold vecStep at hn
      rw [rowOf_at kf a] at hn
      have hn : (vecsOf F (rows.take t) ++ [vecT (F.dims.getD 0 0) (termsAt F 0 j) (partsI (vecsOf F (rows.take t)) (m.2.map (placeOf (F.ks.map (·.1)))) r.2)])[n]? = some v := hn
      rw [ed] at hn
      rcases get_snoc hn with hn2 | ⟨hn2, rfl⟩
      · exact vt.each n v hn2
      · rw [hn2, lvo]
        exact nv
  have hk0 : F.ks[0]? = some (tallKd many more) := by rw [tf.ks]; rfl
  rcases tr.each t r hr with rfl | ⟨hn, hl, he⟩
  · have a : At F.ks (("L" : Str), []) 0 0 (tallKd many more) tallL := ⟨hk0, rfl, rfl⟩
    obtain ⟨lt, l9, asc⟩ := tf.leaf
    have w1 : ∀ tm ∈ termsAt F 0 0, ∀ n, wth tm.2.2 [] tm.2.1 n = tm.2.2 := fun tm htm n => by
      rw [(lt tm htm).cols]
      unfold wth
      rw [List.take_nil, List.take_nil]
      show tm.2.2 * 1 = _
      rw [Rat.mul_one]
    have p1 : ∀ tm ∈ termsAt F 0 0, tm.2.2 * prodT [] tm.2.1 = tm.2.2 := fun tm htm => by
      rw [(lt tm htm).cols]
      show tm.2.2 * 1 = _
      rw [Rat.mul_one]
    have tv := tall_vec (ps := []) (M := 1) l9 (fun tm htm z => by rw [p1 tm htm]; exact (lt tm htm).one z) (fun tm htm => by rw [p1 tm htm]; exact (lt tm htm).wt.1) (cnt_zero (l := 0) asc fun tm htm _ => by rw [(lt tm htm).cols]; exact ⟨rfl, fun c hc => by simp at hc⟩)
    have one20 : 9 * 1 ≤ 20 ^ (t + 1) := by
      have : 0 < 20 ^ t := Nat.pow_pos (by decide)
      rw [Nat.pow_succ]; omega
    have job : VecJob 3 (termsAt F 0 0) [] := by
      refine ⟨Nat.zero_le _, fun tm htm => (lt tm htm).row, fun tm htm => by rw [(lt tm htm).cols]; rfl, fun tm htm x c v hc hv => by simp at hv, fun tm htm n => ?_, fun v hv => by simp at hv, fun n q hq => ?_⟩
      · rw [w1 tm htm n]
        exact (sx_bd6 (t := 0) (lt tm htm).wt.1 (by decide) (by decide)).mono (by decide) (by decide)
      · obtain ⟨k, rfl⟩ := mem_getD hq
        exact (sx_bd6 (t := 0) ((tv n).2.2 k) (by decide) (by decide)).mono (by decide) (by decide)
    have tvf := tv (termsAt F 0 0).length
    rw [List.take_of_length_le (Nat.le_refl _)] at tvf
    obtain ⟨c1, c2⟩ := close 0 _ a job ⟨tvf.1, tvf.2.1, fun k => (tvf.2.2 k).mono one20 (Nat.le_refl _)⟩
    exact ⟨c1, c2, 0, 0, _, _, a, rfl, fun s f e h1 _ => by cases h1⟩
  · have a : At F.ks r 0 1 (tallKd many more) (tallN many more) := ⟨hk0, rfl, hn⟩
    obtain ⟨lt, l9, asc⟩ := tf.node
    have lfs : (tallFs many more).length = many + more := by unfold tallFs; simp
    obtain ⟨ps, hps⟩ : ∃ ps, partsI (vecsOf F (rows.take t)) ((tallFs many more).map (placeOf (F.ks.map (·.1)))) r.2 = ps := ⟨_, rfl⟩
    have lps : ps.length = many + more := by
      rw [← hps]
      unfold partsI
      rw [List.length_zipWith, List.length_map]; omega
    have fA : ∀ i, i < many → (tallFs many more)[i]? = some ("A" : Str) := fun i hi => by
      unfold tallFs
      rw [List.getElem?_append_left (by rw [List.length_replicate]; exact hi), List.getElem?_replicate, if_pos hi]
    have fN : ∀ i, many ≤ i → i < many + more → (tallFs many more)[i]? = some ("number" : Str) := fun i hi hl => by
      unfold tallFs
      rw [List.getElem?_append_right (by rw [List.length_replicate]; exact hi), List.length_replicate, List.getElem?_replicate, if_pos (by omega)]
    have inA : ("A" : Str) ∈ F.ks.map (·.1) := by rw [ens]; exact List.mem_singleton.mpr rfl
    have tpos : 1 ≤ t := by
      have h0 := List.getElem?_eq_getElem (show 0 < r.2.length by omega)
      obtain ⟨n, _, h2⟩ := (he 0 _ h0).1 (by omega)
      omega
    have psi : ∀ (i : Nat) p, ps[i]? = some p → (i < many ∧ ∃ n, n < t ∧ (vecsOf F (rows.take t))[n]? = some p) ∨ (many ≤ i ∧ ∃ e : Int, p = [1, (e : Rat)] ∧ e.natAbs ≤ 2) := fun i p hp => by
      have li := (List.getElem?_eq_some_iff.mp hp).1
      rw [← hps] at hp
      obtain ⟨fl, e, g1, g2, rfl⟩ := parts_at hp
      rw [List.getElem?_map] at g1
      by_cases hi : i < many
      · obtain ⟨n, rfl, hn⟩ := (he i e g2).1 hi
        rw [fA i hi] at g1
        obtain rfl := Option.some.inj g1
        refine .inl ⟨hi, n, hn, ?_⟩
        rw [if_neg (fun z => place_num.mp z inA), Int.toNat_natCast]
        have := List.getElem?_eq_getElem (show n < (vecsOf F (rows.take t)).length by omega)
        rw [getD_some this]; exact this
      · rw [fN i (by omega) (by omega)] at g1
        obtain rfl := Option.some.inj g1
        refine .inr ⟨by omega, e, ?_, (he i e g2).2 (by omega)⟩
        exact if_pos (place_num.mpr (num_not kf))
    have hB : 1 ≤ 20 ^ t := Nat.pow_pos (by decide)
    have hB2 : 2 ≤ 20 ^ t := by
      obtain ⟨s, rfl⟩ : ∃ s, t = s + 1 := ⟨t - 1, by omega⟩
      have : 0 < 20 ^ s := Nat.pow_pos (by decide)
      rw [Nat.pow_succ]; omega
    have fac : ∀ (i c : Nat) p, ps[i]? = some p → (c = 0 → Sx 1 0 (p.getD c 0)) ∧ Sx (20 ^ t) 1 (p.getD c 0) := fun i c p hp => by
      rcases psi i p hp with ⟨_, n, hn, hv⟩ | ⟨_, e, rfl, h2⟩
      · obtain ⟨_, v0, vk⟩ := vt.each n p hv
        exact ⟨fun c0 => by rw [c0]; exact v0, (vk c).mono (Nat.pow_le_pow_right (by decide) (by omega)) (Nat.le_refl _)⟩
      · refine ⟨fun c0 => by rw [c0]; exact sx_one (Nat.le_refl _), ?_⟩
        match c with
        | 0 => exact sx_one hB
        | 1 => exact (sx_int h2).mono hB2 (Nat.zero_le _)
        | c + 2 => exact sx_zero _ _
    have wsx : ∀ tm ∈ termsAt F 0 1, ∀ n, Sx (2 * 20 ^ t) 1 (wth tm.2.2 ps tm.2.1 n) := fun tm htm n => by
      have h := lt tm htm
      obtain ⟨z, ez, bz, _⟩ := h.wt
      have p := (prod_one hB (ps.take n) (tm.2.1.take n) fun i c p hp hc => fac i c p (take_get hp).2).2 fun i j c d hc hd => h.sole i j c d (take_get hc).2 (take_get hd).2
      have := (show Sx 2 0 tm.2.2 by rw [ez]; exact sx_int bz).mul p
      rwa [Nat.zero_add] at this
    have wall : ∀ tm ∈ termsAt F 0 1, wth tm.2.2 ps tm.2.1 ps.length = tm.2.2 * prodT ps tm.2.1 := fun tm htm => wth_all (Nat.le_refl _) (by rw [(lt tm htm).len]; omega)
    have tv := tall_vec (ps := ps) (M := 2 * 20 ^ t) l9 (fun tm htm z => by
      obtain ⟨o1, o2⟩ := (lt tm htm).one z
      rw [o2, Rat.one_mul]
      exact (prod_one hB ps tm.2.1 fun i c p hp _ => fac i c p hp).1 fun i c _ hc => o1 c (List.mem_of_getElem? hc)) (fun tm htm => by rw [← wall tm htm]; exact wsx tm htm _) (cnt_zero (l := many + more) asc fun tm htm z => ⟨(lt tm htm).len, ((lt tm htm).one z).1⟩)
    have job : VecJob 3 (termsAt F 0 1) ps := by
      refine ⟨by omega, fun tm htm => (lt tm htm).row, fun tm htm => by rw [(lt tm htm).len]; omega, fun tm htm x c v hc hv => ?_, fun tm htm n => ?_, fun v hv q hq => ?_, fun n q hq => ?_⟩
      · have cl := (lt tm htm).cols x c hc
        rcases psi x v hv with ⟨hx, n, hn, hv'⟩ | ⟨hx, e, rfl, _⟩
        · rw [if_pos hx] at cl
          rw [(vt.each n v hv').1]; exact cl
        · rw [if_neg (by omega)] at cl
          exact cl
      · exact (sx_bd6 (t := t) (wsx tm htm n) (Nat.mul_le_mul (by decide) (Nat.le_refl _)) (by omega)).mono (by decide) (by decide)
      · obtain ⟨i, hi⟩ := List.getElem?_of_mem hv
        obtain ⟨k, rfl⟩ := mem_getD hq
        exact (sx_bd6 (t := t) (fac i k v hi).2 (by omega) (by omega)).mono (by decide) (by decide)
      · obtain ⟨k, rfl⟩ := mem_getD hq
        exact (sx_bd6 (t := t) ((tv n).2.2 k) (by omega) (by omega)).mono (by decide) (by decide)
    have tvf := tv (termsAt F 0 1).length
    rw [List.take_of_length_le (Nat.le_refl _)] at tvf
    have up : 9 * (2 * 20 ^ t) ≤ 20 ^ (t + 1) := by rw [Nat.pow_succ]; omega
    obtain ⟨c1, c2⟩ := close 1 (tallN many more) a (by show VecJob 3 _ (partsI (vecsOf F (rows.take t)) ((tallFs many more).map _) r.2); rw [hps]; exact job) (by
      have hps2 : partsI (vecsOf F (rows.take t)) ((tallN many more).2.map (placeOf (F.ks.map (·.1)))) r.2 = ps := hps
      rw [hps2]
      exact ⟨tvf.1, tvf.2.1, fun k => (tvf.2.2 k).mono up (Nat.le_refl _)⟩)
    refine ⟨c1, c2, 0, 1, _, _, a, by rw [hl]; exact lfs.symm, fun s f e h1 h2 hin => ?_⟩
    by_cases hs : s < many
    · obtain ⟨n, e1, e2⟩ := (he s e h2).1 hs
      have h1 : (tallFs many more)[s]? = some f := h1
      rw [fA s hs] at h1
      obtain rfl := Option.some.inj h1
      exact ⟨n, e1, e2, by rw [ens]; rfl⟩
    · have h1 : (tallFs many more)[s]? = some f := h1
      have ls := (List.getElem?_eq_some_iff.mp h1).1
      rw [fN s (by omega) (by omega)] at h1
      obtain rfl := Option.some.inj h1
      exact absurd hin (num_not kf)
theorem tall_all {many more : Nat} (m1 : 1 ≤ many) (mm : many + more ≤ 4) {F : Form} (tf : TallF many more F) {rows : List Rw} (tr : TallR many more rows) (l96 : rows.length ≤ 96) : ∀ t, t ≤ rows.length → VT F rows t
  | 0, _ => ⟨fun n v h => by simp [vecsOf] at h⟩
  | t + 1, h => (tall_step m1 mm tf tr (by omega) (List.getElem?_eq_getElem (by omega)) (tall_all m1 mm tf tr l96 t (by omega))).2.1
theorem tall_job {many more : Nat} (m1 : 1 ≤ many) (mm : many + more ≤ 4) {F : Form} (tf : TallF many more F) {rows : List Rw} (tr : TallR many more rows) (l1 : 1 ≤ rows.length) (l96 : rows.length ≤ 96) : RowsOk F.ks rows ∧ VecsJob F rows := by
  have st : ∀ (t : Nat) r, rows[t]? = some r → _ := fun t r hr => tall_step m1 mm tf tr (by have := (List.getElem?_eq_some_iff.mp hr).1; omega) hr (tall_all m1 mm tf tr l96 t (by have := (List.getElem?_eq_some_iff.mp hr).1; omega))
  refine ⟨⟨⟨l1, l96⟩, fun t r hr => ?_⟩, ⟨fun t r i j kd m hr a => (st t r hr).1 i j kd m a⟩⟩
  obtain ⟨i, j, kd, m, a, l, e⟩ := (st t r hr).2.2
  refine ⟨i, j, kd, m, a, l, fun s f e' h1 h2 hin => ?_⟩
  obtain ⟨n, e1, e2, e3⟩ := e s f e' h1 h2 hin
  have lt := (List.getElem?_eq_some_iff.mp hr).1
  have hn := List.getElem?_eq_getElem (show n < rows.length by omega)
  obtain ⟨i2, j2, kd2, m2, a2, _, _⟩ := (st n _ hn).2.2
  refine ⟨n, e1, e2, _, j2, kd2, m2, hn, ?_⟩
  have i20 : i2 = 0 := by
    have := (List.getElem?_eq_some_iff.mp a2.hk).1
    rw [tf.ks] at this
    have : i2 < 1 := this
    omega
  rw [e3, ← i20]
  exact a2
end K63

set_option Elab.async false
set_option linter.all false
set_option maxRecDepth 100000
set_option exponentiation.threshold 20000
set_option pp.deepTerms false
set_option pp.deepTerms.threshold 8
namespace K63
open PySem PySem.Spec PyProof.Rows L2 Ly Mt
def tallWs (many more : Nat) : List Nat := List.replicate many 3 ++ List.replicate more 2
theorem tallWs_len (many more : Nat) : (tallWs many more).length = many + more := by unfold tallWs; simp
theorem tallWs_at {many more i n : Nat} (h : (tallWs many more)[i]? = some n) : n = if i < many then 3 else 2 := by
  unfold tallWs at h
  by_cases hi : i < many
  · rw [List.getElem?_append_left (by rw [List.length_replicate]; exact hi), List.getElem?_replicate, if_pos hi] at h
    rw [if_pos hi]; exact (Option.some.inj h).symm
  · rw [List.getElem?_append_right (by rw [List.length_replicate]; omega), List.getElem?_replicate] at h
    split at h
    · rw [if_neg hi]; exact (Option.some.inj h).symm
    · cases h
structure XT (K : PySem.W.Frag) (H : Hp) (many more i : Nat) (xs : List NK) : Prop where
  keys : KeysIm K H xs
  nd : (xs.map (·.1)).Nodup
  few : xs.length ≤ i
  each : ∀ x ∈ xs, ∃ r cs q, x.1 = kOf r cs ∧ TallTm many more (r, cs, q) ∧ Im K H (.ref x.2.2) (rD q)
theorem XT.mono {K : PySem.W.Frag} {H H' : Hp} {many more i : Nat} {xs : List NK} (h : XT K H many more i xs) (t : TK H H') : XT K H' many more i xs :=
  ⟨h.keys.mono t, h.nd, h.few, fun x hx => let ⟨r, cs, q, a, b, c⟩ := h.each x hx; ⟨r, cs, q, a, b, Im.mono t _ c⟩⟩
theorem int_wt {z : Int} (h0 : z ≠ 0) (h : z.natAbs ≤ 2) : Wt (z : Rat) := by
  refine ⟨fun e => h0 (Rat.intCast_inj.mp (by simpa using e)), z * 6, ?_, ?_⟩
  · rw [Rat.intCast_mul]; rfl
  · rw [Int.natAbs_mul]
    have : z.natAbs * 6 ≤ 2 * 6 := Nat.mul_le_mul h (Nat.le_refl _)
    exact Nat.le_trans this (by decide)
theorem TallTm.wt' {many more : Nat} {t : Tm} (h : TallTm many more t) : Wt t.2.2 := by
  obtain ⟨z, e, b, n⟩ := h.wt
  rw [e]; exact int_wt n b
theorem XT.xi {K : PySem.W.Frag} {H : Hp} {many more i : Nat} {xs : List NK} (h : XT K H many more i xs) : XI K H 3 (tallWs many more) i xs :=
  ⟨h.keys, h.nd, h.few, fun x hx => by
    obtain ⟨r, cs, q, a, b, c⟩ := h.each x hx
    refine ⟨r, cs, q, a, b.row, by rw [tallWs_len]; exact b.len, fun i cc n h1 h2 => ?_, c, b.wt'⟩
    rw [tallWs_at h2]
    exact b.cols i cc h1⟩
theorem XT.put {K : PySem.W.Frag} {H : Hp} {many more i : Nat} {xs : List NK} (h : XT K H many more i xs) {r : Nat} {cs : List Nat} {q : Rat} {b v : Addr} (tm : TallTm many more (r, cs, q)) (ib : Im K H (.ref b) (kD (kOf r cs))) (iv : Im K H (.ref v) (rD q)) : XT K H many more (i + 1) (putN xs (kOf r cs) b v) := by
  have few := h.few
  refine ⟨putN_keys h.keys ib (kOf_depth r cs), ?_, Nat.le_trans (putN_length ..) (by omega), fun x hx => ?_⟩
  · unfold putN
    by_cases hs : (valN xs (kOf r cs)).isSome = true
    · rw [if_pos hs, List.map_map]
      have : (xs.map ((fun x : NK => x.1) ∘ fun x => if x.1 = kOf r cs then (x.1, x.2.1, v) else x)) = xs.map (·.1) := List.map_congr_left fun x _ => by
        show (if x.1 = kOf r cs then (x.1, x.2.1, v) else x).1 = x.1
        split <;> rfl
      rw [this]
      exact h.nd
    · rw [if_neg hs, List.map_append]
      have hn : valN xs (kOf r cs) = none := by simpa using hs
      refine List.nodup_append.mpr ⟨h.nd, List.pairwise_singleton _ _, fun a ha c hc e => ?_⟩
      have hc' : c = kOf r cs := List.mem_singleton.mp hc
      rw [e, hc'] at ha
      exact valN_none hn ha
  · unfold putN at hx
    split at hx
    · obtain ⟨y, hy, rfl⟩ := List.mem_map.mp hx
      obtain ⟨r', cs', q', a1, a2, a3⟩ := h.each y hy
      by_cases e : y.1 = kOf r cs
      · rw [if_pos e]
        exact ⟨r, cs, q, e, tm, iv⟩
      · rw [if_neg e]
        exact ⟨r', cs', q', a1, a2, a3⟩
    · rcases List.mem_append.mp hx with hx | hx
      · exact h.each x hx
      · rw [List.mem_singleton.mp hx]
        exact ⟨r, cs, q, rfl, tm, iv⟩
def colF (n f r : Nat) : List Nat := List.replicate f 0 ++ [r] ++ List.replicate (n - (f + 1)) 0
def colN (many more : Nat) : List Nat := List.replicate many 0 ++ List.replicate more 1
theorem tm_blank (many more : Nat) : TallTm many more (0, List.replicate (many + more) 0, 1) := by
  have z : ∀ (i c : Nat), (List.replicate (many + more) 0)[i]? = some c → c = 0 := fun i c h => by
    rw [List.getElem?_replicate] at h
    split at h
    · exact (Option.some.inj h).symm
    · cases h
  refine ⟨by show 0 < 3; decide, by simp, fun i c h => ?_, ⟨1, rfl, by decide, by decide⟩, fun _ => ⟨fun c hc => List.eq_of_mem_replicate hc, rfl⟩, fun i j c d h _ c0 _ => absurd (z i c h) c0⟩
  rw [z i c h]
  split <;> omega
theorem colF_at {n f r i c : Nat} (h : (colF n f r)[i]? = some c) : (i = f ∧ c = r) ∨ (i ≠ f ∧ c = 0) := by
  unfold colF at h
  by_cases h1 : i < f
  · rw [List.append_assoc, List.getElem?_append_left (by rw [List.length_replicate]; exact h1), List.getElem?_replicate, if_pos h1] at h
    exact .inr ⟨by omega, (Option.some.inj h).symm⟩
  · by_cases h2 : i = f
    · subst h2
      rw [List.append_assoc, List.getElem?_append_right (by rw [List.length_replicate]; omega), List.length_replicate, Nat.sub_self] at h
      exact .inl ⟨rfl, (Option.some.inj h).symm⟩
    · rw [List.getElem?_append_right (by rw [List.length_append, List.length_replicate]; show f + 1 ≤ i; omega), List.getElem?_replicate] at h
      split at h
      · exact .inr ⟨h2, (Option.some.inj h).symm⟩
      · cases h
theorem tm_f {many more f r : Nat} {z : Int} (hf : f < many) (r1 : 1 ≤ r) (r3 : r < 3) (z0 : z ≠ 0) (z2 : z.natAbs ≤ 2) : TallTm many more (r, colF (many + more) f r, (z : Rat)) := by
  refine ⟨r3, ?_, fun i c h => ?_, ⟨z, rfl, z2, z0⟩, fun e => by have : r = 0 := e; omega, fun i j c d h1 h2 c0 d0 => ?_⟩
  · show (colF (many + more) f r).length = _
    unfold colF
    simp; omega
  · rcases colF_at h with ⟨rfl, rfl⟩ | ⟨_, rfl⟩
    · rw [if_pos hf]; exact r3
    · split <;> omega
  · rcases colF_at h1 with ⟨e1, _⟩ | ⟨_, e⟩
    · rcases colF_at h2 with ⟨e2, _⟩ | ⟨_, e⟩
      · omega
      · exact absurd e d0
    · exact absurd e c0
theorem colN_at {many more i c : Nat} (h : (colN many more)[i]? = some c) : (i < many ∧ c = 0) ∨ (many ≤ i ∧ i < many + more ∧ c = 1) := by
  unfold colN at h
  by_cases h1 : i < many
  · rw [List.getElem?_append_left (by rw [List.length_replicate]; exact h1), List.getElem?_replicate, if_pos h1] at h
    exact .inl ⟨h1, (Option.some.inj h).symm⟩
  · rw [List.getElem?_append_right (by rw [List.length_replicate]; omega), List.length_replicate, List.getElem?_replicate] at h
    split at h
    · exact .inr ⟨by omega, by omega, (Option.some.inj h).symm⟩
    · cases h
theorem tm_n {many more r : Nat} (m1 : more ≤ 1) (r1 : 1 ≤ r) (r3 : r < 3) : TallTm many more (r, colN many more, ((r : Int) : Rat)) := by
  refine ⟨r3, by show (colN many more).length = _; unfold colN; simp, fun i c h => ?_, ⟨r, rfl, by omega, by omega⟩, fun e => by have : r = 0 := e; omega, fun i j c d h1 h2 c0 d0 => ?_⟩
  · rcases colN_at h with ⟨h1, rfl⟩ | ⟨h1, _, rfl⟩
    · rw [if_pos h1]; decide
    · rw [if_neg (by omega)]; decide
  · rcases colN_at h1 with ⟨_, e⟩ | ⟨a1, a2, _⟩
    · exact absurd e c0
    · rcases colN_at h2 with ⟨_, e⟩ | ⟨b1, b2, _⟩
      · exact absurd e d0
      · omega
theorem terms_mk {dim most : Nat} {ws : List Nat} {ts : List Tm} (few : ts.length ≤ most) (asc : ts.Pairwise fun a b => nlt (key a) (key b) = true) (each : ∀ t ∈ ts, TermOk dim ws t) : TermsOk dim ws most ts := by
  refine ⟨few, each, fun j a b ha hb => ?_⟩
  obtain ⟨h1, e1⟩ := List.getElem?_eq_some_iff.mp ha
  obtain ⟨h2, e2⟩ := List.getElem?_eq_some_iff.mp hb
  have := List.pairwise_iff_getElem.mp asc j (j + 1) h1 h2 (by omega)
  rw [e1, e2] at this
  have la := (each a (List.mem_of_getElem? ha)).len
  have lb := (each b (List.mem_of_getElem? hb)).len
  rw [lt_keyT (by omega)]
  exact this
def tallRds : List Rd := [("f", "A", [0, 1, 0]), ("g", "A", [1, -1, Rat.divInt 3 2])]
theorem tall_rw : ∀ r ∈ tallRds, ∀ q ∈ r.2.2, q = 0 ∨ Wt q := fun r hr q hq => by
  have : r = (("f" : Str), ("A" : Str), [0, 1, 0]) ∨ r = (("g" : Str), ("A" : Str), [1, -1, Rat.divInt 3 2]) := by simpa [tallRds] using hr
  have h3 : q = 0 ∨ q = 1 ∨ q = -1 ∨ q = Rat.divInt 3 2 := by
    rcases this with rfl | rfl
    · have : q = 0 ∨ q = 1 ∨ q = 0 := by simpa using hq
      rcases this with h | h | h
      · exact .inl h
      · exact .inr (.inl h)
      · exact .inl h
    · have : q = 1 ∨ q = -1 ∨ q = Rat.divInt 3 2 := by simpa using hq
      exact .inr this
  rcases h3 with rfl | rfl | rfl | rfl
  · exact .inl rfl
  · exact .inr ⟨by decide +kernel, 6, by decide +kernel, by decide +kernel⟩
  · exact .inr ⟨by decide +kernel, -6, by decide +kernel, by decide +kernel⟩
  · exact .inr ⟨by decide +kernel, 9, by decide +kernel, by decide +kernel⟩
theorem tall_form {many more : Nat} (mm : many + more ≤ 4) {lf ts : List Tm} (l1 : (∀ t ∈ lf, LeafTm t) ∧ lf.length ≤ 9 ∧ lf.Pairwise fun a b => nlt (key a) (key b) = true) (l2 : (∀ t ∈ ts, TallTm many more t) ∧ ts.length ≤ 9 ∧ ts.Pairwise fun a b => nlt (key a) (key b) = true) : TallF many more ⟨tallKs many more, [3], [[lf, ts]], tallRds⟩ := by
  have kf := tall_kinds mm
  refine ⟨⟨by decide, kf, rfl, fun d hd => ?_, by show 3 ≤ 32 * 1; decide, rfl, fun i kd row hk hm => ?_, fun i kd row hk hm j m t' h1 h2 => ?_, ⟨by show 2 ≤ 60; decide, fun r hr => ?_, by show (["f", "g"] : List Str).Nodup; decide +kernel, fun r hr => ?_⟩⟩, rfl, rfl, l1, l2, tall_rw⟩
  · rw [List.mem_singleton.mp hd]; show 3 ≤ 16 * 1; decide
  · have i0 : i = 0 := by
      have : i < 1 := (List.getElem?_eq_some_iff.mp hk).1
      omega
    subst i0
    obtain rfl := Option.some.inj hk
    obtain rfl := Option.some.inj hm
    rfl
  · have i0 : i = 0 := by
      have : i < 1 := (List.getElem?_eq_some_iff.mp hk).1
      omega
    subst i0
    obtain rfl := Option.some.inj hk
    obtain rfl := Option.some.inj hm
    have j2 : j = 0 ∨ j = 1 := by
      have : j < 2 := (List.getElem?_eq_some_iff.mp h2).1
      omega
    rcases j2 with rfl | rfl
    · obtain rfl := Option.some.inj h1
      obtain rfl := Option.some.inj h2
      exact terms_mk (by have := l1.2.1; omega) l1.2.2 fun t ht => by
        have h := l1.1 t ht
        exact ⟨h.row, by rw [h.cols]; rfl, fun i c w hc _ => by rw [h.cols] at hc; simp at hc, h.wt.2⟩
    · obtain rfl := Option.some.inj h1
      obtain rfl := Option.some.inj h2
      have ws : (tallFs many more).map (wd ((tallKs many more).map (·.1)) [3]) = tallWs many more := by
        unfold tallFs tallWs
        rw [List.map_append, List.map_replicate, List.map_replicate]
        congr 2
      show TermsOk 3 ((tallFs many more).map (wd ((tallKs many more).map (·.1)) [3])) _ ts
      rw [ws]
      refine terms_mk (by have := l2.2.1; omega) l2.2.2 fun t ht => ?_
      have h := l2.1 t ht
      refine ⟨h.row, by rw [tallWs_len]; exact h.len, fun i c w hc hw => ?_, h.wt'.1⟩
      rw [tallWs_at hw]
      exact h.cols i c hc
  · have : r = (("f" : Str), ("A" : Str), [0, 1, 0]) ∨ r = (("g" : Str), ("A" : Str), [1, -1, Rat.divInt 3 2]) := by simpa [tallRds] using hr
    rcases this with rfl | rfl
    · exact lowB_ok (by decide +kernel)
    · exact lowB_ok (by decide +kernel)
  · have : r = (("f" : Str), ("A" : Str), [0, 1, 0]) ∨ r = (("g" : Str), ("A" : Str), [1, -1, Rat.divInt 3 2]) := by simpa [tallRds] using hr
    rcases this with rfl | rfl
    · exact ⟨List.mem_singleton.mpr rfl, rfl⟩
    · exact ⟨List.mem_singleton.mpr rfl, rfl⟩
theorem tall_rows_snoc {many more : Nat} {rows : List Rw} (h : TallR many more rows) {es : List Int} (l : es.length = many + more) (he : ∀ (i : Nat) e, es[i]? = some e → (i < many → ∃ n : Nat, e = n ∧ n < rows.length) ∧ (many ≤ i → e.natAbs ≤ 2)) : TallR many more (rows ++ [(("N" : Str), es)]) := by
  refine ⟨fun t r hr => ?_⟩
  rcases get_snoc hr with hr | ⟨rfl, rfl⟩
  · exact h.each t r hr
  · exact .inr ⟨rfl, l, he⟩
theorem tall_rows_one (many more : Nat) : TallR many more [(("L" : Str), [])] := ⟨fun t r hr => by
  have : r ∈ [(("L" : Str), ([] : List Int))] := List.mem_of_getElem? hr
  exact .inl (List.mem_singleton.mp this)⟩
end K63

set_option Elab.async false
set_option linter.all false
set_option maxRecDepth 100000
set_option exponentiation.threshold 20000
set_option pp.deepTerms false
set_option pp.deepTerms.threshold 8
namespace K63
open PySem PySem.Spec PyProof.Rows L2 Ly Mt
theorem cut_rep {x : V} {n f : Nat} (h : f ≤ n) : cutV (List.replicate n x) none (some (f : Int)) = List.replicate f x := by
  rw [cut_take (by rw [List.length_replicate]; exact h), List.take_replicate, Nat.min_eq_left h]
theorem cut_rep2 {x : V} {n f : Nat} (h : f ≤ n) : cutV (List.replicate n x) (some (f : Int)) none = List.replicate (n - f) x := by
  rw [cut_drop (by rw [List.length_replicate]; exact h), List.drop_replicate]
theorem ints0 {K : PySem.W.Frag} {H : Hp} (n v : Nat) : ImAll K H (List.replicate n (V.int (v : Nat))) ((List.replicate n v).map nD) := all_rep (f := nD) (a := v) (.int _) n
/-- four ratios, of which one is drawn -/
def fourA : List (Int × Int) := [(1, 1), (1, 1), (-1, 1), (2, 1)]
def fourB : List (Int × Int) := [(1, 1), (1, 1), (-1, 1), (1, 2)]
theorem fourA_ok : ∀ w ∈ fourA, (Rat.divInt w.1 w.2).num = w.1 ∧ ((Rat.divInt w.1 w.2).den : Int) = w.2 ∧ Rat.divInt w.1 w.2 = (w.1 : Rat) ∧ w.1 ≠ 0 ∧ w.1.natAbs ≤ 2 := by decide +kernel
theorem fourB_ok : ∀ w ∈ fourB, (Rat.divInt w.1 w.2).num = w.1 ∧ ((Rat.divInt w.1 w.2).den : Int) = w.2 ∧ Rat.divInt w.1 w.2 ≠ 0 ∧ Rat.divInt w.1 w.2 * 6 = ((w.1 * (6 / w.2) : Int) : Rat) ∧ (w.1 * (6 / w.2)).natAbs ≤ 6 := by decide +kernel
section
variable {P : Program} {w : World} {K : PySem.W.Frag} {mg : Str → Option Value} {base : Heap}
abbrev s__law_tall : Stmt := topS 72
theorem sc__law_tall : FnScope ["store", "many", "more", "kinds", "keyed", "blank", "row", "f", "leaf", "terms", "rows", "turn", "at", "back", "reads", "key"] ["store"] (defScope s__law_tall) := ⟨rfl, rfl, rfl, by decide +kernel, rfl, by decide +kernel, by decide +kernel⟩
def sp_tall (K : PySem.W.Frag) : Sp := fun vs H Q _ => ∃ (c : Addr), vs = [.ref c] ∧ Sto H c ∧ ∀ p pF pR many more F rows H', Sto H' c → But c H H' → ITup K H' p [.ref pF, .ref pR] → Im K H' (.ref pF) (fmD F) → Im K H' (.ref pR) (rwsD rows) → 1 ≤ many → many + more ≤ 4 → TallF many more F → TallR many more rows → 1 ≤ rows.length → rows.length ≤ 96 → Q (.ref p) H'
set_option maxHeartbeats 4000000 in
theorem ok__law_tall {f : Addr} {fd : FuncData} {k : Nat} (F : Fun K "_law_tall" "_law_tall" s__law_tall f fd) (T : Tx K mg){k1 : Nat} (D__law_pick : Def P w K mg base k1 "_law_pick" s__law_pick ["store", "many"] sp_pick) (e1 : k1 ≤ k) : FnOk P w K mg base CX0 (k + 1) f fd ["store"] (sp_tall K) := by
  have nd := sc__law_tall.nd
  refine F.ok sc__law_tall (fun vs H Q E h => ?_) (fun cdv A outer s H vs Q E hr h => ?_)
  · obtain ⟨_, rfl, _⟩ := h
    rfl
  · obtain ⟨c, rfl, u, q⟩ := h
    refine ⟨_, (pss_cons (ps_par (i := 1) (j := 2) (by rfl) nd rfl rfl (by decide) rfl rfl (pa_cons (pe_op op_add pe_int (pe_def D__law_pick (hr.mono (by omega)) rfl (pa_cons (pv 0) (pa_cons pe_int pa_nil)))) (pa_cons (pe_def D__law_pick (hr.mono (by omega)) rfl (pa_cons (pv 0) (pa_cons pe_int pa_nil))) pa_nil)) (by rfl))
      (pss_cons (ps_set (i := 3) nd rfl (.inl rfl) (pe_tup (pa_cons (pe_tup (pa_cons pe_str (pa_cons (pe_tup (pa_cons (pe_tup (pa_cons pe_str (pa_cons (pe_tup pa_nil) pa_nil))) (pa_cons (pe_tup (pa_cons pe_str (pa_cons (pe_op (kop_catA K) (pe_op (kop_repTA K) (pe_tup (pa_cons pe_str pa_nil)) (pv 1)) (pe_op (kop_repTA K) (pe_tup (pa_cons pe_str pa_nil)) (pv 2))) pa_nil))) pa_nil))) pa_nil))) pa_nil)))
      (pss_cons (ps_asg (pe_tup (pa_cons pe_dnewN (pa_cons (pe_op (kop_repTA K) (pe_tup (pa_cons pe_int pa_nil)) (pe_op op_add (pv 1) (pv 2))) pa_nil))) (kpg_tup K (n := 2) rfl (pgs_cons (pg_name (i := 4) nd rfl (.inr rfl)) (pgs_cons (pg_name (i := 5) nd rfl (.inl rfl)) pgs_nil))))
      (pss_cons (ps_nput (hu10 hr) (pv 4) (pe_tup (pa_cons pe_int (pa_cons (pv 5) pa_nil))) (pe_tup (pa_cons pe_int (pa_cons pe_int pa_nil))) rfl)
      (pss_cons (ps_for PassesOwn.never rfl (pi_range2 rfl T.m_range (pa_cons pe_int (pa_cons pe_int pa_nil))) (pg_name (i := 6) nd rfl (.inl rfl))
        (pss_cons (ps_for PassesOwn.never rfl (pi_range1 rfl T.m_range (pa_cons (pv 1) pa_nil)) (pg_name (i := 7) nd rfl (.inl rfl))
          (pss_one (ps_nput (hu10 hr) (pv 4) (pe_tup (pa_cons (pv 6) (pa_cons (pe_op (kop_catA K) (pe_op (kop_catA K) (pe_slice (ksl_tupA K) (pv 5) po_none (po_some (pv 7))) (pe_tup (pa_cons (pv 6) pa_nil))) (pe_slice (ksl_tupA K) (pv 5) (po_some (pe_op op_add (pv 7) pe_int)) po_none)) pa_nil))) (pe_ix (kix_list K) (pe_lst (pa_cons (pe_tup (pa_cons pe_int (pa_cons pe_int pa_nil))) (pa_cons (pe_tup (pa_cons pe_int (pa_cons pe_int pa_nil))) (pa_cons (pe_tup (pa_cons (pe_un un_neg pe_int) (pa_cons pe_int pa_nil))) (pa_cons (pe_tup (pa_cons pe_int (pa_cons pe_int pa_nil))) pa_nil))))) (pe_def D__law_pick (hr.mono (by omega)) rfl (pa_cons (pv 0) (pa_cons pe_int pa_nil))) (fun _ _ => rfl)) rfl)))
        (pss_one (ps_nput (hu10 hr) (pv 4) (pe_tup (pa_cons (pv 6) (pa_cons (pe_op (kop_catA K) (pe_op (kop_repTA K) (pe_tup (pa_cons pe_int pa_nil)) (pv 1)) (pe_op (kop_repTA K) (pe_tup (pa_cons pe_int pa_nil)) (pv 2))) pa_nil))) (pe_tup (pa_cons (pv 6) (pa_cons pe_int pa_nil))) rfl))))
      (pss_cons (ps_set (i := 8) nd rfl (.inl rfl) (pe_callTy (kcall_tuple K) (by rfl) T.m_tuple (by decide +kernel) (pa_cons (pe_lc (own := [("row", 6)]) (g := gName 6) (tt := tYes) rfl nd (pi_range1 rfl T.m_range (pa_cons pe_int pa_nil)) (blkOk_by (by rfl)) (fun _ _ _ _ _ => (pg_name (i := 6) nd rfl (.inl rfl))) (fun _ _ _ _ _ => pts_nil) (fun _ _ _ _ _ => (pe_tup (pa_cons (pv 6) (pa_cons (pe_tup pa_nil) (pa_cons (pe_ix (kix_list K) (pe_lst (pa_cons (pe_tup (pa_cons pe_int (pa_cons pe_int pa_nil))) (pa_cons (pe_tup (pa_cons pe_int (pa_cons pe_int pa_nil))) (pa_cons (pe_tup (pa_cons (pe_un un_neg pe_int) (pa_cons pe_int pa_nil))) (pa_cons (pe_tup (pa_cons pe_int (pa_cons pe_int pa_nil))) pa_nil))))) (pe_ifExp (pt_cmpR op_gt (pv 6) pe_int (nomark _)) (pe_def D__law_pick (hr.mono (by omega)) rfl (pa_cons (pv 0) (pa_cons pe_int pa_nil))) pe_int) (fun _ _ => rfl)) pa_nil)))))) pa_nil)))
      (pss_cons (ps_set (i := 9) nd rfl (.inl rfl) (pe_callTy (kcall_tuple K) (by rfl) T.m_tuple (by decide +kernel) (pa_cons (pe_lc (own := [("key", 15)]) (g := gName 15) (tt := tYes) rfl nd (kpi_list K (pe_callB (kcr_sortedD K (hu20 hr)) (by rfl) T.m_sorted (by decide +kernel) (pa_cons (pe_callTy (kcall_listN P w K) (by rfl) T.m_list (by decide +kernel) (pa_cons (pv 4) pa_nil)) pa_nil))) (blkOk_by (by rfl)) (fun _ _ _ _ _ => (pg_name (i := 15) nd rfl (.inl rfl))) (fun _ _ _ _ _ => pts_nil) (fun _ _ _ _ _ => (pe_tup (pa_cons (pe_ix (kix_tup K) (pv 15) pe_int (fun _ _ => rfl)) (pa_cons (pe_ix (kix_tup K) (pv 15) pe_int (fun _ _ => rfl)) (pa_cons (kpe_nget P w K (hu10 hr) (pv 4) (pv 15) (fun _ _ => rfl)) pa_nil)))))) pa_nil)))
      (pss_cons (ps_set (i := 10) nd rfl (.inl rfl) (pe_tup (pa_cons (pe_tup (pa_cons pe_str (pa_cons (pe_tup pa_nil) pa_nil))) pa_nil)))
      (pss_cons (ps_for PassesOwn.never rfl (pi_range1 rfl T.m_range (pa_cons (pe_op op_add pe_int (pe_def D__law_pick (hr.mono (by omega)) rfl (pa_cons (pv 0) (pa_cons pe_int pa_nil)))) pa_nil)) (pg_name (i := 11) nd rfl (.inl rfl))
        (pss_cons (ps_set (i := 12) nd rfl (.inl rfl) (pe_op op_sub (pe_callB (kcall_len K) (by rfl) T.m_len PySem.boot_len (pa_cons (pv 10) pa_nil)) pe_int))
        (pss_cons (ps_set (i := 13) nd rfl (.inl rfl) (pe_callB (call_max2 rfl) (by rfl) T.m_max (by decide +kernel) (pa_cons pe_int (pa_cons (pe_op op_add (pe_op op_sub (pv 12) pe_int) (pe_callTy call_int1 (by rfl) T.m_int (by decide +kernel) (pa_cons (pe_cmpR op_gt (pe_def D__law_pick (hr.mono (by omega)) rfl (pa_cons (pv 0) (pa_cons pe_int pa_nil))) pe_int (nomark _)) pa_nil))) pa_nil))))
        (pss_one (ps_set (i := 10) nd rfl (.inl rfl) (pe_op (kop_catA K) (pv 10) (pe_tup (pa_cons (pe_tup (pa_cons pe_str (pa_cons (pe_op (kop_catA K) (pe_op (kop_catA K) (pe_tup (pa_cons (pv 12) pa_nil)) (pe_op (kop_repTA K) (pe_tup (pa_cons (pv 13) pa_nil)) (pe_op op_sub (pv 1) pe_int))) (pe_op (kop_repTA K) (pe_tup (pa_cons (pe_op op_sub (pe_def D__law_pick (hr.mono (by omega)) rfl (pa_cons (pv 0) (pa_cons pe_int pa_nil))) pe_int) pa_nil)) (pv 2))) pa_nil))) pa_nil))))))))
      (pss_cons (ps_set (i := 14) nd rfl (.inl rfl) (pe_tup (pa_cons (pe_tup (pa_cons pe_str (pa_cons pe_str (pa_cons (pe_tup (pa_cons (pe_tup (pa_cons pe_int (pa_cons pe_int pa_nil))) (pa_cons (pe_tup (pa_cons pe_int (pa_cons pe_int pa_nil))) (pa_cons (pe_tup (pa_cons pe_int (pa_cons pe_int pa_nil))) pa_nil)))) pa_nil)))) (pa_cons (pe_tup (pa_cons pe_str (pa_cons pe_str (pa_cons (pe_tup (pa_cons (pe_tup (pa_cons pe_int (pa_cons pe_int pa_nil))) (pa_cons (pe_tup (pa_cons (pe_un un_neg pe_int) (pa_cons pe_int pa_nil))) (pa_cons (pe_tup (pa_cons pe_int (pa_cons pe_int pa_nil))) pa_nil)))) pa_nil)))) pa_nil))))
      (pss_one (ps_ret (pe_tup (pa_cons (pe_tup (pa_cons (pv 3) (pa_cons (pe_tup (pa_cons pe_int pa_nil)) (pa_cons (pe_tup (pa_cons (pe_tup (pa_cons (pv 8) (pa_cons (pv 9) pa_nil))) pa_nil)) (pa_cons (pv 14) pa_nil))))) (pa_cons (pv 10) pa_nil))))))))))))))), ?_⟩
    refine ⟨.ref c, rfl, c, 2, rfl, u, by decide, fun a0 H1 a2 u1 b1 => ⟨_, _, rfl, rfl, .ref c, rfl, c, 2, rfl, u1, by decide, fun more H2 m2 u2 b2 => ⟨.int ((2 + a0 : Nat) : Int), .int (more : Nat), congrArg (fun z => [V.int z, .int (more : Nat)]) (show (2 : Int) + a0 = ((2 + a0 : Nat) : Int) by omega), ?_⟩⟩⟩
    obtain ⟨many, hmany⟩ : ∃ many, 2 + a0 = many := ⟨_, rfl⟩
    rw [hmany]
    have m1 : 1 ≤ many := by omega
    have m3 : many ≤ 3 := by omega
    have mo1 : more ≤ 1 := by omega
    have B2 : But c H H2 := b1.trans b2
    -- kinds
    refine ⟨by show 0 ≤ sizeLine; decide, fun E1 hE1 => ⟨by show 2 ≤ sizeLine; decide, fun L1 hL1 => ⟨by show 1 ≤ sizeLine; decide, fun A1 hA1 => ⟨.int (many : Nat), rfl, ?_⟩⟩⟩⟩
    have sE1 := same_new (o := .tup []) hE1
    have sL1 := same_new (o := .tup [V.str "L", .ref E1]) hL1
    have iL1 : Im K (upd (upd H2 E1 (.tup [])) L1 (.tup [V.str "L", .ref E1])) (.ref L1) (mkD tallL) := .tup (.inl upd_same) (.cons (.str _) (.cons (Im.mono (tk_same sL1) _ (.tup (.inl upd_same) .nil)) .nil))
    have sA1 := same_new (o := .tup [V.str "A"]) hA1
    refine rep_any (n := many) (.inl upd_same) (by omega) fun R1 H3 s3 iR1 => ⟨by show 1 ≤ sizeLine; decide, fun N1 hN1 => ⟨.int (more : Nat), rfl, ?_⟩⟩
    have sA3 := sA1.trans s3
    have iL3 := Im.mono (tk_same sA3) _ iL1
    have s23 : Same H2 H3 := (sE1.trans sL1).trans sA3
    have sN1 := same_new (o := .tup [V.str "number"]) hN1
    refine rep_any (n := more) (.inl upd_same) (by omega) fun R2 H4 s4 iR2 => ?_
    have s34 := sN1.trans s4
    refine cat_any (iR1.mono (tk_same s34)) iR2 (by rw [List.length_replicate, List.length_replicate]; omega) fun C1 H5 s5 iC1 => ⟨by show 2 ≤ sizeLine; decide, fun NT hNT => ⟨by show 2 ≤ sizeLine; decide, fun MT hMT => ⟨by show 2 ≤ sizeLine; decide, fun KT hKT => ⟨by show 1 ≤ sizeLine; decide, fun KS hKS => ?_⟩⟩⟩⟩
    have s35 := s34.trans s5
    have iC : Im K H5 (.ref C1) (sD (tallFs many more)) := by
      refine .tup iC1 ?_
      unfold tallFs
      rw [List.map_append]
      exact ImAll.app (all_rep (f := PyData.str) (.str _) many) (all_rep (f := PyData.str) (.str _) more)
    have sNT := same_new (o := .tup [V.str "N", .ref C1]) hNT
    have iNT : Im K (upd H5 NT (.tup [V.str "N", .ref C1])) (.ref NT) (mkD (tallN many more)) := .tup (.inl upd_same) (.cons (.str _) (.cons (Im.mono (tk_same sNT) _ iC) .nil))
    have iL5 := Im.mono (tk_same (s35.trans sNT)) _ iL3
    generalize upd H5 NT (.tup [V.str "N", .ref C1]) = H6 at *
    have sMT := same_new (o := .tup [V.ref L1, .ref NT]) hMT
    have iMT : Im K (upd H6 MT (.tup [V.ref L1, .ref NT])) (.ref MT) (.tuple ([tallL, tallN many more].map mkD)) := .tup (.inl upd_same) (.cons (Im.mono (tk_same sMT) _ iL5) (.cons (Im.mono (tk_same sMT) _ iNT) .nil))
    generalize upd H6 MT (.tup [V.ref L1, .ref NT]) = H7 at *
    have sKT := same_new (o := .tup [V.str "A", .ref MT]) hKT
    have iKT : Im K (upd H7 KT (.tup [V.str "A", .ref MT])) (.ref KT) (kdD (tallKd many more)) := .tup (.inl upd_same) (.cons (.str _) (.cons (Im.mono (tk_same sKT) _ iMT) .nil))
    generalize upd H7 KT (.tup [V.str "A", .ref MT]) = H8 at *
    have sKS := same_new (o := .tup [V.ref KT]) hKS
    have iKS : Im K (upd H8 KS (.tup [V.ref KT])) (.ref KS) (ksD (tallKs many more)) := .tup (.inl upd_same) (.cons (Im.mono (tk_same sKS) _ iKT) .nil)
    have sK := ((((s23.trans s35).trans sNT).trans sMT).trans sKT).trans sKS
    have u3 := u2.same sK
    have B3 := B2.trans (but_same sK)
    generalize upd H8 KS (.tup [V.ref KT]) = H9 at *
    clear sKS sKT sMT sNT s35 s34 s23 sA3 sN1 sA1 sE1 sL1 iL1 iL3 iL5 iNT iMT iKT iC iC1 iR1 iR2 hKS hKT hMT hNT hN1 hA1 hL1 hE1 s3 s4 s5 sK
    -- keyed, blank
    intro Kd hKd
    have sKd := same_new (o := dN P w Kd []) hKd
    have eKd : (upd H9 Kd (dN P w Kd [])) Kd = some (dN P w Kd []) := upd_same
    have nKc : Kd ≠ c := u3.ne hKd
    refine ⟨by show 1 ≤ sizeLine; decide, fun Z1 hZ1 => ⟨.int (many : Nat), rfl, .int (more : Nat), rfl, _, _, rfl, rfl, ?_⟩⟩
    have sZ1 := same_new (o := .tup [V.int 0]) hZ1
    have en : (many : Int) + (more : Nat) = ((many + more : Nat) : Int) := by omega
    show rRepTA K (.ref Z1) (V.int ((many : Int) + (more : Nat))) _ _
    rw [en]
    refine rep_any (n := many + more) (.inl upd_same) (by omega) fun B0 H10 s10 iB0 => ⟨by show 2 ≤ sizeLine; decide, fun TT hTT => ?_⟩
    have sTT := same_new (o := .tup [V.ref Kd, .ref B0]) hTT
    have sAll : Same H9 _ := ((sKd.trans sZ1).trans s10).trans sTT
    have eK11 := sTT _ _ (s10 _ _ (sZ1 _ _ eKd))
    have iB11 := iB0.mono (tk_same sTT)
    have iK11 := Im.mono (tk_same sAll) _ iKS
    have u11 := u3.same sAll
    refine ⟨TT, _, rfl, .of upd_same, rfl, .ref Kd, _, rfl, .ref B0, _, rfl, rfl, ?_⟩
    generalize upd H10 TT (.tup [V.ref Kd, .ref B0]) = H11 at *
    clear sTT s10 sZ1 sKd eKd hTT hZ1 iB0 iKS
    have B11 : But c H H11 := B3.trans (but_same sAll)
    have iBd : Im K H11 (.ref B0) (nsD (List.replicate (many + more) 0)) := .tup iB11 (ints0 _ 0)
    -- the first key
    refine ⟨by show 2 ≤ sizeLine; decide, fun V1 hV1 => ⟨.ref Kd, rfl, .ref B0, rfl, by show 2 ≤ sizeLine; decide, fun K1 hK1 => ?_⟩⟩
    have sV1 := same_new (o := .tup [V.int 1, .int 1]) hV1
    have iV1 : Im K (upd H11 V1 (.tup [V.int 1, .int 1])) (.ref V1) (rD 1) := rat_mk (q := 1) (.inl upd_same)
    generalize upd H11 V1 (.tup [V.int 1, .int 1]) = H12 at *
    have sK1 := same_new (o := .tup [V.int 0, .ref B0]) hK1
    have ik : Im K (upd H12 K1 (.tup [V.int 0, .ref B0])) (.ref K1) (kD (kOf 0 (List.replicate (many + more) 0))) := by
      rw [kD_of _ _ 0]
      exact .tup (.inl upd_same) (.cons (.int _) (.cons (Im.mono (tk_same (sV1.trans sK1)) _ iBd) .nil))
    have iV2 := Im.mono (tk_same sK1) _ iV1
    generalize upd H12 K1 (.tup [V.int 0, .ref B0]) = H13 at *
    have s13 := sV1.trans sK1
    have eK13 := s13 _ _ eK11
    have x0 : XT K H13 many more 0 [] := ⟨fun x hx => by simp at hx, .nil, Nat.le_refl _, fun x hx => by simp at hx⟩
    refine ⟨Kd, [], kOf 0 (List.replicate (many + more) 0), K1, V1, rfl, rfl, ⟨eK13, x0.keys, rfl, ik, kOf_depth _ _⟩, by show 0 < sizeLine; decide, ?_⟩
    have x1 := x0.put (tm_blank many more) ik iV2
    have te : TK H13 (upd H13 Kd (dN P w Kd (putN [] (kOf 0 (List.replicate (many + more) 0)) K1 V1))) := tk_ext eK13
    have x14 := x1.mono te
    have u14 := (u11.same s13).upd (o := dN P w Kd (putN [] (kOf 0 (List.replicate (many + more) 0)) K1 V1)) nKc
    have b14 : But c H9 (upd H13 Kd (dN P w Kd (putN [] (kOf 0 (List.replicate (many + more) 0)) K1 V1))) := fun b o nb e => by
      rw [upd_ne (ne_of_none e hKd)]
      exact s13 _ _ (sAll _ _ e)
    have iK14 := Im.mono ((tk_same s13).trans te) _ iK11
    have iB14 := iB11.mono ((tk_same s13).trans te)
    have e14 : (upd H13 Kd (dN P w Kd (putN [] (kOf 0 (List.replicate (many + more) 0)) K1 V1))) Kd = some (dN P w Kd (putN [] (kOf 0 (List.replicate (many + more) 0)) K1 V1)) := upd_same
    refine ⟨1, 3, rfl, ⟨by decide, by decide, by decide, by decide⟩, ?_⟩
    refine for_it (walk_range (lo := 1) (n := ((3 : Int) - 1).toNat)) (fun i σ Ha => ∃ (y6 y7 : Option V) (xs : List NK), σ = [some (.ref c), some (.int (many : Nat)), some (.int (more : Nat)), some (.ref KS), some (.ref Kd), some (.ref B0), y6, y7, none, none, none, none, none, none, none, none] ∧ Sto Ha c ∧ But c H9 Ha ∧ TK H11 Ha ∧ Ha Kd = some (dN P w Kd xs) ∧ XT K Ha many more (1 + i * (many + 1)) xs) ⟨_, _, _, rfl, u14, b14, (tk_same s13).trans te, e14, x14.mono (fun _ _ e => e) |> fun z => ⟨z.keys, z.nd, Nat.le_trans z.few (by omega), z.each⟩⟩ (fun _ _ _ _ _ => trivial) ?_ ?_
    · rintro i x σ Ha Hb hi ⟨y6, y7, xs, rfl, ua, ba, ta, eKa, xa⟩ ⟨rfl, rfl⟩
      have hi2 : i < 2 := hi
      show gName 6 (V.int ((1 : Int) + (i : Nat))) _ _ _
      rw [show (1 : Int) + (i : Nat) = ((1 + i : Nat) : Int) by omega]
      obtain ⟨r, hr'⟩ : ∃ r, 1 + i = r := ⟨_, rfl⟩
      rw [hr']
      refine ⟨.int (many : Nat), rfl, (many : Nat), rfl, by omega, by omega, ?_⟩
      refine for_it (walk_range (lo := 0) (n := (many : Int).toNat)) (fun t σ He => ∃ (y7 : Option V) (xs : List NK), σ = [some (.ref c), some (.int (many : Nat)), some (.int (more : Nat)), some (.ref KS), some (.ref Kd), some (.ref B0), some (.int (r : Nat)), y7, none, none, none, none, none, none, none, none] ∧ Sto He c ∧ But c H9 He ∧ TK H11 He ∧ He Kd = some (dN P w Kd xs) ∧ XT K He many more (1 + i * (many + 1) + t) xs) ⟨_, _, rfl, ua, ba, ta, eKa, xa⟩ (fun _ _ _ _ _ => trivial) ?_ ?_
      · rintro t x σ He Hf ht ⟨y7, xs, rfl, ue, be, te, eKe, xe⟩ ⟨rfl, rfl⟩
        rw [Int.toNat_natCast] at ht
        show gName 7 (V.int ((0 : Int) + (t : Nat))) _ _ _
        rw [show (0 : Int) + (t : Nat) = (t : Nat) by omega]
        have few := xe.few
        have i4 : i * (many + 1) ≤ 1 * 4 := Nat.mul_le_mul (by omega) (by omega)
        refine ⟨by show 2 ≤ sizeLine; decide, fun Q0 hQ0 => ?_⟩
        have sQ0' := same_new (o := .tup [V.int (1), .int 1]) hQ0
        have iQ0 : Im K (upd Hf Q0 (.tup [V.int (1), .int 1])) (.ref Q0) (wD (1, 1)) := .tup (.inl upd_same) (.cons (.int _) (.cons (.int _) .nil))
        have aQ0 : ImAll K _ [V.ref Q0] ((fourA.take 1).map wD) := .cons iQ0 .nil
        generalize upd Hf Q0 (.tup [V.int (1), .int 1]) = J0 at *
        refine ⟨by show 2 ≤ sizeLine; decide, fun Q1 hQ1 => ?_⟩
        have sQ1' := same_new (o := .tup [V.int (1), .int 1]) hQ1
        have iQ1 : Im K (upd J0 Q1 (.tup [V.int (1), .int 1])) (.ref Q1) (wD (1, 1)) := .tup (.inl upd_same) (.cons (.int _) (.cons (.int _) .nil))
        have aQ1 : ImAll K _ [V.ref Q0, V.ref Q1] ((fourA.take 2).map wD) := (ImAll.mono (tk_same sQ1') _ aQ0).snoc iQ1
        generalize upd J0 Q1 (.tup [V.int (1), .int 1]) = J1 at *
        refine ⟨_, rfl, by show 2 ≤ sizeLine; decide, fun Q2 hQ2 => ?_⟩
        have sQ2' := same_new (o := .tup [V.int (-1), .int 1]) hQ2
        have iQ2 : Im K (upd J1 Q2 (.tup [V.int (-1), .int 1])) (.ref Q2) (wD (-1, 1)) := .tup (.inl upd_same) (.cons (.int _) (.cons (.int _) .nil))
        have aQ2 : ImAll K _ [V.ref Q0, V.ref Q1, V.ref Q2] ((fourA.take 3).map wD) := (ImAll.mono (tk_same sQ2') _ aQ1).snoc iQ2
        generalize upd J1 Q2 (.tup [V.int (-1), .int 1]) = J2 at *
        refine ⟨by show 2 ≤ sizeLine; decide, fun Q3 hQ3 => ?_⟩
        have sQ3' := same_new (o := .tup [V.int (2), .int 1]) hQ3
        have iQ3 : Im K (upd J2 Q3 (.tup [V.int (2), .int 1])) (.ref Q3) (wD (2, 1)) := .tup (.inl upd_same) (.cons (.int _) (.cons (.int _) .nil))
        have aQ3 : ImAll K _ [V.ref Q0, V.ref Q1, V.ref Q2, V.ref Q3] ((fourA.take 4).map wD) := (ImAll.mono (tk_same sQ3') _ aQ2).snoc iQ3
        generalize upd J2 Q3 (.tup [V.int (2), .int 1]) = J3 at *
        have sQ0 : Same Hf J3 := ((sQ0'.trans sQ1').trans sQ2').trans sQ3'
        refine ⟨by show 4 ≤ sizeLine; decide, fun QL hQL => ?_⟩
        have sQL := same_new (o := .lst [V.ref Q0, V.ref Q1, V.ref Q2, V.ref Q3]) hQL
        have eQL : (upd J3 QL (.lst [V.ref Q0, V.ref Q1, V.ref Q2, V.ref Q3])) QL = some (.lst [V.ref Q0, V.ref Q1, V.ref Q2, V.ref Q3]) := upd_same
        have aQ := ImAll.mono (tk_same sQL) _ aQ3
        have sQ := sQ0.trans sQL
        generalize upd J3 QL (.lst [V.ref Q0, V.ref Q1, V.ref Q2, V.ref Q3]) = JL at *
        have ug := ue.same sQ
        have nLc := (ue.same sQ0).ne hQL
        refine ⟨.ref c, rfl, c, 4, rfl, ug, by decide, fun dd G2 d4 ug2 bg2 => ?_⟩
        obtain ⟨ww, hw⟩ : ∃ ww, fourA[dd]? = some ww := ⟨_, List.getElem?_eq_getElem (show dd < fourA.length by show dd < 4; omega)⟩
        obtain ⟨xq, exq, ixq⟩ := all_at (f := wD) (l := fourA) (ImAll.mono (bg2.tk ug) _ aQ) hw
        obtain ⟨pq, wq, rfl, hpq, hwq⟩ := ixq.tuple_inv
        obtain ⟨f1, f2, f3, f4, f5⟩ := fourA_ok ww (List.mem_of_getElem? hw)
        have iq : Im K G2 (.ref pq) (rD ((ww.1 : Int) : Rat)) := by
          rw [← f3]
          show Im K G2 (.ref pq) (.tuple [.int (Rat.divInt ww.1 ww.2).num, .int ((Rat.divInt ww.1 ww.2).den : Int)])
          rw [f1, f2]
          exact .tup hpq hwq
        have iBg := (iB11.mono te).mono ((tk_same sQ).trans (bg2.tk ug))
        refine ⟨QL, _, _, .ref pq, rfl, rfl, .of (bg2 _ _ nLc eQL), atI_nat exq, .ref Kd, rfl, .int (r : Nat), rfl, .ref B0, rfl, .int (t : Nat), rfl, _, rfl, ?_⟩
        refine sl_any iBg fun Pa G3 s3 iPa => ?_
        rw [cut_rep (by omega)] at iPa
        refine ⟨.int (r : Nat), rfl, by show 1 ≤ sizeLine; decide, fun Pb hPb => ?_⟩
        have sPb := same_new (o := .tup [V.int (r : Nat)]) hPb
        refine cat_any (iPa.mono (tk_same sPb)) (.inl upd_same) (by rw [List.length_replicate, List.length_singleton]; omega) fun Pc G4 s4 iPc => ?_
        have s34 := (s3.trans sPb).trans s4
        refine ⟨.ref B0, rfl, .int (t : Nat), rfl, _, _, rfl, rfl, _, rfl, ?_⟩
        dsimp only [tNoPart]
        refine sl_any (iBg.mono (tk_same s34)) fun Pd G5 s5 iPd => ?_
        have et1 : (t : Int) + 1 = ((t + 1 : Nat) : Int) := by omega
        have iPd : ITup K G5 Pd (cutV (List.replicate (many + more) (V.int 0)) (some ((t : Int) + 1)) none) := iPd
        rw [et1, cut_rep2 (by omega)] at iPd
        refine cat_any (iPc.mono (tk_same s5)) iPd (by simp only [List.length_append, List.length_replicate, List.length_singleton]; omega) fun Pe G6 s6 iPe => ⟨by show 2 ≤ sizeLine; decide, fun K1 hK1 => ?_⟩
        have s36 := (s34.trans s5).trans s6
        have iCol : Im K G6 (.ref Pe) (nsD (colF (many + more) t r)) := by
          refine .tup iPe ?_
          unfold colF
          rw [List.map_append, List.map_append]
          exact ImAll.app (ImAll.app (ints0 t 0) (.cons (.int _) .nil)) (ints0 _ 0)
        have sK1 := same_new (o := .tup [V.int (r : Nat), .ref Pe]) hK1
        have ik : Im K (upd G6 K1 (.tup [V.int (r : Nat), .ref Pe])) (.ref K1) (kD (kOf r (colF (many + more) t r))) := by
          rw [kD_of _ _ 0]
          exact .tup (.inl upd_same) (.cons (.int _) (.cons (Im.mono (tk_same sK1) _ iCol) .nil))
        have iq7 := Im.mono (tk_same (s36.trans sK1)) _ iq
        have bAll : But c Hf _ := (but_same sQ).trans (bg2.trans (but_same (s36.trans sK1)))
        have u7 := (ug2.same s36).same sK1
        generalize upd G6 K1 (.tup [V.int (r : Nat), .ref Pe]) = G7 at *
        have eK7 := bAll _ _ nKc eKe
        have x7 := xe.mono (bAll.tk ue)
        have te7 : TK G7 (upd G7 Kd (dN P w Kd (putN xs (kOf r (colF (many + more) t r)) K1 pq))) := tk_ext eK7
        refine ⟨Kd, xs, kOf r (colF (many + more) t r), K1, pq, rfl, rfl, ⟨eK7, x7.keys, rfl, ik, kOf_depth _ _⟩, small1000 (by omega), ?_⟩
        refine ⟨_, _, rfl, u7.upd nKc, fun b o nb e => ?_, (te.trans (bAll.tk ue)).trans te7, upd_same, (x7.put (tm_f ht (by omega) (by omega) f4 f5) ik iq7).mono te7⟩
        rw [upd_ne (ne_of_none e hKd)]
        exact bAll _ _ nb (be _ _ nb e)
      · rintro σ He ⟨y7, xs, rfl, ue, be, te, eKe, xe⟩
        rw [Int.toNat_natCast] at xe
        have few := xe.few
        have i4 : i * (many + 1) ≤ 1 * 4 := Nat.mul_le_mul (by omega) (by omega)
        refine ⟨.int (r : Nat), rfl, by show 2 ≤ sizeLine; decide, fun V1 hV1 => ⟨.ref Kd, rfl, .int (r : Nat), rfl, by show 1 ≤ sizeLine; decide, fun Pa hPa => ⟨.int (many : Nat), rfl, ?_⟩⟩⟩
        have sV1 := same_new (o := .tup [V.int (r : Nat), .int 1]) hV1
        have iV1 : Im K (upd He V1 (.tup [V.int (r : Nat), .int 1])) (.ref V1) (rD ((r : Int) : Rat)) := rat_mk (q := ((r : Int) : Rat)) (.inl upd_same)
        have sPa := same_new (o := .tup [V.int 0]) hPa
        refine rep_any (n := many) (.inl upd_same) (by omega) fun Pb G3 s3 iPb => ⟨by show 1 ≤ sizeLine; decide, fun Pc hPc => ⟨.int (more : Nat), rfl, ?_⟩⟩
        have sPc := same_new (o := .tup [V.int 1]) hPc
        refine rep_any (n := more) (.inl upd_same) (by omega) fun Pd G4 s4 iPd => ?_
        refine cat_any (iPb.mono (tk_same (sPc.trans s4))) iPd (by simp only [List.length_replicate]; omega) fun Pe G6 s6 iPe => ⟨by show 2 ≤ sizeLine; decide, fun K1 hK1 => ?_⟩
        have sV6 := ((sPa.trans s3).trans (sPc.trans s4)).trans s6
        have iCol : Im K G6 (.ref Pe) (nsD (colN many more)) := by
          refine .tup iPe ?_
          unfold colN
          rw [List.map_append]
          exact ImAll.app (ints0 many 0) (ints0 more 1)
        have sK1 := same_new (o := .tup [V.int (r : Nat), .ref Pe]) hK1
        have ik : Im K (upd G6 K1 (.tup [V.int (r : Nat), .ref Pe])) (.ref K1) (kD (kOf r (colN many more))) := by
          rw [kD_of _ _ 0]
          exact .tup (.inl upd_same) (.cons (.int _) (.cons (Im.mono (tk_same sK1) _ iCol) .nil))
        have iq7 := Im.mono (tk_same (sV6.trans sK1)) _ iV1
        have sAll2 : Same He _ := sV1.trans (sV6.trans sK1)
        have u7 := ue.same sAll2
        generalize upd G6 K1 (.tup [V.int (r : Nat), .ref Pe]) = G7 at *
        have eK7 := sAll2 _ _ eKe
        have x7 := xe.mono (tk_same sAll2)
        have te7 : TK G7 (upd G7 Kd (dN P w Kd (putN xs (kOf r (colN many more)) K1 V1))) := tk_ext eK7
        refine ⟨Kd, xs, kOf r (colN many more), K1, V1, rfl, rfl, ⟨eK7, x7.keys, rfl, ik, kOf_depth _ _⟩, small1000 (by omega), ?_⟩
        have xn := (x7.put (tm_n (many := many) mo1 (by omega) (by omega)) ik iq7).mono te7
        refine ⟨_, _, _, rfl, u7.upd nKc, fun b o nb e => ?_, (te.trans (tk_same sAll2)).trans te7, upd_same, ⟨xn.keys, xn.nd, Nat.le_trans xn.few (by rw [Nat.succ_mul]; omega), xn.each⟩⟩
        rw [upd_ne (ne_of_none e hKd)]
        exact sAll2 _ _ (be _ _ nb e)
    · rintro σ Ha ⟨y6, y7, xs, rfl, ua, ba, ta, eKa, xa⟩
      have x9 : XT K Ha many more 9 xs := ⟨xa.keys, xa.nd, by
        have := xa.few
        have e2 : ((3 : Int) - 1).toNat = 2 := rfl
        rw [e2] at this
        omega, xa.each⟩
      clear xa
      have bH : But c H Ha := B3.trans ba
      have iKa := Im.mono ta _ iK11
      -- leaf
      refine ⟨3, rfl, by decide, by decide, fun D hD => ?_⟩
      have nDc := ua.ne hD
      refine lc_all (walk_range (lo := 0) (n := (3 : Int).toNat)) (fun t Hx => Sto Hx c ∧ But c Ha Hx ∧ ∃ (ws : List V) (lf : List Tm), Hx D = some (.lst ws) ∧ ImAll K Hx ws (lf.map tmD) ∧ lf.length = t ∧ ∀ (j : Nat) t', lf[j]? = some t' → t'.1 = j ∧ LeafTm t') ⟨ua.same (same_new hD), but_same (same_new hD), [], [], upd_same, .nil, rfl, fun j t' h => by simp at h⟩ (fun _ _ _ _ => trivial) (fun t x Hx Hy ht z y => ?_) (fun Hx z => ?_)
      · obtain ⟨ux, bx, ws, lf, eD, iD, ll, hlf⟩ := z
        obtain ⟨rfl, rfl⟩ := y
        have ht3 : t < 3 := ht
        refine ⟨rfl, .int _, rfl, by show 0 ≤ sizeLine; decide, fun E1 hE1 => ?_⟩
        have sE1 := same_new (o := .tup []) hE1
        have iE1 : Im K (upd Hy E1 (.tup [])) (.ref E1) (nsD []) := .tup (.inl upd_same) .nil
        generalize upd Hy E1 (.tup []) = H5 at *
        refine ⟨by show 2 ≤ sizeLine; decide, fun Q0 hQ0 => ?_⟩
        have sQ0' := same_new (o := .tup [V.int (1), .int 1]) hQ0
        have iQ0 : Im K (upd H5 Q0 (.tup [V.int (1), .int 1])) (.ref Q0) (wD (1, 1)) := .tup (.inl upd_same) (.cons (.int _) (.cons (.int _) .nil))
        have aQ0 : ImAll K _ [V.ref Q0] ((fourB.take 1).map wD) := .cons iQ0 .nil
        generalize upd H5 Q0 (.tup [V.int (1), .int 1]) = J0 at *
        refine ⟨by show 2 ≤ sizeLine; decide, fun Q1 hQ1 => ?_⟩
        have sQ1' := same_new (o := .tup [V.int (1), .int 1]) hQ1
        have iQ1 : Im K (upd J0 Q1 (.tup [V.int (1), .int 1])) (.ref Q1) (wD (1, 1)) := .tup (.inl upd_same) (.cons (.int _) (.cons (.int _) .nil))
        have aQ1 : ImAll K _ [V.ref Q0, V.ref Q1] ((fourB.take 2).map wD) := (ImAll.mono (tk_same sQ1') _ aQ0).snoc iQ1
        generalize upd J0 Q1 (.tup [V.int (1), .int 1]) = J1 at *
        refine ⟨_, rfl, by show 2 ≤ sizeLine; decide, fun Q2 hQ2 => ?_⟩
        have sQ2' := same_new (o := .tup [V.int (-1), .int 1]) hQ2
        have iQ2 : Im K (upd J1 Q2 (.tup [V.int (-1), .int 1])) (.ref Q2) (wD (-1, 1)) := .tup (.inl upd_same) (.cons (.int _) (.cons (.int _) .nil))
        have aQ2 : ImAll K _ [V.ref Q0, V.ref Q1, V.ref Q2] ((fourB.take 3).map wD) := (ImAll.mono (tk_same sQ2') _ aQ1).snoc iQ2
        generalize upd J1 Q2 (.tup [V.int (-1), .int 1]) = J2 at *
        refine ⟨by show 2 ≤ sizeLine; decide, fun Q3 hQ3 => ?_⟩
        have sQ3' := same_new (o := .tup [V.int (1), .int 2]) hQ3
        have iQ3 : Im K (upd J2 Q3 (.tup [V.int (1), .int 2])) (.ref Q3) (wD (1, 2)) := .tup (.inl upd_same) (.cons (.int _) (.cons (.int _) .nil))
        have aQ3 : ImAll K _ [V.ref Q0, V.ref Q1, V.ref Q2, V.ref Q3] ((fourB.take 4).map wD) := (ImAll.mono (tk_same sQ3') _ aQ2).snoc iQ3
        generalize upd J2 Q3 (.tup [V.int (1), .int 2]) = J3 at *
        have sQ0 : Same H5 J3 := ((sQ0'.trans sQ1').trans sQ2').trans sQ3'
        refine ⟨by show 4 ≤ sizeLine; decide, fun QL hQL => ?_⟩
        have sQL := same_new (o := .lst [V.ref Q0, V.ref Q1, V.ref Q2, V.ref Q3]) hQL
        have eQL : (upd J3 QL (.lst [V.ref Q0, V.ref Q1, V.ref Q2, V.ref Q3])) QL = some (.lst [V.ref Q0, V.ref Q1, V.ref Q2, V.ref Q3]) := upd_same
        have aQ := ImAll.mono (tk_same sQL) _ aQ3
        have sQ := sQ0.trans sQL
        generalize upd J3 QL (.lst [V.ref Q0, V.ref Q1, V.ref Q2, V.ref Q3]) = JL at *
        have uQ := (ux.same sE1).same sQ
        have nLc := ((ux.same sE1).same sQ0).ne hQL
        have lw : ws.length = lf.length := all_len iD
        have fin : ∀ (pq : Addr) (qq : Rat) (G : Hp), Sto G c → But c JL G → Im K G (.ref pq) (rD qq) → Sx 1 1 qq → qq ≠ 0 → (t = 0 → Sx 1 0 qq) → ∀ T, G T = none → ∃ acc, (upd G T (.tup [.int ((0 : Int) + (t : Nat)), .ref E1, .ref pq])) D = some (.lst acc) ∧ acc.length < sizeLine ∧ Sto (upd (upd G T (.tup [.int ((0 : Int) + (t : Nat)), .ref E1, .ref pq])) D (.lst (acc ++ [.ref T]))) c ∧ But c Ha (upd (upd G T (.tup [.int ((0 : Int) + (t : Nat)), .ref E1, .ref pq])) D (.lst (acc ++ [.ref T]))) ∧ ∃ (ws : List V) (lf : List Tm), (upd (upd G T (.tup [.int ((0 : Int) + (t : Nat)), .ref E1, .ref pq])) D (.lst (acc ++ [.ref T]))) D = some (.lst ws) ∧ ImAll K (upd (upd G T (.tup [.int ((0 : Int) + (t : Nat)), .ref E1, .ref pq])) D (.lst (acc ++ [.ref T]))) ws (lf.map tmD) ∧ lf.length = t + 1 ∧ ∀ (j : Nat) t', lf[j]? = some t' → t'.1 = j ∧ LeafTm t' := fun pq qq G uG bG iq s1 q0 s0 T hT => by
          have sT := same_new (o := .tup [.int ((0 : Int) + (t : Nat)), .ref E1, .ref pq]) hT
          have bAll : But c Hy _ := ((but_same (sE1.trans sQ)).trans bG).trans (but_same sT)
          have iT : Im K (upd G T (.tup [.int ((0 : Int) + (t : Nat)), .ref E1, .ref pq])) (.ref T) (tmD (t, [], qq)) := by
            rw [show (0 : Int) + (t : Nat) = ((t : Nat) : Int) by omega] at sT ⊢
            exact .tup (.inl upd_same) (.cons (.int _) (.cons (Im.mono ((tk_same sQ).trans ((bG.tk uQ).trans (tk_same sT))) _ iE1) (.cons (Im.mono (tk_same sT) _ iq) .nil)))
          have uT := uG.same sT
          generalize upd G T (.tup [.int ((0 : Int) + (t : Nat)), .ref E1, .ref pq]) = G9 at *
          have eD9 := bAll _ _ nDc eD
          refine ⟨ws, eD9, small1000 (by omega), uT.upd nDc, fun b o nb e => ?_, _, lf ++ [(t, [], qq)], upd_same, ?_, by rw [List.length_append, ll]; rfl, fun j t' h' => ?_⟩
          · rw [upd_ne (ne_of_none e hD)]; exact bAll _ _ nb (bx _ _ nb e)
          · rw [List.map_append]
            exact (ImAll.mono ((bAll.tk ux).trans (tk_lst eD9)) _ iD).snoc (Im.mono (tk_lst eD9) _ iT)
          · rcases get_snoc h' with h' | ⟨hj, rfl⟩
            · exact hlf j t' h'
            · exact ⟨by rw [hj, ll], ⟨ht3, rfl, ⟨s1, q0⟩, s0⟩⟩
        refine ⟨.int _, rfl, _, _, rfl, rfl, _, rfl, ?_⟩
        have ratB : ∀ (G : Hp) (pq : Addr) (ww : Int × Int), ww ∈ fourB → Im K G (.ref pq) (wD ww) → Im K G (.ref pq) (rD (Rat.divInt ww.1 ww.2)) := fun G pq ww hw iw => by
          obtain ⟨f1, f2, _⟩ := fourB_ok ww hw
          show Im K G (.ref pq) (.tuple [.int (Rat.divInt ww.1 ww.2).num, .int ((Rat.divInt ww.1 ww.2).den : Int)])
          rw [f1, f2]
          exact iw
        by_cases h0 : (0 : Int) + (t : Nat) > 0
        · rw [decide_eq_true h0]
          refine iteT ⟨.ref c, rfl, c, 4, rfl, uQ, by decide, fun dd G2 d4 u2' b2' => ?_⟩
          obtain ⟨ww, hw⟩ : ∃ ww, fourB[dd]? = some ww := ⟨_, List.getElem?_eq_getElem (show dd < fourB.length by show dd < 4; omega)⟩
          have hwm := List.mem_of_getElem? hw
          obtain ⟨xq, exq, ixq⟩ := all_at (f := wD) (l := fourB) (ImAll.mono (b2'.tk uQ) _ aQ) hw
          obtain ⟨pq, wq, rfl, hpq, hwq⟩ := ixq.tuple_inv
          obtain ⟨_, _, g3, g4, g5⟩ := fourB_ok ww hwm
          refine ⟨QL, _, _, .ref pq, rfl, rfl, .of (b2' _ _ nLc eQL), atI_nat exq, by show 3 ≤ sizeLine; decide, fun T hT => ?_⟩
          exact fin pq _ G2 u2' b2' (ratB _ _ _ hwm ixq) ⟨_, g4, by omega⟩ g3 (fun z => by omega) T hT
        · rw [decide_eq_false h0]
          obtain ⟨xq, exq, ixq⟩ := all_at (f := wD) (l := fourB) (i := 0) (a := (1, 1)) aQ rfl
          obtain rfl := Option.some.inj exq
          have iq0 := ratB JL Q0 (1, 1) (by decide) ixq
          have e11 : Rat.divInt (((1 : Int), (1 : Int)) : Int × Int).1 (((1 : Int), (1 : Int)) : Int × Int).2 = 1 := by decide +kernel
          rw [e11] at iq0
          refine iteF ⟨QL, _, _, .ref Q0, rfl, rfl, .of eQL, rfl, by show 3 ≤ sizeLine; decide, fun T hT => ?_⟩
          exact fin Q0 _ JL uQ (.refl _ _) iq0 (sx_one (Nat.le_refl _)) (by decide) (fun _ => sx_one (Nat.le_refl _)) T hT
      · obtain ⟨ux, bx, ws, lf, eD, iD, ll, hlf⟩ := z
        have ll3 : lf.length = 3 := ll
        refine ⟨D, _, rfl, .inl ⟨.of eD, fun LF hLF => ?_⟩⟩
        have sLF := same_new (o := .tup ws) hLF
        have iLF : Im K (upd Hx LF (.tup ws)) (.ref LF) (tsD lf) := .tup (.inl upd_same) (ImAll.mono (tk_same sLF) _ iD)
        have uL := ux.same sLF
        have bL := bx.trans (but_same sLF)
        generalize upd Hx LF (.tup ws) = H20 at *
        have lfOk : (∀ t ∈ lf, LeafTm t) ∧ lf.length ≤ 9 ∧ lf.Pairwise fun a b => nlt (key a) (key b) = true := by
          refine ⟨fun t ht => ?_, by omega, ?_⟩
          · obtain ⟨j, hj⟩ := List.getElem?_of_mem ht
            exact (hlf j t hj).2
          · rw [List.pairwise_iff_getElem]
            intro i j hi hj hij
            obtain ⟨a1, a2⟩ := hlf i _ (List.getElem?_eq_getElem hi)
            obtain ⟨b1, b2⟩ := hlf j _ (List.getElem?_eq_getElem hj)
            unfold key
            show (decide (lf[i].1 < lf[j].1) || _) = true
            rw [a1, b1, decide_eq_true hij]; rfl
        -- terms
        have eK20 := bL _ _ nKc eKa
        have x20 := x9.mono (bL.tk ua)
        have xi := x20.xi
        have few := xi.few
        obtain ⟨ys, py, ey, asc⟩ := xi.inorder
        have lys : ys.length = xs.length := py.length_eq
        refine ⟨.ref Kd, rfl, Kd, xs, rfl, eK20, xi.keys, fun A hA => ?_⟩
        have sA := same_new (o := .lst (xs.map fun x => V.ref x.2.1)) hA
        refine ⟨A, _, _, rfl, .of upd_same, ImAll.mono (tk_same sA) _ (keys_all xi.keys), xi.alike, .inl xi.sortable, xi.deep, fun S2 hS2 => ⟨S2, rfl, ⟨_, .of upd_same⟩, fun D2 hD2 => ?_⟩⟩
        rw [ey] at hD2 ⊢
        have sS2 := same_new (o := .lst (ys.map fun x => V.ref x.2.1)) hS2
        have eS2 : (upd (upd H20 A (.lst (xs.map fun x => V.ref x.2.1))) S2 (.lst (ys.map fun x => V.ref x.2.1))) S2 = some (.lst (ys.map fun x => V.ref x.2.1)) := upd_same
        have s68 := sA.trans sS2
        generalize upd (upd H20 A (.lst (xs.map fun x => V.ref x.2.1))) S2 (.lst (ys.map fun x => V.ref x.2.1)) = H21 at *
        have x21 := x20.mono (tk_same s68)
        have eK21 := s68 _ _ eK20
        refine lc_all (walk_list (xs := ys.map fun x => V.ref x.2.1)) (fun a Hx => Same H21 Hx ∧ ∃ (vs : List V) (ts : List Tm), Hx D2 = some (.lst vs) ∧ ImAll K Hx vs (ts.map tmD) ∧ ts.length = a ∧ ∀ (j : Nat) t, ts[j]? = some t → ∃ x, ys[j]? = some x ∧ x.1 = kOf t.1 t.2.1 ∧ TallTm many more t) ⟨same_new hD2, [], [], upd_same, .nil, rfl, fun j t h => by simp at h⟩ (fun a Hx _ z => .of (z.1 _ _ eS2)) (fun a x Hx Hy ha z y => ?_) (fun Hx z => ?_)
        · obtain ⟨s9, vs, ts, eD, iD, lts, hts⟩ := z
          obtain ⟨rfl, hxa⟩ := y
          rw [List.getElem?_map] at hxa
          obtain ⟨x, hx, rfl⟩ := Option.map_eq_some_iff.mp hxa
          rw [List.length_map] at ha
          have mx : x ∈ xs := py.mem_iff.mp (List.mem_of_getElem? hx)
          have x22 := x21.mono (tk_same s9)
          obtain ⟨r, cs, q0, k1, k2, k3⟩ := x22.each x mx
          obtain ⟨ikx, _⟩ := x22.keys x mx
          have vx := valN_of x22.nd mx
          have ikk := ikx
          rw [k1] at vx ikk
          rw [k1, kD_of _ _ q0] at ikx
          obtain ⟨pk', v1, v2, e1, hpk', iv1, iv2⟩ := im_pair ikx
          obtain rfl := V.ref.inj e1
          obtain rfl := iv1.int_inv
          refine ⟨rfl, .ref x.2.1, rfl, x.2.1, _, 0, _, rfl, rfl, hpk'.sq, atI_nat (j := 0) rfl, .ref x.2.1, rfl, x.2.1, _, 1, _, rfl, rfl, hpk'.sq, atI_nat (j := 1) rfl, ?_⟩
          refine ⟨.ref Kd, rfl, .ref x.2.1, rfl, Kd, xs, kOf r cs, x.2.1, x.2.2, rfl, ⟨s9 _ _ eK21, x22.keys, rfl, ikk, kOf_depth _ _⟩, vx, by show 3 ≤ sizeLine; decide, fun T hT => ?_⟩
          have sT := same_new (o := .tup [.int (r : Nat), v2, .ref x.2.2]) hT
          have it : Im K (upd Hy T (.tup [.int (r : Nat), v2, .ref x.2.2])) (.ref T) (tmD (r, cs, q0)) := .tup (.inl upd_same) (.cons (.int _) (.cons (Im.mono (tk_same sT) _ iv2) (.cons (Im.mono (tk_same sT) _ k3) .nil)))
          have eD8 := sT _ _ eD
          refine ⟨vs, eD8, small1000 (by rw [all_len iD]; omega), fun b o e => ?_, vs ++ [.ref T], ts ++ [(r, cs, q0)], upd_same, ?_, by rw [List.length_append, lts]; rfl, fun j t' h' => ?_⟩
          · rw [upd_ne (ne_of_none e hD2)]
            exact sT _ _ (s9 _ _ e)
          · rw [List.map_append]
            exact (ImAll.mono ((tk_same sT).trans (tk_lst eD8)) _ iD).snoc (Im.mono (tk_lst eD8) _ it)
          · rcases get_snoc h' with h' | ⟨hj, rfl⟩
            · exact hts j t' h'
            · rw [hj, lts]
              exact ⟨x, hx, k1, k2⟩
        · obtain ⟨s9, vs, ts, eD2, iD2, lts, hts⟩ := z
          rw [List.length_map] at lts
          refine ⟨D2, vs, rfl, .inl ⟨.of eD2, fun TS hTS => ?_⟩⟩
          have sTS := same_new (o := .tup vs) hTS
          have iTS : Im K (upd Hx TS (.tup vs)) (.ref TS) (tsD ts) := .tup (.inl upd_same) (ImAll.mono (tk_same sTS) _ iD2)
          have s23 := (s68.trans s9).trans sTS
          have u23 := uL.same s23
          have b23 := bL.trans (but_same s23)
          have iLF23 := Im.mono (tk_same s23) _ iLF
          generalize upd Hx TS (.tup vs) = H23 at *
          have tsOk : (∀ t ∈ ts, TallTm many more t) ∧ ts.length ≤ 9 ∧ ts.Pairwise fun a b => nlt (key a) (key b) = true := by
            refine ⟨fun t ht => ?_, by omega, asc_terms asc fun j t h => let ⟨x, a, b, _⟩ := hts j t h; ⟨x, a, b⟩⟩
            obtain ⟨j, hj⟩ := List.getElem?_of_mem ht
            obtain ⟨x, _, _, a⟩ := hts j t hj
            exact a
          have tf := tall_form (many := many) (more := more) (by omega) lfOk tsOk
          have iK23 := Im.mono (b23.tk ua) _ iKa
          have BH23 : But c H H23 := bH.trans b23
          -- rows
          refine ⟨by show 0 ≤ sizeLine; decide, fun E1 hE1 => ⟨by show 2 ≤ sizeLine; decide, fun W1 hW1 => ⟨by show 1 ≤ sizeLine; decide, fun R0 hR0 => ?_⟩⟩⟩
          have sE1 := same_new (o := .tup []) hE1
          have sW1 := same_new (o := .tup [V.str "L", .ref E1]) hW1
          have iW1 : Im K (upd (upd H23 E1 (.tup [])) W1 (.tup [V.str "L", .ref E1])) (.ref W1) (rwD (("L" : Str), [])) := .tup (.inl upd_same) (.cons (.str _) (.cons (Im.mono (tk_same sW1) _ (.tup (.inl upd_same) .nil)) .nil))
          have sR0 := same_new (o := .tup [V.ref W1]) hR0
          have iR0 : Im K (upd (upd (upd H23 E1 (.tup [])) W1 (.tup [V.str "L", .ref E1])) R0 (.tup [V.ref W1])) (.ref R0) (rwsD [(("L" : Str), [])]) := .tup (.inl upd_same) (.cons (Im.mono (tk_same sR0) _ iW1) .nil)
          have s24 := (sE1.trans sW1).trans sR0
          have u24 := u23.same s24
          generalize upd (upd (upd H23 E1 (.tup [])) W1 (.tup [V.str "L", .ref E1])) R0 (.tup [V.ref W1]) = H24 at *
          refine ⟨.ref c, rfl, c, 56, rfl, u24, by decide, fun tn H25 tn56 u25 b25 => ⟨_, _, rfl, rfl, _, rfl, by omega, by omega, ?_⟩⟩
          have b25' : But c H23 H25 := (but_same s24).trans b25
          refine for_it (walk_range (lo := 0) (n := ((39 : Int) + (tn : Nat)).toNat)) (fun t σ Hx => ∃ (y11 y12 y13 : Option V) (R : Addr) (rows : List Rw), σ = [some (.ref c), some (.int (many : Nat)), some (.int (more : Nat)), some (.ref KS), some (.ref Kd), some (.ref B0), y6, y7, some (.ref LF), some (.ref TS), some (.ref R), y11, y12, y13, none, none] ∧ Sto Hx c ∧ But c H23 Hx ∧ Im K Hx (.ref R) (rwsD rows) ∧ rows.length = t + 1 ∧ TallR many more rows) ⟨_, _, _, R0, _, rfl, u25, b25', Im.mono (b25.tk u24) _ iR0, rfl, tall_rows_one _ _⟩ (fun _ _ _ _ _ => trivial) ?_ ?_
          · rintro t x σ Hx Hy ht ⟨y11, y12, y13, R, rows, rfl, ux, bx, iR, lr, tr⟩ ⟨rfl, rfl⟩
            have ht94 : t < 94 := by omega
            show gName 11 (V.int ((0 : Int) + (t : Nat))) _ _ _
            obtain ⟨pR, rx, epR, hpR, hrx⟩ := iR.tuple_inv
            cases epR
            have lrx : rx.length = t + 1 := by rw [all_len hrx, lr]
            refine ⟨.ref R, rfl, R, rx, rfl, .inr hpR.sq, _, _, rfl, rfl, ?_⟩
            show gName 12 (V.int (((rx.length : Nat) : Int) - 1)) _ _ _
            rw [show ((rx.length : Nat) : Int) - 1 = ((t : Nat) : Int) by omega]
            refine ⟨.int (t : Nat), rfl, _, _, rfl, rfl, .ref c, rfl, c, 3, rfl, ux, by decide, fun z H26 z3 u26 b26 => ⟨_, _, rfl, rfl, .inr ⟨_, rfl, _, _, rfl, rfl, 0, _, rfl, ?_⟩⟩⟩
            obtain ⟨bk, ebk, lbk⟩ : ∃ bk : Nat, (if ((t : Nat) : Int) - 1 + (if decide (((z : Nat) : Int) > 0) = true then (1 : Int) else 0) > 0 then ((t : Nat) : Int) - 1 + (if decide (((z : Nat) : Int) > 0) = true then (1 : Int) else 0) else 0) = (bk : Nat) ∧ bk ≤ t := by
              by_cases hz : ((z : Nat) : Int) > 0
              · rw [decide_eq_true hz, show (if (true : Bool) = true then (1 : Int) else 0) = 1 from rfl]
                refine ⟨t, ?_, Nat.le_refl _⟩
                split <;> omega
              · rw [decide_eq_false hz, show (if (false : Bool) = true then (1 : Int) else 0) = 0 from rfl]
                refine ⟨t - 1, ?_, by omega⟩
                split <;> omega
            show gName 13 (V.int (if ((t : Nat) : Int) - 1 + (if decide (((z : Nat) : Int) > 0) = true then (1 : Int) else 0) > 0 then ((t : Nat) : Int) - 1 + (if decide (((z : Nat) : Int) > 0) = true then (1 : Int) else 0) else 0)) _ _ _
            rw [ebk]
            have hpR26 := hpR.mono (b26.tk ux)
            have hrx26 := ImAll.mono (b26.tk ux) _ hrx
            refine ⟨.ref R, rfl, .int (t : Nat), rfl, by show 1 ≤ sizeLine; decide, fun P1 hP1 => ⟨.int (bk : Nat), rfl, by show 1 ≤ sizeLine; decide, fun P2 hP2 => ⟨.int (many : Nat), rfl, _, _, rfl, rfl, ?_⟩⟩⟩
            have sP1 := same_new (o := .tup [V.int (t : Nat)]) hP1
            have iP1 : ITup K (upd H26 P1 (.tup [V.int (t : Nat)])) P1 [V.int (t : Nat)] := .inl upd_same
            have sP2 := same_new (o := .tup [V.int (bk : Nat)]) hP2
            show rRepTA K (.ref P2) (V.int ((many : Int) - 1)) _ _
            rw [show (many : Int) - 1 = ((many - 1 : Nat) : Int) by omega]
            refine rep_any (n := many - 1) (.inl upd_same) (by omega) fun P3 H27 s27 iP3 => ?_
            have s12 := sP2.trans s27
            refine cat_any (iP1.mono (tk_same s12)) iP3 (by rw [List.length_replicate, List.length_singleton]; omega) fun P4 H28 s28 iP4 => ?_
            have s26 : Same H26 H28 := (sP1.trans s12).trans s28
            have u28 := u26.same s26
            refine ⟨.ref c, rfl, c, 5, rfl, u28, by decide, fun nn H29 nn5 u29 b29 => ⟨_, _, rfl, rfl, by show 1 ≤ sizeLine; decide, fun P5 hP5 => ⟨.int (more : Nat), rfl, ?_⟩⟩⟩
            have sP5 := same_new (o := .tup [V.int ((nn : Int) - 2)]) hP5
            refine rep_any (n := more) (x := V.int ((nn : Int) - 2)) (.inl upd_same) (by omega) fun P6 H30 s30 iP6 => ?_
            have t56 := (b29.tk u28).trans (tk_same (sP5.trans s30))
            refine cat_any (iP4.mono t56) iP6 (by simp only [List.length_append, List.length_replicate, List.length_singleton]; omega) fun P7 H31 s31 iP7 => ⟨by show 2 ≤ sizeLine; decide, fun P8 hP8 => ⟨by show 1 ≤ sizeLine; decide, fun P9 hP9 => ?_⟩⟩
            have hes : ([V.int (t : Nat)] ++ List.replicate (many - 1) (V.int (bk : Nat)) ++ List.replicate more (V.int ((nn : Int) - 2))) = ([((t : Nat) : Int)] ++ List.replicate (many - 1) ((bk : Nat) : Int) ++ List.replicate more ((nn : Int) - 2)).map V.int := by
              simp only [List.map_append, List.map_replicate]; rfl
            rw [hes] at iP7
            generalize hE : ([((t : Nat) : Int)] ++ List.replicate (many - 1) ((bk : Nat) : Int) ++ List.replicate more ((nn : Int) - 2)) = es at iP7
            have les : es.length = many + more := by
              rw [← hE]
              simp only [List.length_append, List.length_replicate, List.length_singleton]; omega
            have ees : ∀ (i : Nat) e, es[i]? = some e → (i < many → ∃ n : Nat, e = n ∧ n < rows.length) ∧ (many ≤ i → e.natAbs ≤ 2) := fun i e h => by
              rw [← hE] at h
              by_cases hi : i < many
              · refine ⟨fun _ => ?_, fun z => by omega⟩
                rw [List.getElem?_append_left (by simp only [List.length_append, List.length_replicate, List.length_singleton]; omega)] at h
                cases i with
                | zero =>
                  obtain rfl := Option.some.inj h
                  exact ⟨t, rfl, by omega⟩
                | succ i =>
                  have h : (List.replicate (many - 1) ((bk : Nat) : Int))[i]? = some e := h
                  rw [List.getElem?_replicate] at h
                  split at h
                  · obtain rfl := Option.some.inj h
                    exact ⟨bk, rfl, by omega⟩
                  · cases h
              · refine ⟨fun z => by omega, fun _ => ?_⟩
                rw [List.getElem?_append_right (by simp only [List.length_append, List.length_replicate, List.length_singleton]; omega), List.getElem?_replicate] at h
                split at h
                · obtain rfl := Option.some.inj h
                  omega
                · cases h
            have iEs : Im K H31 (.ref P7) (.tuple (es.map .int)) := .tup iP7 (ints_im _)
            have sP8 := same_new (o := .tup [V.str "N", .ref P7]) hP8
            have iP8 : Im K (upd H31 P8 (.tup [V.str "N", .ref P7])) (.ref P8) (rwD (("N" : Str), es)) := .tup (.inl upd_same) (.cons (.str _) (.cons (Im.mono (tk_same sP8) _ iEs) .nil))
            have sP9 := same_new (o := .tup [V.ref P8]) hP9
            have t26 := (((tk_same s26).trans t56).trans (tk_same s31)).trans (tk_same (sP8.trans sP9))
            refine cat_any (hpR26.mono t26) (.inl upd_same) (by rw [List.length_singleton]; omega) fun P10 H32 s32 iP10 => ?_
            have bAll : But c Hy _ := ((b26.trans (but_same s26)).trans b29).trans (but_same ((((sP5.trans s30).trans s31).trans (sP8.trans sP9)).trans s32))
            refine ⟨_, _, _, P10, rows ++ [(("N" : Str), es)], rfl, u29.same ((((sP5.trans s30).trans s31).trans (sP8.trans sP9)).trans s32), bx.trans bAll, .tup iP10 ?_, by rw [List.length_append, lr]; rfl, tall_rows_snoc tr les ees⟩
            rw [List.map_append]
            exact ImAll.app (ImAll.mono (t26.trans (tk_same s32)) _ hrx26) (.cons (Im.mono (tk_same (sP9.trans s32)) _ iP8) .nil)
          · rintro σ Hx ⟨y11, y12, y13, R, rows, rfl, ux, bx, iR, lr, tr⟩
            have lr96 : rows.length ≤ 96 := by omega
            have tx := bx.tk u23
            have iKx := Im.mono tx _ iK23
            have iLx := Im.mono tx _ iLF23
            have iTx := Im.mono tx _ iTS
            have BHx := BH23.trans bx
            clear bx tx iK23 iLF23 iTS BH23 b25 b25'
            have e32 : rD (Rat.divInt 3 2) = .tuple [.int 3, .int 2] := by
              show PyData.tuple [.int (Rat.divInt 3 2).num, .int ((Rat.divInt 3 2).den : Int)] = _
              rw [show (Rat.divInt 3 2).num = 3 by decide +kernel, show ((Rat.divInt 3 2).den : Int) = 2 by decide +kernel]
            refine ⟨by show 2 ≤ sizeLine; decide, fun D0 hD0 => ?_⟩
            have sD0 := same_new (o := .tup [V.int (0), .int 1]) hD0
            have iD0 : Im K (upd Hx D0 (.tup [V.int (0), .int 1])) (.ref D0) (rD (0)) := rat_mk (q := 0) (.inl upd_same)
            replace iKx := Im.mono (tk_same sD0) _ iKx
            replace iLx := Im.mono (tk_same sD0) _ iLx
            replace iTx := Im.mono (tk_same sD0) _ iTx
            replace iR := Im.mono (tk_same sD0) _ iR
            replace ux := ux.same sD0
            replace BHx := BHx.trans (but_same sD0)
            generalize upd Hx D0 (.tup [V.int (0), .int 1]) = M0 at *
            clear sD0 hD0
            refine ⟨by show 2 ≤ sizeLine; decide, fun D1 hD1 => ?_⟩
            have sD1 := same_new (o := .tup [V.int (1), .int 1]) hD1
            have iD1 : Im K (upd M0 D1 (.tup [V.int (1), .int 1])) (.ref D1) (rD (1)) := rat_mk (q := 1) (.inl upd_same)
            replace iKx := Im.mono (tk_same sD1) _ iKx
            replace iLx := Im.mono (tk_same sD1) _ iLx
            replace iTx := Im.mono (tk_same sD1) _ iTx
            replace iR := Im.mono (tk_same sD1) _ iR
            replace iD0 := Im.mono (tk_same sD1) _ iD0
            replace ux := ux.same sD1
            replace BHx := BHx.trans (but_same sD1)
            generalize upd M0 D1 (.tup [V.int (1), .int 1]) = M1 at *
            clear sD1 hD1
            refine ⟨by show 2 ≤ sizeLine; decide, fun D2 hD2 => ?_⟩
            have sD2 := same_new (o := .tup [V.int (0), .int 1]) hD2
            have iD2 : Im K (upd M1 D2 (.tup [V.int (0), .int 1])) (.ref D2) (rD (0)) := rat_mk (q := 0) (.inl upd_same)
            replace iKx := Im.mono (tk_same sD2) _ iKx
            replace iLx := Im.mono (tk_same sD2) _ iLx
            replace iTx := Im.mono (tk_same sD2) _ iTx
            replace iR := Im.mono (tk_same sD2) _ iR
            replace iD0 := Im.mono (tk_same sD2) _ iD0
            replace iD1 := Im.mono (tk_same sD2) _ iD1
            replace ux := ux.same sD2
            replace BHx := BHx.trans (but_same sD2)
            generalize upd M1 D2 (.tup [V.int (0), .int 1]) = M2 at *
            clear sD2 hD2
            refine ⟨by show 3 ≤ sizeLine; decide, fun D3 hD3 => ?_⟩
            have sD3 := same_new (o := .tup [V.ref D0, .ref D1, .ref D2]) hD3
            have iD3 : Im K (upd M2 D3 (.tup [V.ref D0, .ref D1, .ref D2])) (.ref D3) (vD [0, 1, 0]) := .tup (.inl upd_same) (.cons (Im.mono (tk_same sD3) _ iD0) (.cons (Im.mono (tk_same sD3) _ iD1) (.cons (Im.mono (tk_same sD3) _ iD2) .nil)))
            replace iKx := Im.mono (tk_same sD3) _ iKx
            replace iLx := Im.mono (tk_same sD3) _ iLx
            replace iTx := Im.mono (tk_same sD3) _ iTx
            replace iR := Im.mono (tk_same sD3) _ iR
            replace iD0 := Im.mono (tk_same sD3) _ iD0
            replace iD1 := Im.mono (tk_same sD3) _ iD1
            replace iD2 := Im.mono (tk_same sD3) _ iD2
            replace ux := ux.same sD3
            replace BHx := BHx.trans (but_same sD3)
            generalize upd M2 D3 (.tup [V.ref D0, .ref D1, .ref D2]) = M3 at *
            clear sD3 hD3
            refine ⟨by show 3 ≤ sizeLine; decide, fun D4 hD4 => ?_⟩
            have sD4 := same_new (o := .tup [V.str "f", .str "A", .ref D3]) hD4
            have iD4 : Im K (upd M3 D4 (.tup [V.str "f", .str "A", .ref D3])) (.ref D4) (rdD (("f" : Str), ("A" : Str), [0, 1, 0])) := .tup (.inl upd_same) (.cons (.str _) (.cons (.str _) (.cons (Im.mono (tk_same sD4) _ iD3) .nil)))
            replace iKx := Im.mono (tk_same sD4) _ iKx
            replace iLx := Im.mono (tk_same sD4) _ iLx
            replace iTx := Im.mono (tk_same sD4) _ iTx
            replace iR := Im.mono (tk_same sD4) _ iR
            replace iD0 := Im.mono (tk_same sD4) _ iD0
            replace iD1 := Im.mono (tk_same sD4) _ iD1
            replace iD2 := Im.mono (tk_same sD4) _ iD2
            replace iD3 := Im.mono (tk_same sD4) _ iD3
            replace ux := ux.same sD4
            replace BHx := BHx.trans (but_same sD4)
            generalize upd M3 D4 (.tup [V.str "f", .str "A", .ref D3]) = M4 at *
            clear sD4 hD4
            refine ⟨by show 2 ≤ sizeLine; decide, fun F0 hF0 => ?_⟩
            have sF0 := same_new (o := .tup [V.int (1), .int 1]) hF0
            have iF0 : Im K (upd M4 F0 (.tup [V.int (1), .int 1])) (.ref F0) (rD (1)) := rat_mk (q := 1) (.inl upd_same)
            replace iKx := Im.mono (tk_same sF0) _ iKx
            replace iLx := Im.mono (tk_same sF0) _ iLx
            replace iTx := Im.mono (tk_same sF0) _ iTx
            replace iR := Im.mono (tk_same sF0) _ iR
            replace iD0 := Im.mono (tk_same sF0) _ iD0
            replace iD1 := Im.mono (tk_same sF0) _ iD1
            replace iD2 := Im.mono (tk_same sF0) _ iD2
            replace iD3 := Im.mono (tk_same sF0) _ iD3
            replace iD4 := Im.mono (tk_same sF0) _ iD4
            replace ux := ux.same sF0
            replace BHx := BHx.trans (but_same sF0)
            generalize upd M4 F0 (.tup [V.int (1), .int 1]) = M5 at *
            clear sF0 hF0
            refine ⟨_, rfl, by show 2 ≤ sizeLine; decide, fun F1 hF1 => ?_⟩
            have sF1 := same_new (o := .tup [V.int (-1), .int 1]) hF1
            have iF1 : Im K (upd M5 F1 (.tup [V.int (-1), .int 1])) (.ref F1) (rD (-1)) := rat_mk (q := -1) (.inl upd_same)
            replace iKx := Im.mono (tk_same sF1) _ iKx
            replace iLx := Im.mono (tk_same sF1) _ iLx
            replace iTx := Im.mono (tk_same sF1) _ iTx
            replace iR := Im.mono (tk_same sF1) _ iR
            replace iD0 := Im.mono (tk_same sF1) _ iD0
            replace iD1 := Im.mono (tk_same sF1) _ iD1
            replace iD2 := Im.mono (tk_same sF1) _ iD2
            replace iD3 := Im.mono (tk_same sF1) _ iD3
            replace iD4 := Im.mono (tk_same sF1) _ iD4
            replace iF0 := Im.mono (tk_same sF1) _ iF0
            replace ux := ux.same sF1
            replace BHx := BHx.trans (but_same sF1)
            generalize upd M5 F1 (.tup [V.int (-1), .int 1]) = M6 at *
            clear sF1 hF1
            refine ⟨by show 2 ≤ sizeLine; decide, fun F2 hF2 => ?_⟩
            have sF2 := same_new (o := .tup [V.int (3), .int 2]) hF2
            have iF2 : Im K (upd M6 F2 (.tup [V.int (3), .int 2])) (.ref F2) (rD (Rat.divInt 3 2)) := by rw [e32]; exact .tup (.inl upd_same) (.cons (.int _) (.cons (.int _) .nil))
            replace iKx := Im.mono (tk_same sF2) _ iKx
            replace iLx := Im.mono (tk_same sF2) _ iLx
            replace iTx := Im.mono (tk_same sF2) _ iTx
            replace iR := Im.mono (tk_same sF2) _ iR
            replace iD0 := Im.mono (tk_same sF2) _ iD0
            replace iD1 := Im.mono (tk_same sF2) _ iD1
            replace iD2 := Im.mono (tk_same sF2) _ iD2
            replace iD3 := Im.mono (tk_same sF2) _ iD3
            replace iD4 := Im.mono (tk_same sF2) _ iD4
            replace iF0 := Im.mono (tk_same sF2) _ iF0
            replace iF1 := Im.mono (tk_same sF2) _ iF1
            replace ux := ux.same sF2
            replace BHx := BHx.trans (but_same sF2)
            generalize upd M6 F2 (.tup [V.int (3), .int 2]) = M7 at *
            clear sF2 hF2
            refine ⟨by show 3 ≤ sizeLine; decide, fun F3 hF3 => ?_⟩
            have sF3 := same_new (o := .tup [V.ref F0, .ref F1, .ref F2]) hF3
            have iF3 : Im K (upd M7 F3 (.tup [V.ref F0, .ref F1, .ref F2])) (.ref F3) (vD [1, -1, Rat.divInt 3 2]) := .tup (.inl upd_same) (.cons (Im.mono (tk_same sF3) _ iF0) (.cons (Im.mono (tk_same sF3) _ iF1) (.cons (Im.mono (tk_same sF3) _ iF2) .nil)))
            replace iKx := Im.mono (tk_same sF3) _ iKx
            replace iLx := Im.mono (tk_same sF3) _ iLx
            replace iTx := Im.mono (tk_same sF3) _ iTx
            replace iR := Im.mono (tk_same sF3) _ iR
            replace iD0 := Im.mono (tk_same sF3) _ iD0
            replace iD1 := Im.mono (tk_same sF3) _ iD1
            replace iD2 := Im.mono (tk_same sF3) _ iD2
            replace iD3 := Im.mono (tk_same sF3) _ iD3
            replace iD4 := Im.mono (tk_same sF3) _ iD4
            replace iF0 := Im.mono (tk_same sF3) _ iF0
            replace iF1 := Im.mono (tk_same sF3) _ iF1
            replace iF2 := Im.mono (tk_same sF3) _ iF2
            replace ux := ux.same sF3
            replace BHx := BHx.trans (but_same sF3)
            generalize upd M7 F3 (.tup [V.ref F0, .ref F1, .ref F2]) = M8 at *
            clear sF3 hF3
            refine ⟨by show 3 ≤ sizeLine; decide, fun F4 hF4 => ?_⟩
            have sF4 := same_new (o := .tup [V.str "g", .str "A", .ref F3]) hF4
            have iF4 : Im K (upd M8 F4 (.tup [V.str "g", .str "A", .ref F3])) (.ref F4) (rdD (("g" : Str), ("A" : Str), [1, -1, Rat.divInt 3 2])) := .tup (.inl upd_same) (.cons (.str _) (.cons (.str _) (.cons (Im.mono (tk_same sF4) _ iF3) .nil)))
            replace iKx := Im.mono (tk_same sF4) _ iKx
            replace iLx := Im.mono (tk_same sF4) _ iLx
            replace iTx := Im.mono (tk_same sF4) _ iTx
            replace iR := Im.mono (tk_same sF4) _ iR
            replace iD0 := Im.mono (tk_same sF4) _ iD0
            replace iD1 := Im.mono (tk_same sF4) _ iD1
            replace iD2 := Im.mono (tk_same sF4) _ iD2
            replace iD3 := Im.mono (tk_same sF4) _ iD3
            replace iD4 := Im.mono (tk_same sF4) _ iD4
            replace iF0 := Im.mono (tk_same sF4) _ iF0
            replace iF1 := Im.mono (tk_same sF4) _ iF1
            replace iF2 := Im.mono (tk_same sF4) _ iF2
            replace iF3 := Im.mono (tk_same sF4) _ iF3
            replace ux := ux.same sF4
            replace BHx := BHx.trans (but_same sF4)
            generalize upd M8 F4 (.tup [V.str "g", .str "A", .ref F3]) = M9 at *
            clear sF4 hF4
            refine ⟨by show 2 ≤ sizeLine; decide, fun RD hRD => ?_⟩
            have sRD := same_new (o := .tup [V.ref D4, .ref F4]) hRD
            have iRD : Im K (upd M9 RD (.tup [V.ref D4, .ref F4])) (.ref RD) (rdsD tallRds) := .tup (.inl upd_same) (.cons (Im.mono (tk_same sRD) _ iD4) (.cons (Im.mono (tk_same sRD) _ iF4) .nil))
            replace iKx := Im.mono (tk_same sRD) _ iKx
            replace iLx := Im.mono (tk_same sRD) _ iLx
            replace iTx := Im.mono (tk_same sRD) _ iTx
            replace iR := Im.mono (tk_same sRD) _ iR
            replace iD0 := Im.mono (tk_same sRD) _ iD0
            replace iD1 := Im.mono (tk_same sRD) _ iD1
            replace iD2 := Im.mono (tk_same sRD) _ iD2
            replace iD3 := Im.mono (tk_same sRD) _ iD3
            replace iD4 := Im.mono (tk_same sRD) _ iD4
            replace iF0 := Im.mono (tk_same sRD) _ iF0
            replace iF1 := Im.mono (tk_same sRD) _ iF1
            replace iF2 := Im.mono (tk_same sRD) _ iF2
            replace iF3 := Im.mono (tk_same sRD) _ iF3
            replace iF4 := Im.mono (tk_same sRD) _ iF4
            replace ux := ux.same sRD
            replace BHx := BHx.trans (but_same sRD)
            generalize upd M9 RD (.tup [V.ref D4, .ref F4]) = M10 at *
            clear sRD hRD
            refine ⟨.ref KS, rfl, ?_⟩
            refine ⟨by show 1 ≤ sizeLine; decide, fun DM hDM => ?_⟩
            have sDM := same_new (o := .tup [V.int 3]) hDM
            have iDM : Im K (upd M10 DM (.tup [V.int 3])) (.ref DM) (nsD [3]) := .tup (.inl upd_same) (.cons (.int _) .nil)
            replace iKx := Im.mono (tk_same sDM) _ iKx
            replace iLx := Im.mono (tk_same sDM) _ iLx
            replace iTx := Im.mono (tk_same sDM) _ iTx
            replace iR := Im.mono (tk_same sDM) _ iR
            replace iD0 := Im.mono (tk_same sDM) _ iD0
            replace iD1 := Im.mono (tk_same sDM) _ iD1
            replace iD2 := Im.mono (tk_same sDM) _ iD2
            replace iD3 := Im.mono (tk_same sDM) _ iD3
            replace iD4 := Im.mono (tk_same sDM) _ iD4
            replace iF0 := Im.mono (tk_same sDM) _ iF0
            replace iF1 := Im.mono (tk_same sDM) _ iF1
            replace iF2 := Im.mono (tk_same sDM) _ iF2
            replace iF3 := Im.mono (tk_same sDM) _ iF3
            replace iF4 := Im.mono (tk_same sDM) _ iF4
            replace iRD := Im.mono (tk_same sDM) _ iRD
            replace ux := ux.same sDM
            replace BHx := BHx.trans (but_same sDM)
            generalize upd M10 DM (.tup [V.int 3]) = M11 at *
            clear sDM hDM
            refine ⟨.ref LF, rfl, .ref TS, rfl, ?_⟩
            refine ⟨by show 2 ≤ sizeLine; decide, fun MA hMA => ?_⟩
            have sMA := same_new (o := .tup [V.ref LF, .ref TS]) hMA
            have iMA : Im K (upd M11 MA (.tup [V.ref LF, .ref TS])) (.ref MA) (mrD [lf, ts]) := .tup (.inl upd_same) (.cons (Im.mono (tk_same sMA) _ iLx) (.cons (Im.mono (tk_same sMA) _ iTx) .nil))
            replace iKx := Im.mono (tk_same sMA) _ iKx
            replace iLx := Im.mono (tk_same sMA) _ iLx
            replace iTx := Im.mono (tk_same sMA) _ iTx
            replace iR := Im.mono (tk_same sMA) _ iR
            replace iD0 := Im.mono (tk_same sMA) _ iD0
            replace iD1 := Im.mono (tk_same sMA) _ iD1
            replace iD2 := Im.mono (tk_same sMA) _ iD2
            replace iD3 := Im.mono (tk_same sMA) _ iD3
            replace iD4 := Im.mono (tk_same sMA) _ iD4
            replace iF0 := Im.mono (tk_same sMA) _ iF0
            replace iF1 := Im.mono (tk_same sMA) _ iF1
            replace iF2 := Im.mono (tk_same sMA) _ iF2
            replace iF3 := Im.mono (tk_same sMA) _ iF3
            replace iF4 := Im.mono (tk_same sMA) _ iF4
            replace iRD := Im.mono (tk_same sMA) _ iRD
            replace iDM := Im.mono (tk_same sMA) _ iDM
            replace ux := ux.same sMA
            replace BHx := BHx.trans (but_same sMA)
            generalize upd M11 MA (.tup [V.ref LF, .ref TS]) = M12 at *
            clear sMA hMA
            refine ⟨by show 1 ≤ sizeLine; decide, fun MB hMB => ?_⟩
            have sMB := same_new (o := .tup [V.ref MA]) hMB
            have iMB : Im K (upd M12 MB (.tup [V.ref MA])) (.ref MB) (mpD [[lf, ts]]) := .tup (.inl upd_same) (.cons (Im.mono (tk_same sMB) _ iMA) .nil)
            replace iKx := Im.mono (tk_same sMB) _ iKx
            replace iLx := Im.mono (tk_same sMB) _ iLx
            replace iTx := Im.mono (tk_same sMB) _ iTx
            replace iR := Im.mono (tk_same sMB) _ iR
            replace iD0 := Im.mono (tk_same sMB) _ iD0
            replace iD1 := Im.mono (tk_same sMB) _ iD1
            replace iD2 := Im.mono (tk_same sMB) _ iD2
            replace iD3 := Im.mono (tk_same sMB) _ iD3
            replace iD4 := Im.mono (tk_same sMB) _ iD4
            replace iF0 := Im.mono (tk_same sMB) _ iF0
            replace iF1 := Im.mono (tk_same sMB) _ iF1
            replace iF2 := Im.mono (tk_same sMB) _ iF2
            replace iF3 := Im.mono (tk_same sMB) _ iF3
            replace iF4 := Im.mono (tk_same sMB) _ iF4
            replace iRD := Im.mono (tk_same sMB) _ iRD
            replace iDM := Im.mono (tk_same sMB) _ iDM
            replace iMA := Im.mono (tk_same sMB) _ iMA
            replace ux := ux.same sMB
            replace BHx := BHx.trans (but_same sMB)
            generalize upd M12 MB (.tup [V.ref MA]) = M13 at *
            clear sMB hMB
            refine ⟨.ref RD, rfl, ?_⟩
            refine ⟨by show 4 ≤ sizeLine; decide, fun PF hPF => ?_⟩
            have sPF := same_new (o := .tup [V.ref KS, .ref DM, .ref MB, .ref RD]) hPF
            have iPF : Im K (upd M13 PF (.tup [V.ref KS, .ref DM, .ref MB, .ref RD])) (.ref PF) (fmD ⟨tallKs many more, [3], [[lf, ts]], tallRds⟩) := .tup (.inl upd_same) (.cons (Im.mono (tk_same sPF) _ iKx) (.cons (Im.mono (tk_same sPF) _ iDM) (.cons (Im.mono (tk_same sPF) _ iMB) (.cons (Im.mono (tk_same sPF) _ iRD) .nil))))
            replace iKx := Im.mono (tk_same sPF) _ iKx
            replace iLx := Im.mono (tk_same sPF) _ iLx
            replace iTx := Im.mono (tk_same sPF) _ iTx
            replace iR := Im.mono (tk_same sPF) _ iR
            replace iD0 := Im.mono (tk_same sPF) _ iD0
            replace iD1 := Im.mono (tk_same sPF) _ iD1
            replace iD2 := Im.mono (tk_same sPF) _ iD2
            replace iD3 := Im.mono (tk_same sPF) _ iD3
            replace iD4 := Im.mono (tk_same sPF) _ iD4
            replace iF0 := Im.mono (tk_same sPF) _ iF0
            replace iF1 := Im.mono (tk_same sPF) _ iF1
            replace iF2 := Im.mono (tk_same sPF) _ iF2
            replace iF3 := Im.mono (tk_same sPF) _ iF3
            replace iF4 := Im.mono (tk_same sPF) _ iF4
            replace iRD := Im.mono (tk_same sPF) _ iRD
            replace iDM := Im.mono (tk_same sPF) _ iDM
            replace iMA := Im.mono (tk_same sPF) _ iMA
            replace iMB := Im.mono (tk_same sPF) _ iMB
            replace ux := ux.same sPF
            replace BHx := BHx.trans (but_same sPF)
            generalize upd M13 PF (.tup [V.ref KS, .ref DM, .ref MB, .ref RD]) = M14 at *
            clear sPF hPF
            refine ⟨.ref R, rfl, by show 2 ≤ sizeLine; decide, fun PP hPP => ?_⟩
            have sPP := same_new (o := .tup [V.ref PF, .ref R]) hPP
            exact q PP PF R many more _ rows _ (ux.same sPP) (BHx.trans (but_same sPP)) (.inl upd_same) (Im.mono (tk_same sPP) _ iPF) (Im.mono (tk_same sPP) _ iR) m1 (by omega) tf tr (by omega) lr96
end
end K63

set_option Elab.async false
set_option linter.all false
set_option maxRecDepth 100000
/-! a text against an object of any kind: equal, or in a list of texts -/
namespace Ly
open PySem PySem.Spec PyProof.Rows L2 Mt
theorem str_eq_declines_dict (b : Str) (u : Tok) (l : Addr) (o : Obj) (es : Array DictEntry) (ep : Nat) (hd : o.data = .dict es ep) (hc : o.cls = .type "dict") :
    Meets (Builtin.«str.__eq__» ⟨[.str b u, .ref l], []⟩) (fun _ R s => s.heap.get? l = some o ∧ R (.ok (.ret .notImplemented)) s) :=
  .of_wp fun prog w A R s h => by
    obtain ⟨cls, dd, data, sl⟩ := o
    simp only at hd hc
    subst hd hc
    obtain ⟨hp, g, d, tk, os⟩ := s
    obtain ⟨hl, h⟩ := h
    wp_walk using wpAny_loadPart' hl, wpAny_load hl
    exact ⟨_, rfl, h⟩
section
variable {A : Around} {s : Shared} {prog : Program} {w : World}
theorem dict_eq_declines_str {l : Addr} (b : Str) (u : Tok) (hT : s.TypeIs (.ref l) "dict") {E : Value → Shared → Prop} {Q : Value → Shared → Prop} (h : Q .notImplemented s) :
    wpAny (model prog w) A (call (.builtin "dict.__eq__") [.ref l, .str b u]) Q E s := by
  refine wpAny_call_entry PySem.F.slot_dict_eq_refl hT PySem.F.entry_dict_eq ?_ (PySem.F.args_dict_eq_2 _ _)
  show wpAny _ _ (Builtin.Dict.dictSlotArgs "__eq__" ⟨[.ref l, .str b u], []⟩ >>= _) _ _ s
  refine wpAny_bind ?_
  unfold Builtin.Dict.dictSlotArgs
  refine wpAny_bind (wpAny_notOrdered_dict hT ?_)
  show wpAny _ _ (pure (Value.ref l, Value.str b u)) _ _ s
  refine wpAny_pure ?_
  refine wpAny_bind (wpAny_isInstance (typeIs_str s b u) PySem.F.sub_str_dict ?_)
  simp only [Bool.not_false, if_true]
  refine wpAny_bind (wpAny_rule (wpAny_bind (wpAny_pure ?_)))
  exact wpAny_pure ⟨_, rfl, h⟩
theorem RcAt.str_dict {l : Addr} {o : Obj} {es : Array DictEntry} {ep : Nat} (b : Str) (u : Tok) (ho : s.heap.get? l = some o) (hd : o.data = .dict es ep) (hc : o.cls = .type "dict") (hu : A.units < cLine) : SeqAt.RcAt A s (.str b u) (.ref l) false := fun prog w E Q h => by
  have hT : s.TypeIs (.ref l) "dict" := ⟨_, ho, hc⟩
  exact SeqAt.rc_eq_decline_or (k := false) (typeIs_str s b u) hT (by decide) PySem.F.sub_dict_str PySem.F.slot_str_eq PySem.F.slot_dict_eq_refl
    (fun _ hq => call_meets PySem.F.slot_str_eq (typeIs_str s b u) PySem.F.entry_str_eq (PySem.F.args_str_eq_2 _ _) (str_eq_declines_dict b u l o es ep hd hc) ⟨ho, hq⟩)
    (fun _ hq => dict_eq_declines_str b u hT hq)
    (fun _ hq => wpAny_of_eq (rfl : isSame (.str b u) (.ref l) = pure false) hq) (.inr hu) h
theorem EqAt.str_dict {l : Addr} {o : Obj} {es : Array DictEntry} {ep : Nat} (b : Str) (u : Tok) (ho : s.heap.get? l = some o) (hd : o.data = .dict es ep) (hc : o.cls = .type "dict") (hu : A.units < cLine) : SeqAt.EqAt A s (.str b u) (.ref l) false := fun prog w E Q h => by
  unfold eqBool
  refine wpAny_holding ?_
  refine wpAny_ite_split (fun hab => absurd (eq_of_beq hab) nofun) (fun _ => ?_)
  exact wpAny_bind (Ly.RcAt.str_dict b u ho hd hc hu prog w E _ (wpAny_truthy_bool h))
end
/-- an object of any kind; a text is told -/
inductive Odd (K : PySem.W.Frag) (H : Hp) : V → Option Str → Prop
  | non : Odd K H .non none
  | bl (b : Bool) : Odd K H (.bl b) none
  | int (i : Int) : Odd K H (.int i) none
  | str (z : Str) : Odd K H (.str z) (some z)
  | tup {a : Addr} {xs : List V} : SqT K H a xs → Odd K H (.ref a) none
  | lst {a : Addr} {xs : List V} : SqL K H a xs → Odd K H (.ref a) none
  | dic {a : Addr} {kvs : List (Key × V)} : H a = some (.dK kvs) → Odd K H (.ref a) none
theorem Odd.same {K : PySem.W.Frag} {H H' : Hp} {v : V} {o : Option Str} (h : Odd K H v o) (s : Same H H') : Odd K H' v o := by
  cases h with
  | non => exact .non
  | bl b => exact .bl b
  | int i => exact .int i
  | str z => exact .str z
  | tup h => exact .tup (sqt_same' h s)
  | lst h => exact .lst (sql_same' h s)
  | dic h => exact .dic (s _ _ h)
section
variable {X : Cx} {pins : List (Addr × Obj)} {σ : L2.St} {H : Hp} {s : Shared} {A : Around}
theorem Odd.eqAt (I : Inv X pins σ H s) {v : V} {o : Option Str} (h : Odd X.K H v o) {u : Value} (r : RelV v u) (z : Str) (t : Tok) (hu : A.units < cLine) : SeqAt.EqAt A s (.str z t) u (decide (o = some z)) := by
  cases h with
  | non => cases r; exact SeqAt.EqAt.str_none z t
  | bl b => cases r; exact SeqAt.EqAt.str_bool z t b
  | int i => obtain ⟨t', rfl⟩ := r; exact SeqAt.EqAt.str_int z t i t'
  | str y =>
    obtain ⟨t', rfl⟩ := r
    have e : decide (some y = some z) = (z == y) := by
      by_cases h : z = y
      · subst h; simp
      · rw [decide_eq_false (fun e => h (Option.some.inj e).symm)]
        exact (beq_eq_false_iff_ne.mpr h).symm
    rw [e]
    exact SeqAt.EqAt.str_str z t y t'
  | tup hs =>
    cases r
    obtain ⟨its, rv, p, _⟩ := I.tuple hs
    exact SeqAt.EqAt.str_tuple z t p hu
  | lst hs =>
    cases r
    obtain ⟨its, rv, p, _⟩ := I.list hs
    exact SeqAt.EqAt.str_list z t p.isList hu
  | @dic a kvs hs =>
    cases r
    obtain ⟨_, _, vs, _, o', es, ep, ho, hx, hd, _⟩ := (show ObjOk X.prog X.w H s.heap a (.dK kvs) from I.hok a _ hs)
    exact Ly.EqAt.str_dict z t ho hd hx.1 hu
theorem Odd.rcAt (I : Inv X pins σ H s) {v : V} {o : Option Str} (h : Odd X.K H v o) {u : Value} (r : RelV v u) (z : Str) (t : Tok) (hu : A.units < cLine) : SeqAt.RcAt A s (.str z t) u (decide (o = some z)) := by
  cases h with
  | non => cases r; exact SeqAt.RcAt.str_none z t
  | bl b => cases r; exact SeqAt.RcAt.str_bool z t b
  | int i => obtain ⟨t', rfl⟩ := r; exact SeqAt.RcAt.str_int z t i t'
  | str y =>
    obtain ⟨t', rfl⟩ := r
    have e : decide (some y = some z) = (z == y) := by
      by_cases h : z = y
      · subst h; simp
      · rw [decide_eq_false (fun e => h (Option.some.inj e).symm)]
        exact (beq_eq_false_iff_ne.mpr h).symm
    rw [e]
    exact SeqAt.RcAt.str_str z t y t'
  | tup hs =>
    cases r
    obtain ⟨its, rv, p, _⟩ := I.tuple hs
    exact SeqAt.RcAt.str_tuple z t p hu
  | lst hs =>
    cases r
    obtain ⟨its, rv, p, _⟩ := I.list hs
    exact SeqAt.RcAt.str_list z t p.isList hu
  | @dic a kvs hs =>
    cases r
    obtain ⟨_, _, vs, _, o', es, ep, ho, hx, hd, _⟩ := (show ObjOk X.prog X.w H s.heap a (.dK kvs) from I.hok a _ hs)
    exact Ly.RcAt.str_dict z t ho hd hx.1 hu
end
/-- a text == an object -/
def rEqO (K : PySem.W.Frag) : R2 := fun x y H Q => ∃ z o, x = .str z ∧ Odd K H y o ∧ Q (.bl (decide (o = some z))) H
theorem kop_eqO {X : Cx} (K : PySem.W.Frag) (hu : X.A.units + 1 < cLine) (eK : X.K = K := by rfl) : OpR X (compareOp .Eq) (rEqO K) := by
  subst eK
  intro pins s σ H x y v u Q I rx ry h
  obtain ⟨z, o, rfl, ho, q⟩ := h
  obtain ⟨t, rfl⟩ := rx
  exact ho.rcAt I ry z t (by omega) _ _ _ _ ⟨.bl _, H, I, rfl, q⟩
/-- an object not in a list of texts -/
def rNotInO (K : PySem.W.Frag) : R2 := fun x y H Q => ∃ p zs o, y = .ref p ∧ SqL K H p (List.map V.str zs) ∧ Odd K H x o ∧ Q (.bl (!zs.any fun z => decide (o = some z))) H
theorem kop_notInO {X : Cx} (K : PySem.W.Frag) (hu : X.A.units + 1 < cLine) (eK : X.K = K := by rfl) : OpR X (compareOp .NotIn) (rNotInO K) := by
  subst eK
  intro pins s σ H x y v u Q I rx ry h
  obtain ⟨p, zs, o, rfl, hq, ho, q⟩ := h
  cases ry
  obtain ⟨its, r, pl, hz⟩ := I.list hq
  refine SeqAt.notIn_listAt (fun w => match w with | .str z _ => decide (o = some z) | _ => false) pl.isList (fun w hw => ?_) ⟨.bl _, H, I, rfl, ?_⟩
  · have hw' : w ∈ its := by simpa using hw
    have : ∀ {xs : List Str} {us : List Value}, Vals (xs.map V.str) us → ∀ w ∈ us, ∃ z t, w = .str z t := fun {xs} => by
      induction xs with
      | nil => intro us h w hw; cases h; cases hw
      | cons z xs ih =>
        intro us h w hw
        cases h with
        | cons h1 h2 =>
          rcases List.mem_cons.mp hw with rfl | hw
          · obtain ⟨t, rfl⟩ := h1
            exact ⟨z, t, rfl⟩
          · exact ih h2 w hw
    obtain ⟨z, t, rfl⟩ := this r w hw'
    exact ho.eqAt I rx z t (by show X.A.units + 1 < cLine; omega)
  · have : ∀ {xs : List Str} {us : List Value}, Vals (xs.map V.str) us → us.any (fun w => match w with | .str z _ => decide (o = some z) | _ => false) = xs.any fun z => decide (o = some z) := fun {xs} => by
      induction xs with
      | nil => intro us h; cases h; rfl
      | cons z xs ih =>
        intro us h
        cases h with
        | cons h1 h2 =>
          obtain ⟨t, rfl⟩ := h1
          rw [List.any_cons, List.any_cons, ih h2]
    rw [show its.toArray.any (fun w => match w with | .str z _ => decide (o = some z) | _ => false) = its.any (fun w => match w with | .str z _ => decide (o = some z) | _ => false) by simp, this r]
    exact q
end Ly

set_option Elab.async false
set_option linter.all false
set_option maxRecDepth 100000
/-! a def that raises, called by its parameter's name -/
namespace Ly
open PySem PySem.Spec PyProof.Rows L2
def tCallKS (sp : Sp) (gV : List V → List V → List V) (E : L2.St → XK) (t tk : TA) : TE := fun σ H Q => t σ H fun vs H1 => tk σ H1 fun zs H2 => sp (gV vs zs) H2 Q (E σ)
section
variable {X : Cx} {k : Nat} {x : Str} {st : Stmt} {ps ks : List Str} {sp : Sp} {p pos : Pos} {f : Addr} {fd : FuncData} {kws : List Keyword} {tk : TA} {W : WX} {E : L2.St → XK} {CX : CXT} {g : List Value → List Value → List Value} {gV : List V → List V → List V}
theorem run_fnKS {pins : List (Addr × Obj)} {σ : L2.St} {H : Hp} {s : Shared} {Q : VK} {us ws : List Value} {vs zs : List V} (F : FnOk X.prog X.w X.K X.mg X.base CX k f fd ps sp) (hr : Room k X.A) (hb : KBinds X.K fd ps ks g gV) (hx : PassesAt CX X σ (E σ))
    (I : Inv X pins σ H s) (r : Vals vs us) (rz : Vals zs ws) (h : sp (gV vs zs) H Q (E σ)) : wpAny (model X.prog X.w) X.A (call (.ref f) us (ks.zip ws)) (EP X pins σ Q) X.xe s := by
  have r2 := hb.rel r rz
  have hl : (g us ws).length = ps.length := by rw [← r2.length]; exact F.len _ _ _ _ h
  refine wpAny_call (codeAny_mono (F.run X.A X.stack s H ⟨us, ks.zip ws⟩ (g us ws) (gV vs zs) Q (E σ) hr I.env0 (hb.to s us ws I.kIn hl) r2 h) fun r s' hq => ?_)
  cases r with
  | error e => exact hx pins H s e s' I hq
  | ok fl =>
    cases fl with
    | ret u => exact I.after hq
    | next => exact False.elim hq
    | brk => exact False.elim hq
    | cont => exact False.elim hq
theorem pe_defKX (O : DefX X.prog X.w X.K X.mg X.base k x st ps sp) (tw : Takes X W) (hr : Room k X.A) (hg : Gl X x) (kb : ∀ f fd, Fun X.K x x st f fd → KBinds X.K fd ps ks g gV) (hkw : PK X kws tk)
    (hall : (backToKw pos (keywordEach kws X.env)).all (·.1.isSome) = true := by rfl) (hks : (backToKw pos (keywordEach kws X.env)).filterMap (·.1) = ks := by rfl) (hdb : (x == ("__debug__" : Str)) = false := by decide)
    (hpl : ((backTo pos (starEach [] X.env)).any (·.1) || (backToKw pos (keywordEach kws X.env)).any (·.1.isNone)) = false := by rfl) :
    PE X (.Call (.Name x p) [] kws pos) (tCallKS sp gV (WE W) tNil tk) := by
  obtain ⟨f, fd, F, hm, hk, _, U⟩ := O.ex
  refine ⟨fun pins s σ H Q I h => wpAny_Call_Name_kw (ld_glob I hg hm (PySem.W.callWith_KW0 (h₀ := X.base) I.ok.mod.kin hk hall (thn (hkw.run pos pins s σ H _ I h) ?_) hpl) hdb)⟩
  rintro ws s2 ⟨zs, H2, I2, rz, q2⟩
  refine ⟨I2.kIn, ?_⟩
  rw [hks]
  exact run_fnKS F hr (kb f fd U) (passAt tw σ) I2 .nil rz q2
end
end Ly

set_option Elab.async false
set_option linter.all false
set_option maxRecDepth 100000
set_option exponentiation.threshold 20000
set_option pp.deepTerms false
set_option pp.deepTerms.threshold 8
namespace K63
open PySem PySem.Spec PyProof.Rows L2 Ly Mt
/-! ### products of vectors -/
theorem FormOk.up {F : Form} (h : FormOk 1 F) : FormOk 2 F := ⟨Nat.le_refl 2, h.kinds, h.ld, fun d hd => by have := h.hd d hd; omega, by have := h.sd; omega, h.lm, h.lr, fun i kd row hk hm j m ts h1 h2 => by
  have t := h.tm i kd row hk hm j m ts h1 h2
  exact ⟨by have := t.few; omega, t.each, t.asc⟩, h.rd⟩
/-- the products of two vectors are small -/
structure PDot (r s : List Rat) : Prop where
  len : r.length = s.length
  few : s.length ≤ 32
  br : ∀ x ∈ r, Bd 18000 400 x
  bs : ∀ x ∈ s, Bd 18000 400 x
  bp : ∀ (i : Nat) x y, r[i]? = some x → s[i]? = some y → Bd 18000 400 (x * y)
  bd : ∀ i, Bd 18000 400 (dot (r.take i) (s.take i))
theorem sx_wz {q : Rat} (h : q = 0 ∨ Wt q) : Sx WB 1 q := h.elim (fun e => by rw [e]; exact sx_zero _ _) sx_wt
theorem dot_sx7 {r s : List Rat} {M D : Nat} (len : r.length = s.length) (h : ∀ (i : Nat) x y, r[i]? = some x → s[i]? = some y → Sx M D (x * y)) : ∀ n, Sx (n * M) D (dot (r.take n) (s.take n))
  | 0 => by rw [List.take_zero, dot_nil]; exact sx_zero _ _
  | n + 1 => by
    have ih := dot_sx7 len h n
    by_cases hn : n < r.length
    · rw [dot_take (List.getElem?_eq_getElem hn) (List.getElem?_eq_getElem (by omega : n < s.length)), Nat.succ_mul]
      exact ih.add (h n _ _ (List.getElem?_eq_getElem hn) (List.getElem?_eq_getElem (by omega : n < s.length)))
    · rw [List.take_of_length_le (by omega : r.length ≤ n), List.take_of_length_le (by omega : s.length ≤ n)] at ih
      rw [List.take_of_length_le (by omega : r.length ≤ n + 1), List.take_of_length_le (by omega : s.length ≤ n + 1)]
      exact ih.mono (Nat.mul_le_mul (by omega) (Nat.le_refl _)) (Nat.le_refl _)
theorem pdot_of {r s : List Rat} {B c : Nat} (len : r.length = s.length) (l32 : s.length ≤ 32) (hr : ∀ q ∈ r, q = 0 ∨ Wt q) (hs : ∀ q ∈ s, Sx B c q) (b1 : 1 ≤ B) (big : 32 * (WB * B) * 6 ^ (1 + c) < 2 ^ 18000) (b6 : 6 ^ (1 + c) < 2 ^ 400) : PDot r s := by
  have up : ∀ {C d : Nat} {q : Rat}, Sx C d q → C ≤ 32 * (WB * B) → d ≤ 1 + c → Bd 18000 400 q := fun h hC hd => (h.mono hC hd).bd big b6
  have hp : ∀ (i : Nat) x y, r[i]? = some x → s[i]? = some y → Sx (WB * B) (1 + c) (x * y) := fun i x y h1 h2 => (sx_wz (hr x (List.mem_of_getElem? h1))).mul (hs y (List.mem_of_getElem? h2))
  have wb : 1 ≤ WB := by decide
  refine ⟨len, l32, fun x hx => up (sx_wz (hr x hx)) ?_ (by omega), fun x hx => up (hs x hx) ?_ (by omega), fun i x y h1 h2 => up (hp i x y h1 h2) ?_ (Nat.le_refl _), fun i => ?_⟩
  · calc WB = WB * 1 := (Nat.mul_one _).symm
      _ ≤ WB * B := Nat.mul_le_mul (Nat.le_refl _) b1
      _ ≤ 32 * (WB * B) := Nat.le_mul_of_pos_left _ (by decide)
  · calc B = 1 * B := (Nat.one_mul _).symm
      _ ≤ WB * B := Nat.mul_le_mul wb (Nat.le_refl _)
      _ ≤ 32 * (WB * B) := Nat.le_mul_of_pos_left _ (by decide)
  · exact Nat.le_mul_of_pos_left _ (by decide)
  · by_cases hi : i ≤ 32
    · exact up (dot_sx7 len hp i) (Nat.mul_le_mul hi (Nat.le_refl _)) (Nat.le_refl _)
    · have := dot_sx7 len hp 32
      rw [List.take_of_length_le (by omega : r.length ≤ 32), List.take_of_length_le l32] at this
      rw [List.take_of_length_le (by omega : r.length ≤ i), List.take_of_length_le (by omega : s.length ≤ i)]
      exact up this (Nat.le_refl _) (Nat.le_refl _)
section
variable {P : Program} {w : World} {K : PySem.W.Frag} {mg : Str → Option Value} {base : Heap}
abbrev s_product_of : Stmt := topS 28
theorem sc_product_of : FnScope ["one", "other", "total", "left", "right"] ["one", "other"] (defScope s_product_of) := ⟨rfl, rfl, rfl, by decide +kernel, rfl, by decide +kernel, by decide +kernel⟩
def sp_pdot (K : PySem.W.Frag) : Sp := fun vs H Q _ => ∃ (v u : V) (r s : List Rat), vs = [v, u] ∧ Im K H v (vD r) ∧ Im K H u (vD s) ∧ PDot r s ∧ ∀ p H', Same H H' → Im K H' (.ref p) (rD (dot r s)) → Q (.ref p) H'
theorem ok_product_of {f : Addr} {fd : FuncData} {k : Nat} (F : Fun K "product_of" "product_of" s_product_of f fd) (T : Tx K mg){k1 : Nat} (D_plus : Def P w K mg base k1 "plus" s_plus ["one", "other"] (sp_plus K)) {k2 : Nat} (D_times : Def P w K mg base k2 "times" s_times ["one", "other"] (sp_times K)) (e1 : k1 ≤ k) (e2 : k2 ≤ k) : FnOk P w K mg base CX0 (k + 1) f fd ["one", "other"] (sp_pdot K) := by
  have nd := sc_product_of.nd
  obtain ⟨az, g_ZERO0, iz⟩ := T.zero
  have g_ZERO : ∃ u, mg "ZERO" = some u ∧ L2.RelV (.ref az) u := ⟨_, g_ZERO0, rfl⟩
  refine F.ok sc_product_of (fun vs H Q E h => ?_) (fun cdv A outer s H vs Q E hr h => ?_)
  · obtain ⟨_, _, _, _, rfl, _⟩ := h
    rfl
  · obtain ⟨v, u, r, s, rfl, iv, iu, job, q⟩ := h
    obtain ⟨a, xs, rfl, ha, hx⟩ := vec_inv iv
    obtain ⟨b, ys, rfl, hb, hy⟩ := vec_inv iu
    have lx := all_len hx
    have ly := all_len hy
    have lrs := job.len
    refine ⟨_, (pss_cons (ps_set (i := 2) nd rfl (.inl rfl) (pe_gv rfl g_ZERO))
      (pss_cons (ps_for PassesOwn.never rfl (kpi_zip K (by rfl) T.m_zip (pa_cons (pv 0) (pa_cons (pv 1) pa_nil))) (kpg_tup K (n := 2) rfl (pgs_cons (pg_name (i := 3) nd rfl (.inl rfl)) (pgs_cons (pg_name (i := 4) nd rfl (.inl rfl)) pgs_nil)))
        (pss_one (ps_if (PW.pt (pw_and (pt_cmpR op_ne (pe_ix (kix_tup K) (pv 3) pe_int (fun _ _ => rfl)) pe_int (nomark _)) (pw_and1 (pt_cmpR op_ne (pe_ix (kix_tup K) (pv 4) pe_int (fun _ _ => rfl)) pe_int (nomark _)))))
          (pss_one (ps_set (i := 2) nd rfl (.inl rfl) (pe_def D_plus (hr.mono (by omega)) rfl (pa_cons (pv 2) (pa_cons (pe_def D_times (hr.mono (by omega)) rfl (pa_cons (pv 3) (pa_cons (pv 4) pa_nil))) pa_nil)))))
          pss_nil)))
      (pss_one (ps_ret (pv 2))))), ?_⟩
    refine ⟨.ref a, rfl, .ref b, rfl, a, b, _, _, rfl, .inr ⟨ha.sq, hb.sq, ?_⟩⟩
    refine for_it (walk_zipT (xs := xs) (ys := ys) (by omega)) (fun i σ Ha => ∃ (tv : V) (y3 y4 : Option V), σ = [some (.ref a), some (.ref b), some tv, y3, y4] ∧ Same H Ha ∧ Im K Ha tv (rD (dot (r.take i) (s.take i)))) ⟨_, _, _, rfl, Same.refl _, by rw [List.take_zero, dot_nil]; exact .tup (iz H) (.cons (.int 0) (.cons (.int 1) .nil))⟩ (fun i σ Ha _ z => ?_) ?_ ?_
    · obtain ⟨_, _, _, _, sm, _⟩ := z
      exact ⟨(ha.mono (tk_same sm)).sq, (hb.mono (tk_same sm)).sq⟩
    · rintro i x σ Ha Hb hi ⟨tv, y3, y4, rfl, sm, it⟩ ⟨T2, x1, x2, rfl, hT, rfl, f1, f2⟩
      obtain ⟨q1, h1, ix⟩ := all_get (ImAll.mono (tk_same sm) _ hx) f1
      obtain ⟨q2, h2, iy⟩ := all_get (ImAll.mono (tk_same sm) _ hy) f2
      have b1 := job.br _ (List.mem_of_getElem? h1)
      have b2 := job.bs _ (List.mem_of_getElem? h2)
      have b3 := job.bp i _ _ h1 h2
      have b4 := job.bd i
      have dt := dot_take h1 h2
      obtain ⟨p1, rfl, hp1⟩ := rat_inv ix
      obtain ⟨p2, rfl, hp2⟩ := rat_inv iy
      have sT := same_new (o := .tup [.ref p1, .ref p2]) hT
      have tT := tk_same sT
      refine ⟨T2, _, rfl, .of upd_same, rfl, .ref p1, _, rfl, .ref p2, _, rfl, rfl, ?_⟩
      generalize upd Ha T2 (.tup [.ref p1, .ref p2]) = H2 at *
      refine ⟨.ref p1, rfl, p1, _, 0, _, rfl, rfl, (hp1.mono tT).sq, atI_nat (j := 0) rfl, rfl, _, rfl, ?_⟩
      by_cases h1' : q1.num = 0
      · rw [decide_eq_true (show V.int q1.num = V.int 0 by rw [h1'])]
        refine iteF (iteF ⟨_, _, _, rfl, sm.trans sT, ?_⟩)
        rw [dt, num_zero h1', Rat.zero_mul, Rat.add_zero]
        exact Im.mono tT _ it
      · rw [decide_eq_false (show ¬ V.int q1.num = V.int 0 from fun z => h1' (V.int.inj z))]
        refine iteT ⟨.ref p2, rfl, p2, _, 0, _, rfl, rfl, (hp2.mono tT).sq, atI_nat (j := 0) rfl, rfl, _, rfl, ?_⟩
        by_cases h2' : q2.num = 0
        · rw [decide_eq_true (show V.int q2.num = V.int 0 by rw [h2'])]
          refine iteF ⟨_, _, _, rfl, sm.trans sT, ?_⟩
          rw [dt, num_zero h2', Rat.mul_zero, Rat.add_zero]
          exact Im.mono tT _ it
        · rw [decide_eq_false (show ¬ V.int q2.num = V.int 0 from fun z => h2' (V.int.inj z))]
          refine iteT ⟨tv, rfl, .ref p1, rfl, .ref p2, rfl, .ref p1, .ref p2, q1, q2, rfl, Im.mono tT _ ix, Im.mono tT _ iy, b1.mono (by decide) (by decide), b2.mono (by decide) (by decide), fun p H5 s5 _ i5 => ?_⟩
          refine ⟨tv, .ref p, _, _, rfl, Im.mono (tT.trans (tk_same s5)) _ it, i5, b4.mono (by decide) (by decide), b3.mono (by decide) (by decide), fun p' H6 s6 _ i6 => ⟨_, _, _, rfl, ((sm.trans sT).trans s5).trans s6, ?_⟩⟩
          rw [dt]
          exact i6
    · rintro σ Ha ⟨tv, y3, y4, rfl, sm, it⟩
      rw [List.take_of_length_le (by omega), List.take_of_length_le (by omega)] at it
      obtain ⟨p, rfl, _⟩ := rat_inv it
      exact ⟨.ref p, rfl, q p _ sm it⟩
abbrev s__law_dot : Stmt := topS 69
theorem sc__law_dot : FnScope ["one", "other", "total", "k"] ["one", "other"] (defScope s__law_dot) := ⟨rfl, rfl, rfl, by decide +kernel, rfl, by decide +kernel, by decide +kernel⟩
theorem ok__law_dot {f : Addr} {fd : FuncData} {k : Nat} (F : Fun K "_law_dot" "_law_dot" s__law_dot f fd) (T : Tx K mg){k1 : Nat} (D__law_plus : Def P w K mg base k1 "_law_plus" s__law_plus ["one", "other"] (sp_lplus K)) {k2 : Nat} (D__law_times : Def P w K mg base k2 "_law_times" s__law_times ["one", "other"] (sp_ltimes K)) (e1 : k1 ≤ k) (e2 : k2 ≤ k) : FnOk P w K mg base CX0 (k + 1) f fd ["one", "other"] (sp_pdot K) := by
  have nd := sc__law_dot.nd
  refine F.ok sc__law_dot (fun vs H Q E h => ?_) (fun cdv A outer s H vs Q E hr h => ?_)
  · obtain ⟨_, _, _, _, rfl, _⟩ := h
    rfl
  · obtain ⟨v, u, r, s, rfl, iv, iu, job, q⟩ := h
    obtain ⟨a, xs, rfl, ha, hx⟩ := vec_inv iv
    obtain ⟨b, ys, rfl, hb, hy⟩ := vec_inv iu
    have lx : xs.length = r.length := all_len hx
    have ly : ys.length = s.length := all_len hy
    have lrs := job.len
    have few := job.few
    refine ⟨_, (pss_cons (ps_set (i := 2) nd rfl (.inl rfl) (pe_tup (pa_cons pe_int (pa_cons pe_int pa_nil))))
      (pss_cons (ps_for PassesOwn.never rfl (pi_range1 rfl T.m_range (pa_cons (pe_callB (kcall_len K) (by rfl) T.m_len PySem.boot_len (pa_cons (pv 0) pa_nil)) pa_nil)) (pg_name (i := 3) nd rfl (.inl rfl))
        (pss_one (ps_set (i := 2) nd rfl (.inl rfl) (pe_def D__law_plus (hr.mono (by omega)) rfl (pa_cons (pv 2) (pa_cons (pe_def D__law_times (hr.mono (by omega)) rfl (pa_cons (pe_ix (kix_tup K) (pv 0) (pv 3) (fun _ _ => rfl)) (pa_cons (pe_ix (kix_tup K) (pv 1) (pv 3) (fun _ _ => rfl)) pa_nil))) pa_nil))))))
      (pss_one (ps_ret (pv 2))))), ?_⟩
    refine ⟨by show 2 ≤ sizeLine; decide, fun Z hZ => ?_⟩
    have sZ := same_new (o := .tup [V.int 0, .int 1]) hZ
    have iZ : Im K (upd H Z (.tup [V.int 0, .int 1])) (.ref Z) (rD 0) := .tup (.inl upd_same) (.cons (.int _) (.cons (.int _) .nil))
    generalize upd H Z (.tup [V.int 0, .int 1]) = H1 at *
    have tZ := tk_same sZ
    refine ⟨.ref a, rfl, a, xs, rfl, .inr (ha.mono tZ).sq, (xs.length : Nat), rfl, by omega, by omega, ?_⟩
    refine for_it (walk_range (lo := 0) (n := ((xs.length : Nat) : Int).toNat)) (fun i σ Ha => ∃ (tv : V) (y3 : Option V), σ = [some (.ref a), some (.ref b), some tv, y3] ∧ Same H Ha ∧ Im K Ha tv (rD (dot (r.take i) (s.take i)))) ⟨_, _, rfl, sZ, by rw [List.take_zero, dot_nil]; exact iZ⟩ (fun _ _ _ _ _ => trivial) ?_ ?_
    · rintro i x σ Ha Hb hi ⟨tv, y3, rfl, sm, it⟩ ⟨rfl, rfl⟩
      rw [Int.toNat_natCast] at hi
      show gName 3 (V.int ((0 : Int) + (i : Nat))) _ _ _
      rw [show (0 : Int) + (i : Nat) = (i : Nat) by omega]
      have h1 := List.getElem?_eq_getElem (show i < r.length by omega)
      have h2 := List.getElem?_eq_getElem (show i < s.length by omega)
      generalize r[i]'(by omega) = q1 at h1
      generalize s[i]'(by omega) = q2 at h2
      obtain ⟨x1, ex1, ix⟩ := all_at (ImAll.mono (tk_same sm) _ hx) h1
      obtain ⟨x2, ex2, iy⟩ := all_at (ImAll.mono (tk_same sm) _ hy) h2
      have b1 := job.br _ (List.mem_of_getElem? h1)
      have b2 := job.bs _ (List.mem_of_getElem? h2)
      have b3 := job.bp i _ _ h1 h2
      have b4 := job.bd i
      have dt := dot_take h1 h2
      refine ⟨tv, rfl, .ref a, rfl, .int (i : Nat), rfl, a, xs, _, x1, rfl, rfl, (ha.mono (tk_same sm)).sq, atI_nat ex1, .ref b, rfl, .int (i : Nat), rfl, b, ys, _, x2, rfl, rfl, (hb.mono (tk_same sm)).sq, atI_nat ex2, ?_⟩
      refine ⟨x1, x2, q1, q2, rfl, ix, iy, b1.mono (by decide) (by decide), b2.mono (by decide) (by decide), fun p H5 s5 i5 => ?_⟩
      refine ⟨tv, .ref p, _, _, rfl, Im.mono (tk_same s5) _ it, i5, b4.mono (by decide) (by decide), b3.mono (by decide) (by decide), fun p' H6 s6 i6 => ⟨_, _, rfl, (sm.trans s5).trans s6, ?_⟩⟩
      rw [dt]
      exact i6
    · rintro σ Ha ⟨tv, y3, rfl, sm, it⟩
      rw [Int.toNat_natCast, List.take_of_length_le (by omega), List.take_of_length_le (by omega)] at it
      obtain ⟨p, rfl, _⟩ := rat_inv it
      exact ⟨.ref p, rfl, q p _ sm it⟩
end
end K63

set_option Elab.async false
set_option linter.all false
set_option maxRecDepth 100000
set_option exponentiation.threshold 20000
set_option pp.deepTerms false
set_option pp.deepTerms.threshold 8
namespace K63
open PySem PySem.Spec PyProof.Rows L2 Ly Mt
/-! ### number -/
/-- a name that no read has -/
def OddV (K : PySem.W.Frag) (H : Hp) (ns : List Str) (v : V) : Prop := ∃ o, Odd K H v o ∧ ∀ z, o = some z → z ∉ ns
theorem OddV.same {K : PySem.W.Frag} {H H' : Hp} {ns : List Str} {v : V} (h : OddV K H ns v) (s : Same H H') : OddV K H' ns v := by
  obtain ⟨o, h1, h2⟩ := h
  exact ⟨o, h1.same s, h2⟩
theorem all_last {K : PySem.W.Frag} {H : Hp} : ∀ {l : List PyData} {d : PyData} {xs : List V}, ImAll K H xs (l ++ [d]) → ∃ ys y, xs = ys ++ [y] ∧ ImAll K H ys l ∧ Im K H y d
  | [], d, xs, h => by
    obtain ⟨v, r, rfl, i, hr⟩ := ImAll.cons_inv (ds := []) h
    obtain rfl := hr.nil_inv
    exact ⟨[], v, rfl, .nil, i⟩
  | e :: l, d, xs, h => by
    obtain ⟨v, r, rfl, i, hr⟩ := ImAll.cons_inv (ds := l ++ [d]) h
    obtain ⟨ys, y, rfl, a, b⟩ := all_last hr
    exact ⟨v :: ys, y, rfl, .cons i a, b⟩
section
variable {P : Program} {w : World} {K : PySem.W.Frag} {mg : Str → Option Value} {base : Heap}
abbrev s_read_named : Stmt := topS 53
theorem sc_read_named : FnScope ["form", "name", "read"] ["form", "name"] (defScope s_read_named) := ⟨rfl, rfl, rfl, by decide +kernel, rfl, by decide +kernel, by decide +kernel⟩
def sp_read_named (K : PySem.W.Frag) (er : Er) : Sp := fun vs H Q E => ∃ (v nv : V) (F : Form), vs = [v, nv] ∧ Im K H v (fmD F) ∧
  ((OddV K H (F.rds.map (·.1)) nv ∧ E (.ref er.n) none H) ∨ ∃ (i : Nat) (r : Rd), F.rds[i]? = some r ∧ nv = .str r.1 ∧ (F.rds.map (·.1)).Nodup ∧ ∀ p, Im K H (.ref p) (rdD r) → Q (.ref p) H)
theorem ok_read_named {f : Addr} {fd : FuncData} {k : Nat} (F : Fun K "read_named" "read_named" s_read_named f fd) (T : Tx K mg){er : Er} (TE : Tr K mg er) : FnOk P w K mg base (L2.CX P w) (k + 1) f fd ["form", "name"] (sp_read_named K er) := by
  have nd := sc_read_named.nd
  refine F.okX sc_read_named (fun vs H Q E h => ?_) (fun cdv A outer s H vs Q E hr h => ?_)
  · obtain ⟨_, _, _, rfl, _⟩ := h
    rfl
  · obtain ⟨v, nv, F', rfl, iv, h⟩ := h
    obtain ⟨a, x1, x2, x3, x4, rfl, ha, i1, i2, i3, i4⟩ := im_quad iv
    obtain ⟨b, xs, rfl, hb, hx⟩ := i4.tuple_inv
    have lx : xs.length = F'.rds.length := all_len hx
    obtain ⟨o, hO, found, none⟩ : ∃ o, Odd K H nv o ∧ (∀ (t : Nat) r p, F'.rds[t]? = some r → o = some r.1 → Im K H (.ref p) (rdD r) → Q (.ref p) H) ∧ ((∀ (t : Nat) r, F'.rds[t]? = some r → o ≠ some r.1) → E (.ref er.n) none H) := by
      rcases h with ⟨⟨o, h1, h2⟩, e⟩ | ⟨i, r, hi, rfl, ndn, q⟩
      · exact ⟨o, h1, fun t r p hr' ho _ => absurd (List.mem_map.mpr ⟨r, List.mem_of_getElem? hr', rfl⟩) (h2 _ ho), fun _ => e⟩
      · refine ⟨some r.1, .str _, fun t r' p hr' ho ip => ?_, fun h => absurd rfl (h i r hi)⟩
        have h1 : (F'.rds.map (·.1))[t]? = some r'.1 := by rw [List.getElem?_map, hr']; rfl
        have h2 : (F'.rds.map (·.1))[i]? = some r.1 := by rw [List.getElem?_map, hi]; rfl
        rw [← Option.some.inj ho] at h1
        have et := (List.getElem?_inj (List.getElem?_eq_some_iff.mp h1).1 ndn).mp (h1.trans h2.symm)
        subst et
        rw [hi] at hr'
        obtain rfl := Option.some.inj hr'
        exact q p ip
    refine ⟨_, (pss_cons (ps_for (passes_of rfl) rfl (kpi_tup K (pe_ix (kix_tup K) (pv 0) pe_int (fun _ _ => rfl))) (pg_name (i := 2) nd rfl (.inl rfl))
        (pss_one (ps_if (pt_cmpR (kop_eqO K (hu_of hr)) (pe_ix (kix_tup K) (pv 2) pe_int (fun _ _ => rfl)) (pv 1) (nomark _))
          (pss_one (ps_ret (pv 2)))
          pss_nil)))
      (pss_one (ps_raise rfl (takes_of rfl rfl rfl rfl) (pmk_own PySem.F.excBase_ValueError TE.x_BadName TE.g_BadName TE.k_BadName (raises_own TE.b_BadName TE.t_BadName) rfl)))), ?_⟩
    refine ⟨.ref a, rfl, a, _, 3, _, rfl, rfl, ha.sq, atI_nat (j := 3) rfl, b, rfl, ⟨_, hb.sq⟩, ?_⟩
    refine for_it (walk_tup (xs := xs)) (fun t σ Ha => ∃ (y2 : Option V), σ = [some (.ref a), some nv, y2] ∧ Ha = H ∧ ∀ (i : Nat) r, i < t → F'.rds[i]? = some r → o ≠ some r.1) ⟨_, rfl, rfl, fun i r h => by omega⟩ (fun t σ Ha _ z => ?_) ?_ ?_
    · obtain ⟨_, _, rfl, _⟩ := z
      exact hb.sq
    · rintro t x σ Ha Hb ht ⟨y2, rfl, rfl, no⟩ ⟨rfl, hxt⟩
      obtain ⟨r, hr', ir⟩ := all_get hx hxt
      obtain ⟨p, z1, z2, z3, rfl, hp, iz1, iz2, iz3⟩ := im_trip ir
      obtain rfl := iz1.str_inv
      refine ⟨.ref p, rfl, p, _, 0, _, rfl, rfl, hp.sq, atI_nat (j := 0) rfl, nv, rfl, r.1, o, rfl, hO, _, rfl, ?_⟩
      by_cases e : o = some r.1
      · rw [decide_eq_true e]
        exact iteT ⟨.ref p, rfl, found t r p hr' e ir⟩
      · rw [decide_eq_false e]
        refine iteF ⟨_, rfl, rfl, fun i r' hi hr2 => ?_⟩
        by_cases hit : i = t
        · subst hit
          rw [hr'] at hr2
          rw [← Option.some.inj hr2]
          exact e
        · exact no i r' (by omega) hr2
    · rintro σ Ha ⟨y2, rfl, rfl, no⟩
      refine none fun t r hr' => no t r ?_ hr'
      have := (List.getElem?_eq_some_iff.mp hr').1
      omega
abbrev s_number : Stmt := topS 54
theorem sc_number : FnScope ["form", "name", "rows", "_", "kind", "vector"] ["form", "name", "rows"] (defScope s_number) := ⟨rfl, rfl, rfl, by decide +kernel, rfl, by decide +kernel, by decide +kernel⟩
/-- what number is asked of rows of trees: the read, the last row's kind and vector -/
structure NumJob (F : Form) (rows : List Rw) (r : Rd) (kn : Str) (vec : List Rat) : Prop where
  rd : r ∈ F.rds
  ro : RowsOk F.ks rows
  job : VecsJob F rows
  last : ∃ (a : List Rw) (rw : Rw) (i j : Nat) (kd : Kd) (m : Mk), rows = a ++ [rw] ∧ At F.ks rw i j kd m ∧ kd.1 = kn
  lastv : ∃ a, vecsOf F rows = a ++ [vec]
  dot : kn = r.2.1 → PDot r.2.2 vec
def sp_number (K : PySem.W.Frag) (er : Er) : Sp := fun vs H Q E => ∃ (v nv u : V) (F : Form), vs = [v, nv, u] ∧ Im K H v (fmD F) ∧ FormOk 1 F ∧
  ((OddV K H (F.rds.map (·.1)) nv ∧ ∀ H', Same H H' → E (.ref er.n) none H') ∨ ∃ (rows : List Rw) (r : Rd) (kn : Str) (vec : List Rat), nv = .str r.1 ∧ Im K H u (rwsD rows) ∧ NumJob F rows r kn vec ∧
    (kn ≠ r.2.1 → ∀ H', Same H H' → E (.ref er.r) none H') ∧ (kn = r.2.1 → ∀ p H', Same H H' → Im K H' (.ref p) (rD (dot r.2.2 vec)) → Q (.ref p) H'))
set_option maxHeartbeats 2000000 in
theorem ok_number {f : Addr} {fd : FuncData} {k : Nat} (F : Fun K "number" "number" s_number f fd) (T : Tx K mg){er : Er} (TE : Tr K mg er) {k1 : Nat} (D_need_form : DefX P w K mg base k1 "need_form" s_need_form ["form"] (sp_need_form K 1)) {k2 : Nat} (D_read_named : DefX P w K mg base k2 "read_named" s_read_named ["form", "name"] (sp_read_named K er)) {k3 : Nat} (D_need_rows : DefX P w K mg base k3 "need_rows" s_need_rows ["kinds", "rows"] (sp_need_rows K)) {k4 : Nat} (D_maker_table : Def P w K mg base k4 "maker_table" s_maker_table ["kinds"] (sp_maker_table K)) {k5 : Nat} (D_product_of : Def P w K mg base k5 "product_of" s_product_of ["one", "other"] (sp_pdot K)) {k6 : Nat} (D_vecs_of : Def P w K mg base k6 "vecs_of" s_vecs_of ["form", "rows"] (sp_vecs K)) (e1 : k1 ≤ k) (e2 : k2 ≤ k) (e3 : k3 ≤ k) (e4 : k4 ≤ k) (e5 : k5 ≤ k) (e6 : k6 ≤ k) : FnOk P w K mg base (L2.CX P w) (k + 1) f fd ["form", "name", "rows"] (sp_number K er) := by
  have nd := sc_number.nd
  refine F.okX sc_number (fun vs H Q E h => ?_) (fun cdv A outer s H vs Q E hr h => ?_)
  · obtain ⟨_, _, _, _, rfl, _⟩ := h
    rfl
  · obtain ⟨v, nv, u, F', rfl, iv, ok, h⟩ := h
    obtain ⟨a, x1, x2, x3, x4, rfl, ha, i1, i2, i3, i4⟩ := im_quad iv
    obtain ⟨ka, kx, rfl, hka, hkx⟩ := i1.tuple_inv
    refine ⟨_, (pss_cons (ps_expr (pe_defX D_need_form (takes_of rfl rfl rfl rfl) (hr.mono (by omega)) rfl (pa_cons (pv 0) pa_nil)))
      (pss_cons (ps_asg (pe_defX D_read_named (takes_of rfl rfl rfl rfl) (hr.mono (by omega)) rfl (pa_cons (pv 0) (pa_cons (pv 1) pa_nil))) (kpg_tup K (n := 3) rfl (pgs_cons (pg_name (i := 3) nd rfl (.inl rfl)) (pgs_cons (pg_name (i := 4) nd rfl (.inl rfl)) (pgs_cons (pg_name (i := 5) nd rfl (.inl rfl)) pgs_nil)))))
      (pss_cons (ps_expr (pe_defX D_need_rows (takes_of rfl rfl rfl rfl) (hr.mono (by omega)) rfl (pa_cons (pe_ix (kix_tup K) (pv 0) pe_int (fun _ _ => rfl)) (pa_cons (pv 2) pa_nil))))
      (pss_cons (ps_if (pt_cmpR op_ne (pe_ix (kix_tup K) (pe_ix (kix_tup K) (pe_ix (kix_tup K) (pv 0) pe_int (fun _ _ => rfl)) (pe_ix (kix_tup K) (pe_dget (hu_of hr) (pe_def D_maker_table (hr.mono (by omega)) rfl (pa_cons (pe_ix (kix_tup K) (pv 0) pe_int (fun _ _ => rfl)) pa_nil)) (pe_ix (kix_tup K) (pe_ix (kix_tup K) (pv 2) (pe_un un_neg pe_int) (fun _ _ => rfl)) pe_int (fun _ _ => rfl)) (fun _ _ => rfl)) pe_int (fun _ _ => rfl)) (fun _ _ => rfl)) pe_int (fun _ _ => rfl)) (pv 4) (nomark _))
        (pss_one (ps_raise rfl (takes_of rfl rfl rfl rfl) (pmk_own PySem.F.excBase_ValueError TE.x_BadRows TE.g_BadRows TE.k_BadRows (raises_own TE.b_BadRows TE.t_BadRows) rfl)))
        pss_nil)
      (pss_one (ps_ret (pe_def D_product_of (hr.mono (by omega)) rfl (pa_cons (pv 5) (pa_cons (pe_ix (kix_tup K) (pe_def D_vecs_of (hr.mono (by omega)) rfl (pa_cons (pv 0) (pa_cons (pv 2) pa_nil))) (pe_un un_neg pe_int) (fun _ _ => rfl)) pa_nil))))))))), ?_⟩
    refine ⟨.ref a, rfl, .ref a, F', rfl, iv, ok, fun H1 s1 => ?_⟩
    have t1 := tk_same s1
    refine ⟨.ref a, rfl, nv, rfl, .ref a, nv, F', rfl, Im.mono t1 _ iv, ?_⟩
    rcases h with ⟨od, e⟩ | ⟨rows, r, kn, vec, rfl, iu, nj, qe, q⟩
    · exact .inl ⟨od.same s1, e H1 s1⟩
    obtain ⟨i0, hi0⟩ := List.getElem?_of_mem nj.rd
    refine .inr ⟨i0, r, hi0, rfl, ok.rd.nd, fun p ip => ?_⟩
    obtain ⟨p', z1, z2, z3, ep, hp, iz1, iz2, iz3⟩ := im_trip ip
    cases ep
    obtain rfl := iz1.str_inv
    obtain rfl := iz2.str_inv
    obtain ⟨b, rx, rfl, hb, hrx⟩ := iu.tuple_inv
    refine ⟨p, _, rfl, hp.sq, rfl, .str r.1, _, rfl, .str r.2.1, _, rfl, z3, _, rfl, rfl, ?_⟩
    refine ⟨.ref a, rfl, a, _, 0, _, rfl, rfl, (ha.mono t1).sq, atI_nat (j := 0) rfl, .ref b, rfl, .ref ka, .ref b, F'.ks, rows, rfl, Im.mono t1 _ (.tup hka hkx), ok.kinds, Im.mono t1 _ (.tup hb hrx), nj.ro, fun H2 s2 => ?_⟩
    have s12 := s1.trans s2
    have t2 := tk_same s12
    obtain ⟨ar, rw', i, j, kd, m, er', at', ekn⟩ := nj.last
    obtain ⟨av, ev⟩ := nj.lastv
    obtain ⟨xk, exk, ixk⟩ := all_at hkx at'.hk
    obtain ⟨pk, w1, w2, rfl, hpk, iw1, iw2⟩ := im_pair ixk
    obtain rfl := iw1.str_inv
    have h1 : ImAll K H rx (ar.map rwD ++ [rwD rw']) := by rw [er', List.map_append] at hrx; exact hrx
    obtain ⟨rx', xr, erx, irx, ixr⟩ := all_last h1
    clear h1
    subst erx
    obtain ⟨pr, y1, y2, rfl, hpr, iy1, iy2⟩ := im_pair ixr
    obtain rfl := iy1.str_inv
    refine ⟨.ref a, rfl, a, _, 0, _, rfl, rfl, (ha.mono t2).sq, atI_nat (j := 0) rfl, .ref a, rfl, a, _, 0, _, rfl, rfl, (ha.mono t2).sq, atI_nat (j := 0) rfl, .ref ka, F'.ks, rfl, Im.mono t2 _ (.tup hka hkx), ok.kinds, fun d H3 s3 hd tb => ?_⟩
    have t3 := tk_same (s12.trans s3)
    obtain ⟨vr, gr, ir⟩ := tb_get tb ok.kinds at'.hk at'.hm
    obtain ⟨qr, r1, r2, r3, rfl, hqr, ir1, ir2, ir3⟩ := im_trip ir
    obtain rfl := ir1.int_inv
    rw [← at'.nm] at gr
    refine ⟨.ref b, rfl, _, rfl, b, _, _, .ref pr, rfl, rfl, (hb.mono t3).sq, atI_last _ _, pr, _, 0, _, rfl, rfl, (hpr.mono t3).sq, atI_nat (j := 0) rfl, d, _, rfl, gr, qr, _, 0, _, rfl, rfl, hqr.sq, atI_nat (j := 0) rfl, ?_⟩
    refine ⟨ka, kx, _, .ref pk, rfl, rfl, (hka.mono t3).sq, atI_nat exk, pk, _, 0, _, rfl, rfl, (hpk.mono t3).sq, atI_nat (j := 0) rfl, .str r.2.1, rfl, rfl, _, rfl, ?_⟩
    rw [dec_str, ekn]
    by_cases e : kn = r.2.1
    · rw [decide_eq_true e]
      refine iteF ⟨z3, rfl, .ref a, rfl, .ref b, rfl, .ref a, .ref b, F', rows, 1, rfl, Im.mono t3 _ iv, Im.mono t3 _ (.tup hb hrx), ok, nj.ro, nj.job, fun pv H4 s4 i4 => ?_⟩
      rw [ev] at i4
      obtain ⟨pv', vx, epv, hpv, hvx⟩ := i4.tuple_inv
      cases epv
      rw [List.map_append] at hvx
      obtain ⟨vx', xv, rfl, _, ixv⟩ := all_last hvx
      refine ⟨_, rfl, pv, _, _, xv, rfl, rfl, hpv.sq, atI_last _ _, z3, xv, r.2.2, vec, rfl, Im.mono (tk_same ((s2.trans s3).trans s4)) _ iz3, ixv, nj.dot e, fun p5 H5 s5 i5 => q e p5 _ ((s12.trans s3).trans (s4.trans s5)) i5⟩
    · rw [decide_eq_false e]
      exact iteT (qe e _ (s12.trans s3))
end
end K63

set_option Elab.async false
set_option linter.all false
set_option maxRecDepth 100000
set_option exponentiation.threshold 20000
set_option pp.deepTerms false
set_option pp.deepTerms.threshold 8
namespace K63
open PySem PySem.Spec PyProof.Rows L2 Ly Mt
def New (H0 : Hp) (v : V) : Prop := ∀ a, v = .ref a → H0 a = none
theorem New.ref {H0 : Hp} {a : Addr} (h : H0 a = none) : New H0 (.ref a) := fun b e => by rw [← V.ref.inj e]; exact h
theorem New.plain {H0 : Hp} {v : V} (h : (match v with | .ref _ => false | _ => true) = true) : New H0 v := fun a e => by subst e; cases h
def wordD (z : Str) : PyData := .tuple [.str z]
section
variable {P : Program} {w : World} {K : PySem.W.Frag} {mg : Str → Option Value} {base : Heap}
abbrev s__law_told : Stmt := topS 70
theorem sc__law_told : FnScope ["form", "name", "rows", "told"] ["form", "name", "rows"] (defScope s__law_told) := ⟨rfl, rfl, rfl, by decide +kernel, rfl, by decide +kernel, by decide +kernel⟩
def sp_ltold (K : PySem.W.Frag) : Sp := fun vs H Q _ => ∃ (v nv u : V) (F : Form), vs = [v, nv, u] ∧ Im K H v (fmD F) ∧ FormOk 1 F ∧
  ((OddV K H (F.rds.map (·.1)) nv ∧ ∀ p H', Same H H' → Im K H' (.ref p) (wordD "name") → Q (.ref p) H') ∨ ∃ (rows : List Rw) (r : Rd) (kn : Str) (vec : List Rat), nv = .str r.1 ∧ Im K H u (rwsD rows) ∧ NumJob F rows r kn vec ∧
    (kn ≠ r.2.1 → ∀ p H', Same H H' → Im K H' (.ref p) (wordD "rows") → Q (.ref p) H') ∧ (kn = r.2.1 → ∀ p H', Same H H' → Im K H' (.ref p) (rD (dot r.2.2 vec)) → Q (.ref p) H'))
theorem ok__law_told {f : Addr} {fd : FuncData} {k : Nat} (F : Fun K "_law_told" "_law_told" s__law_told f fd) (T : Tx K mg){er : Er} (TE : Tr K mg er) {k1 : Nat} (D_number : DefX P w K mg base k1 "number" s_number ["form", "name", "rows"] (sp_number K er)) (e1 : k1 ≤ k) : FnOk P w K mg base CX0 (k + 1) f fd ["form", "name", "rows"] (sp_ltold K) := by
  have nd := sc__law_told.nd
  refine F.ok sc__law_told (fun vs H Q E h => ?_) (fun cdv A outer s H vs Q E hr h => ?_)
  · obtain ⟨_, _, _, _, rfl, _⟩ := h
    rfl
  · obtain ⟨v, nv, u, F', rfl, iv, ok, h⟩ := h
    refine ⟨_, (pss_cons (ps_set (i := 3) nd rfl (.inl rfl) (pe_tup (pa_cons pe_str pa_nil)))
      (pss_cons (ps_try_list rfl rfl takes0 (fun W pn xe tk _ => (pss_one (ps_set (i := 3) nd rfl (.inl rfl) (pe_defX D_number tk (hr.mono (by omega)) rfl (pa_cons (pv 0) (pa_cons (pv 1) (pa_cons (pv 2) pa_nil)))))))
        (.cons ⟨rfl, by decide, .inl TE.g_BadName⟩ (fun a oe cls d pn hz hf => (pss_one (ps_set (i := 3) nd rfl (.inl rfl) (pe_tup (pa_cons pe_str pa_nil)))))
        (.cons ⟨rfl, by decide, .inl TE.g_BadRows⟩ (fun a oe cls d pn hz hf => (pss_one (ps_set (i := 3) nd rfl (.inl rfl) (pe_tup (pa_cons pe_str pa_nil)))))
        (.cons ⟨rfl, by decide, .inl TE.g_TreeError⟩ (fun a oe cls d pn hz hf => (pss_one (ps_set (i := 3) nd rfl (.inl rfl) (pe_tup (pa_cons pe_str pa_nil)))))
        .nil))))
      (pss_one (ps_ret (pv 3))))), ?_⟩
    refine ⟨by show 1 ≤ sizeLine; decide, fun Z hZ => ?_⟩
    have sZ := same_new (o := .tup [V.str "another"]) hZ
    generalize upd H Z (.tup [V.str "another"]) = H1 at *
    have tZ := tk_same sZ
    refine ⟨v, rfl, nv, rfl, u, rfl, v, nv, u, F', rfl, Im.mono tZ _ iv, ok, ?_⟩
    rcases h with ⟨od, q⟩ | ⟨rows, r, kn, vec, rfl, iu, nj, q1, q2⟩
    · refine .inl ⟨od.same sZ, fun H2 s2 => ⟨true, TE.e_nn, fun _ a ha => ⟨by show 1 ≤ sizeLine; decide, fun p hp => ⟨.ref p, rfl, ?_⟩⟩, (fun z => nomatch z)⟩⟩
      exact q p _ ((sZ.trans s2).trans (same_new hp)) (.tup (.inl upd_same) (.cons (.str _) .nil))
    · refine .inr ⟨rows, r, kn, vec, rfl, Im.mono tZ _ iu, nj, fun ne H2 s2 => ⟨false, TE.e_rn, (fun z => nomatch z), fun _ => ⟨true, TE.e_rr, fun _ a ha => ⟨by show 1 ≤ sizeLine; decide, fun p hp => ⟨.ref p, rfl, ?_⟩⟩, (fun z => nomatch z)⟩⟩, fun e p H2 s2 i2 => ⟨.ref p, rfl, q2 e p _ (sZ.trans s2) i2⟩⟩
      exact q1 ne p _ ((sZ.trans s2).trans (same_new hp)) (.tup (.inl upd_same) (.cons (.str _) .nil))
abbrev s__law_odd_names : Stmt := topS 71
theorem sc__law_odd_names : FnScope ["store", "form", "titles", "some", "title", "read", "name"] ["store", "form"] (defScope s__law_odd_names) := ⟨rfl, rfl, rfl, by decide +kernel, rfl, by decide +kernel, by decide +kernel⟩
def sp_odd (K : PySem.W.Frag) : Sp := fun vs H Q _ => ∃ (u v : V) (F : Form), vs = [u, v] ∧ Im K H v (fmD F) ∧ FormOk 1 F ∧ ∀ p ws H', Same H H' → H p = none → H' p = some (.lst ws) → 1 ≤ ws.length → ws.length ≤ 400 → (∀ x ∈ ws, New H x ∧ OddV K H' (F.rds.map (·.1)) x) → Q (.ref p) H'
def OddW (K : PySem.W.Frag) (H0 H : Hp) (ws : List V) : Prop := ∀ x ∈ ws, New H0 x ∧ ∃ o, Odd K H x o
theorem OddW.same {K : PySem.W.Frag} {H H' : Hp} {H0 : Hp} {ws : List V} (h : OddW K H0 H ws) (s : Same H H') : OddW K H0 H' ws := fun x hx => by
  obtain ⟨n, o, h1⟩ := h x hx
  exact ⟨n, o, h1.same s⟩
theorem OddW.nil {K : PySem.W.Frag} {H0 H : Hp} : OddW K H0 H [] := fun x hx => by simp at hx
theorem OddW.cons {K : PySem.W.Frag} {H0 H : Hp} {x : V} {ws : List V} (h : New H0 x ∧ ∃ o, Odd K H x o) (r : OddW K H0 H ws) : OddW K H0 H (x :: ws) := fun y hy => (List.mem_cons.mp hy).elim (fun e => by rw [e]; exact h) (r y)
theorem OddW.app {K : PySem.W.Frag} {H0 H : Hp} {a b : List V} (h : OddW K H0 H a) (r : OddW K H0 H b) : OddW K H0 H (a ++ b) := fun y hy => (List.mem_append.mp hy).elim (h y) (r y)
set_option maxHeartbeats 2000000 in
theorem ok__law_odd_names {f : Addr} {fd : FuncData} {k : Nat} (F : Fun K "_law_odd_names" "_law_odd_names" s__law_odd_names f fd) (T : Tx K mg) : FnOk P w K mg base CX0 (k + 1) f fd ["store", "form"] (sp_odd K) := by
  have nd := sc__law_odd_names.nd
  refine F.ok sc__law_odd_names (fun vs H Q E h => ?_) (fun cdv A outer s H vs Q E hr h => ?_)
  · obtain ⟨_, _, _, rfl, _⟩ := h
    rfl
  · obtain ⟨u, v, F', rfl, iv, ok, q⟩ := h
    obtain ⟨a, x1, x2, x3, x4, rfl, ha, i1, i2, i3, i4⟩ := im_quad iv
    obtain ⟨ka, kx, rfl, hka, hkx⟩ := i1.tuple_inv
    obtain ⟨b, xs, rfl, hb, hx⟩ := i4.tuple_inv
    have lx : xs.length = F'.rds.length := all_len hx
    have few := ok.rd.few
    have kf := ok.kinds.few
    have nl : ∀ z ∈ F'.rds.map (·.1), z.length ≤ 10 := fun z hz => by
      obtain ⟨r, hr', rfl⟩ := List.mem_map.mp hz
      exact (ok.rd.low r hr').1.len.2
    refine ⟨_, (pss_cons (ps_set (i := 2) nd rfl (.inr rfl) (pe_lc (own := [("read", 5)]) (g := gName 5) (tt := tYes) rfl nd (kpi_tup K (pe_ix (kix_tup K) (pv 1) pe_int (fun _ _ => rfl))) (blkOk_by (by rfl)) (fun _ _ _ _ _ => (pg_name (i := 5) nd rfl (.inl rfl))) (fun _ _ _ _ _ => pts_nil) (fun _ _ _ _ _ => (pe_ix (kix_tup K) (pv 5) pe_int (fun _ _ => rfl)))))
      (pss_cons (ps_set (i := 3) nd rfl (.inl rfl) (pe_lst (pa_cons pe_non (pa_cons pe_str (pa_cons pe_str (pa_cons pe_str (pa_cons pe_int (pa_cons pe_bl (pa_cons (pe_tup (pa_cons pe_str pa_nil)) (pa_cons (pe_lst (pa_cons pe_str pa_nil)) (pa_cons (pe_ix (kix_tup K) (pe_ix (kix_tup K) (pe_ix (kix_tup K) (pv 1) pe_int (fun _ _ => rfl)) pe_int (fun _ _ => rfl)) pe_int (fun _ _ => rfl)) (pa_cons pe_str (pa_cons pe_str (pa_cons pe_dnewK (pa_cons (pe_un un_neg pe_int) (pa_cons pe_str pa_nil))))))))))))))))
      (pss_cons (ps_for PassesOwn.never rfl (kpi_list K (pv 2)) (pg_name (i := 4) nd rfl (.inl rfl))
        (pss_one (ps_set (i := 3) nd rfl (.inl rfl) (pe_op op_cat (pv 3) (pe_lst (pa_cons (pe_op op_add_str (pv 4) pe_str) (pa_cons (pe_slice sl_str (pv 4) (po_some pe_int) po_none) (pa_cons (pe_bm0 PySem.F.plainAttrs_str PySem.F.slot_str_upper PySem.F.type_str_upper mt_upper (pv 4)) (pa_cons (pe_tup (pa_cons (pv 4) pa_nil)) (pa_cons (pe_lst (pa_cons (pv 4) pa_nil)) (pa_cons (pe_op op_add_str (pv 4) pe_str) pa_nil)))))))))))
      (pss_one (ps_ret (pe_lc (own := [("name", 6)]) (g := gName 6) rfl nd (kpi_list K (pv 3)) (blkOk_by (by rfl)) (fun _ _ _ _ _ => (pg_name (i := 6) nd rfl (.inl rfl))) (fun _ _ _ _ _ => (pts_one (pt_cmpR (kop_notInO K (hu_of hr)) (pv 6) (pv 2) (by rfl)))) (fun _ _ _ _ _ => (pv 6)))))))), ?_⟩
    refine ⟨.ref a, rfl, a, _, 3, _, rfl, rfl, ha.sq, atI_nat (j := 3) rfl, b, rfl, ⟨_, hb.sq⟩, fun D hD => ?_⟩
    refine lc_all (walk_tup (xs := xs)) (fun t Hx => Same H Hx ∧ Hx D = some (.lst (((F'.rds.take t).map (·.1)).map V.str))) ⟨same_new hD, upd_same⟩ (fun t Hx _ z => (hb.mono (tk_same z.1)).sq) (fun t x Hx Hy ht z y => ?_) (fun Hx z => ?_)
    · obtain ⟨sm, eD⟩ := z
      obtain ⟨rfl, hxt⟩ := y
      obtain ⟨r, hr', ir⟩ := all_get (ImAll.mono (tk_same sm) _ hx) hxt
      obtain ⟨p, z1, z2, z3, rfl, hp, iz1, iz2, iz3⟩ := im_trip ir
      obtain rfl := iz1.str_inv
      refine ⟨rfl, .ref p, rfl, p, _, 0, _, rfl, rfl, hp.sq, atI_nat (j := 0) rfl, _, eD, small1000 (by rw [List.length_map, List.length_map, List.length_take]; omega), fun b o e => ?_, ?_⟩
      · rw [upd_ne (ne_of_none e hD)]; exact sm _ _ e
      · rw [upd_same, List.take_add_one, hr', List.map_append, List.map_append]; rfl
    · obtain ⟨sm, eD⟩ := z
      rw [lx, List.take_of_length_le (Nat.le_refl _)] at eD
      generalize hnm : F'.rds.map (·.1) = names at *
      have ln : names.length ≤ 60 := by rw [← hnm, List.length_map]; omega
      -- the first objects
      have hk0 := List.getElem?_eq_getElem (show 0 < F'.ks.length by omega)
      generalize F'.ks[0]'(by omega) = kd at hk0
      obtain ⟨xk, exk, ixk⟩ := all_at (ImAll.mono (tk_same sm) _ hkx) hk0
      obtain ⟨pk, w1, w2, rfl, hpk, iw1, iw2⟩ := im_pair ixk
      obtain rfl := iw1.str_inv
      refine ⟨by show 1 ≤ sizeLine; decide, fun T1 hT1 => ⟨by show 1 ≤ sizeLine; decide, fun L1 hL1 => ?_⟩⟩
      have nT1 : New H (.ref T1) := .ref (sm.free hT1)
      have nL1 : New H (.ref L1) := .ref ((sm.trans (same_new hT1)).free hL1)
      have sT := same_new (o := .tup [V.str "f"]) hT1
      have sL := same_new (o := .lst [V.str "f"]) hL1
      have oT := Odd.tup (K := K) (a := T1) (SqT.of (H := upd Hx T1 (.tup [V.str "f"])) upd_same)
      have oL := Odd.lst (K := K) (a := L1) (SqL.of (H := upd (upd Hx T1 (.tup [V.str "f"])) L1 (.lst [V.str "f"])) upd_same)
      have oT2 := oT.same sL
      have sTL := sT.trans sL
      generalize upd (upd Hx T1 (.tup [V.str "f"])) L1 (.lst [V.str "f"]) = H2 at *
      refine ⟨.ref a, rfl, a, _, 0, _, rfl, rfl, (ha.mono (tk_same (sm.trans sTL))).sq, atI_nat (j := 0) rfl, ka, kx, 0, .ref pk, rfl, rfl, (hka.mono (tk_same (sm.trans sTL))).sq, atI_nat (j := 0) exk, pk, _, 0, _, rfl, rfl, (hpk.mono (tk_same sTL)).sq, atI_nat (j := 0) rfl, fun d hd => ⟨_, rfl, by show 14 ≤ sizeLine; decide, fun S0 hS0 => ?_⟩⟩
      have nd0 : New H (.ref d) := .ref ((sm.trans sTL).free hd)
      have sd := same_new (o := .dK ([] : List (Key × V))) hd
      have od := Odd.dic (K := K) (a := d) (kvs := []) (H := upd H2 d (.dK [])) upd_same
      have sS := same_new (o := .lst [V.non, .str "", .str "zz", .str "F", .int 0, .bl true, .ref T1, .ref L1, .str kd.1, .str "number", .str "f ", .ref d, .int (-1), .str "fg"]) hS0
      have eS0 : (upd (upd H2 d (.dK [])) S0 (.lst [V.non, .str "", .str "zz", .str "F", .int 0, .bl true, .ref T1, .ref L1, .str kd.1, .str "number", .str "f ", .ref d, .int (-1), .str "fg"])) S0 = some (.lst [V.non, .str "", .str "zz", .str "F", .int 0, .bl true, .ref T1, .ref L1, .str kd.1, .str "number", .str "f ", .ref d, .int (-1), .str "fg"]) := upd_same
      have s23 := sd.trans sS
      have oT3 := oT2.same s23
      have oL3 := oL.same s23
      have od3 := od.same sS
      have s03 := (sm.trans sTL).trans s23
      have sx3 := sTL.trans s23
      generalize upd (upd H2 d (.dK [])) S0 (.lst [V.non, .str "", .str "zz", .str "F", .int 0, .bl true, .ref T1, .ref L1, .str kd.1, .str "number", .str "f ", .ref d, .int (-1), .str "fg"]) = H3 at *
      have ow0 : OddW K H H3 [V.non, .str "", .str "zz", .str "F", .int 0, .bl true, .ref T1, .ref L1, .str kd.1, .str "number", .str "f ", .ref d, .int (-1), .str "fg"] :=
        .cons ⟨.plain rfl, _, .non⟩ (.cons ⟨.plain rfl, _, .str _⟩ (.cons ⟨.plain rfl, _, .str _⟩ (.cons ⟨.plain rfl, _, .str _⟩ (.cons ⟨.plain rfl, _, .int _⟩ (.cons ⟨.plain rfl, _, .bl _⟩ (.cons ⟨nT1, _, oT3⟩ (.cons ⟨nL1, _, oL3⟩ (.cons ⟨.plain rfl, _, .str _⟩ (.cons ⟨.plain rfl, _, .str _⟩ (.cons ⟨.plain rfl, _, .str _⟩ (.cons ⟨nd0, _, od3⟩ (.cons ⟨.plain rfl, _, .int _⟩ (.cons ⟨.plain rfl, _, .str _⟩ .nil)))))))))))))
      have eD3 := sx3 _ _ eD
      clear sd od sS s23 oT oL oT2 sTL sT sL hT1 hL1 hd
      refine ⟨.ref D, rfl, D, rfl, ⟨_, .of eD3⟩, ?_⟩
      refine for_it (walk_list (xs := names.map V.str)) (fun t σ Ha => ∃ (y4 : Option V) (S : Addr) (ws : List V), σ = [some u, some (.ref a), some (.ref D), some (.ref S), y4, none, none] ∧ Same H3 Ha ∧ Ha S = some (.lst (V.non :: ws)) ∧ OddW K H Ha (V.non :: ws) ∧ ws.length ≤ 13 + 6 * t) ⟨_, S0, _, rfl, Same.refl _, eS0, ow0, by show 13 ≤ 13 + 6 * 0; decide⟩ (fun t σ Ha _ z => ?_) ?_ ?_
      · obtain ⟨_, _, _, _, s9, _⟩ := z
        exact .of (s9 _ _ eD3)
      · rintro t x σ Ha Hb ht ⟨y4, S, ws, rfl, s9, eS, ow, lw⟩ ⟨rfl, hxt⟩
        rw [List.getElem?_map] at hxt
        obtain ⟨z, hz, rfl⟩ := Option.map_eq_some_iff.mp hxt
        have lz := nl z (List.mem_of_getElem? hz)
        have e0 : ("0" : Str).length = 1 := by decide +kernel
        have e1 : (" " : Str).length = 1 := by decide +kernel
        rw [List.length_map] at ht
        refine ⟨.ref S, rfl, .str z, rfl, z, "0", rfl, rfl, Nat.le_of_lt (small1000 (by omega)), .str z, rfl, 1, rfl, z, rfl, Nat.le_of_lt (small1000 (by omega)), .str z, rfl, rfl, z, rfl, rfl, by omega, .str z, rfl, by show 1 ≤ sizeLine; decide, fun T5 hT5 => ⟨.str z, rfl, by show 1 ≤ sizeLine; decide, fun L5 hL5 => ⟨.str z, rfl, z, " ", rfl, rfl, Nat.le_of_lt (small1000 (by omega)), by show 6 ≤ sizeLine; decide, fun M5 hM5 => ?_⟩⟩⟩
        have nT5 : New H (.ref T5) := .ref ((s03.trans s9).free hT5)
        have nL5 : New H (.ref L5) := .ref (((s03.trans s9).trans (same_new hT5)).free hL5)
        have sT := same_new (o := .tup [V.str z]) hT5
        have sL := same_new (o := .lst [V.str z]) hL5
        have oT := Odd.tup (K := K) (a := T5) (SqT.of (H := upd Hb T5 (.tup [V.str z])) upd_same)
        have oL := Odd.lst (K := K) (a := L5) (SqL.of (H := upd (upd Hb T5 (.tup [V.str z])) L5 (.lst [V.str z])) upd_same)
        have oT2 := oT.same sL
        have sTL := sT.trans sL
        generalize upd (upd Hb T5 (.tup [V.str z])) L5 (.lst [V.str z]) = H5 at *
        have sM := same_new (o := .lst [V.str (z ++ "0"), .str (cutS z (some 1) none), .str (Txt.upper z), .ref T5, .ref L5, .str (z ++ " ")]) hM5
        have eM : (upd H5 M5 (.lst [V.str (z ++ "0"), .str (cutS z (some 1) none), .str (Txt.upper z), .ref T5, .ref L5, .str (z ++ " ")])) M5 = some (.lst [V.str (z ++ "0"), .str (cutS z (some 1) none), .str (Txt.upper z), .ref T5, .ref L5, .str (z ++ " ")]) := upd_same
        have oT6 := oT2.same sM
        have oL6 := oL.same sM
        have s56 := sTL.trans sM
        generalize upd H5 M5 (.lst [V.str (z ++ "0"), .str (cutS z (some 1) none), .str (Txt.upper z), .ref T5, .ref L5, .str (z ++ " ")]) = H6 at *
        refine ⟨S, M5, _, _, rfl, rfl, s56 _ _ eS, eM, ?_, fun p hp => ?_⟩
        · refine Nat.le_of_lt (small1000 ?_)
          show ws.length + 1 + 6 ≤ 1000
          omega
        have sp := same_new (o := .lst ((V.non :: ws) ++ [V.str (z ++ "0"), .str (cutS z (some 1) none), .str (Txt.upper z), .ref T5, .ref L5, .str (z ++ " ")])) hp
        refine ⟨_, p, ws ++ [V.str (z ++ "0"), .str (cutS z (some 1) none), .str (Txt.upper z), .ref T5, .ref L5, .str (z ++ " ")], rfl, (s9.trans s56).trans sp, upd_same, ?_, by rw [List.length_append]; show ws.length + 6 ≤ _; omega⟩
        show OddW K H _ ((V.non :: ws) ++ _)
        refine OddW.app (ow.same (s56.trans sp)) ?_
        exact .cons ⟨.plain rfl, _, .str _⟩ (.cons ⟨.plain rfl, _, .str _⟩ (.cons ⟨.plain rfl, _, .str _⟩ (.cons ⟨nT5, _, oT6.same sp⟩ (.cons ⟨nL5, _, oL6.same sp⟩ (.cons ⟨.plain rfl, _, .str _⟩ .nil)))))
      · rintro σ Ha ⟨y4, S, ws, rfl, s9, eS, ow, lw⟩
        rw [List.length_map] at lw
        refine ⟨.ref S, rfl, S, rfl, ⟨_, .of eS⟩, fun D2 hD2 => ?_⟩
        refine lc_it (walk_list (xs := V.non :: ws)) (fun t Hx => Same Ha Hx ∧ ∃ acc : List V, Hx D2 = some (.lst acc) ∧ acc.length ≤ t ∧ (1 ≤ t → 1 ≤ acc.length) ∧ ∀ x ∈ acc, New H x ∧ OddV K Ha names x) ⟨same_new hD2, [], upd_same, Nat.le_refl _, fun h => by omega, fun x hx => by simp at hx⟩ (fun t Hx _ z => .of (z.1 _ _ eS)) (fun t x Hx Hy ht z y => ?_) (fun Hx z => ?_)
        · obtain ⟨s10, acc, eA, la, l1, hA⟩ := z
          obtain ⟨rfl, hxt⟩ := y
          have hmem := List.mem_of_getElem? hxt
          obtain ⟨nx, o, ho0⟩ := ow x hmem
          have ho := ho0.same s10
          have lt : acc.length < sizeLine := small1000 (by
            have : (V.non :: ws).length = ws.length + 1 := rfl
            omega)
          refine ⟨rfl, x, rfl, .ref D, rfl, D, names, o, rfl, .of (s10 _ _ (s9 _ _ eD3)), ho, _, rfl, ?_⟩
          by_cases h : (!names.any fun z => decide (o = some z)) = true
          · rw [h]
            refine iteT ⟨x, rfl, acc, eA, lt, ?_, acc ++ [x], upd_same, by rw [List.length_append]; show acc.length + 1 ≤ _; omega, fun _ => by rw [List.length_append]; show 1 ≤ acc.length + 1; omega, fun y hy => ?_⟩
            · intro b o' e
              rw [upd_ne (ne_of_none e hD2)]; exact s10 _ _ e
            · rcases List.mem_append.mp hy with hy | hy
              · exact hA y hy
              · rw [List.mem_singleton.mp hy]
                refine ⟨nx, o, ho0, fun z hz hin => ?_⟩
                rw [Bool.not_eq_true', List.any_eq_false] at h
                exact h z hin (decide_eq_true hz)
          · rw [Bool.not_eq_true _ |>.mp h]
            refine iteF ⟨s10, acc, eA, by omega, fun _ => ?_, hA⟩
            by_cases t0 : t = 0
            · subst t0
              obtain rfl : V.non = x := by simpa using hxt
              cases ho
              exact absurd (by simp) h
            · exact l1 (by omega)
        · obtain ⟨s10, acc, eA, la, l1, hA⟩ := z
          have l2 : (V.non :: ws).length = ws.length + 1 := rfl
          exact q D2 acc _ (s03.trans (s9.trans s10)) ((s03.trans s9).free hD2) eA (l1 (by omega)) (by omega) fun x hx => ⟨(hA x hx).1, (hA x hx).2.same s10⟩
end
end K63

set_option Elab.async false
set_option linter.all false
set_option maxRecDepth 100000
set_option exponentiation.threshold 20000
set_option pp.deepTerms false
set_option pp.deepTerms.threshold 8
namespace K63
open PySem PySem.Spec PyProof.Rows L2 Ly Mt
theorem vecs_small {wide : Nat} {F : Form} (ok : FormOk wide F) (rows : List Rw) : ∀ v ∈ vecsOf F rows, v.length ≤ 32 := by
  have go : ∀ (rows : List Rw) (acc : List (List Rat)), (∀ v ∈ acc, v.length ≤ 32) → ∀ v ∈ rows.foldl (vecStep F) acc, v.length ≤ 32 := fun rows => by
    induction rows with
    | nil => exact fun acc h => h
    | cons r rows ih =>
      intro acc h
      rw [List.foldl_cons]
      refine ih _ fun v hv => ?_
      unfold vecStep at hv
      rcases List.mem_append.mp hv with hv | hv
      · exact h v hv
      · rw [List.mem_singleton.mp hv, vecT_len]
        exact ok.dim_le _
  exact go rows [] fun v hv => by simp at hv
theorem vecs_take (F : Form) : ∀ (rows : List Rw) (s : Nat), s ≤ rows.length → vecsOf F (rows.take s) = (vecsOf F rows).take s := fun rows s h => by
  have e : vecsOf F rows = vecsOf F (rows.take s ++ rows.drop s) := by rw [List.take_append_drop]
  rw [e]
  have pre : ∀ (l : List Rw) (acc : List (List Rat)), acc <+: l.foldl (vecStep F) acc := fun l => by
    induction l with
    | nil => exact fun acc => List.prefix_rfl
    | cons x l ih => exact fun acc => (List.prefix_append acc _).trans (ih _)
  have p : vecsOf F (rows.take s) <+: vecsOf F (rows.take s ++ rows.drop s) := by
    unfold vecsOf
    rw [List.foldl_append]
    exact pre _ _
  have l : (vecsOf F (rows.take s)).length = s := by rw [vecsOf_len, List.length_take]; omega
  have := List.prefix_iff_eq_take.mp p
  rw [l] at this
  exact this
theorem rows_take {ks : List Kd} {rows : List Rw} (h : RowsOk ks rows) {s : Nat} (s1 : 1 ≤ s) (hs : s ≤ rows.length) : RowsOk ks (rows.take s) := by
  have l : (rows.take s).length = s := by rw [List.length_take]; omega
  refine ⟨by have := h.few; omega, fun t r hr => ?_⟩
  obtain ⟨ht, hr'⟩ := take_get hr
  obtain ⟨i, j, kd, m, a, b, e⟩ := h.each t r hr'
  refine ⟨i, j, kd, m, a, b, fun x f d h1 h2 hin => ?_⟩
  obtain ⟨n, e1, e2, r3, j3, kd3, m3, e3, a3⟩ := e x f d h1 h2 hin
  exact ⟨n, e1, e2, r3, j3, kd3, m3, by rw [List.getElem?_take, if_pos (by omega)]; exact e3, a3⟩
theorem job_take {F : Form} {rows : List Rw} (h : VecsJob F rows) (s : Nat) : VecsJob F (rows.take s) := ⟨fun t r i j kd m hr a => by
  obtain ⟨ht, hr'⟩ := take_get hr
  have := h.each t r i j kd m hr' a
  rw [List.take_take, Nat.min_eq_left (by omega)]
  exact this⟩
theorem But.back {w : Addr} {H0 H H' : Hp} (b : But w H H') (s : Same H0 H) (f : H0 w = none) : Same H0 H' := fun x o h => b x o (ne_of_none h f) (s x o h)
theorem ints_of {ns : List Int} : ∀ {ys : List V}, (∀ v ∈ ys, v ∈ ns.map V.int) → ∃ cs : List Int, ys = cs.map V.int
  | [], _ => ⟨[], rfl⟩
  | y :: ys, h => by
    obtain ⟨cs, e⟩ := ints_of (ns := ns) (ys := ys) fun v hv => h v (List.mem_cons_of_mem _ hv)
    obtain ⟨n, _, en⟩ := List.mem_map.mp (h y (List.mem_cons_self ..))
    exact ⟨n :: cs, by rw [e, ← en]; rfl⟩
def Cell (c : Int) : Prop := ∃ n, n ≤ 1100000 ∧ c.natAbs < 2 ^ n
theorem atI_end {α : Type} {xs : List α} {v : α} {n : Nat} (l : xs.length = n + 1) (h : xs[n]? = some v) : atI xs (-1) = some v := by
  have e : xs = xs.take n ++ [v] := by
    have := List.take_add_one (l := xs) (i := n)
    rw [h, List.take_of_length_le (by omega)] at this
    exact this
  rw [e]
  exact atI_last _ _
theorem rd_but {c p : Addr} {H H' : Hp} {o : HO} (h : L2.Rd H p o) (n : p ≠ c) (b : But c H H') : L2.Rd H' p o := by
  rcases h with h | ⟨u, h⟩
  · exact .inl (b _ _ n h)
  · exact .inr ⟨u, b _ _ n h⟩
theorem odd_but {K : PySem.W.Frag} {c : Addr} {H H' : Hp} {v : V} {o : Option Str} (h : Odd K H v o) (n : v ≠ .ref c) (b : But c H H') : Odd K H' v o := by
  have ne : ∀ {a : Addr}, V.ref a ≠ .ref c → a ≠ c := fun h e => h (by rw [e])
  cases h with
  | non => exact .non
  | bl b => exact .bl b
  | int i => exact .int i
  | str z => exact .str z
  | tup h => exact .tup (h.imp (fun h => rd_but h (ne n) b) id)
  | lst h => exact .lst (h.imp (fun h => rd_but h (ne n) b) id)
  | dic h => exact .dic (b _ _ (ne n) h)
theorem oddV_but {K : PySem.W.Frag} {c : Addr} {H H' : Hp} {ns : List Str} {v : V} (h : OddV K H ns v) (n : v ≠ .ref c) (b : But c H H') : OddV K H' ns v := by
  obtain ⟨o, h1, h2⟩ := h
  exact ⟨o, odd_but h1 n b, h2⟩
theorem dims_at {wide : Nat} {F : Form} (ok : FormOk wide F) {r : Rd} (hr : r ∈ F.rds) {i : Nat} {kd : Kd} (hk : F.ks[i]? = some kd) (e : kd.1 = r.2.1) : r.2.2.length = F.dims.getD i 0 := by
  rw [(ok.rd.kind r hr).2, ← e, idx_get ok.kinds.nd (i := i) (by rw [List.getElem?_map, hk]; rfl)]
/-- the parts of a question to number that do not hang on bounds -/
theorem num_mk {F : Form} {rows : List Rw} (ro : RowsOk F.ks rows) (job : VecsJob F rows) {e : Nat} (he : e < rows.length) {r : Rd} (hr : r ∈ F.rds) {rw' : Rw} {i j : Nat} {kd : Kd} {m : Mk} {vec : List Rat} (hrw : rows[e]? = some rw') (a : At F.ks rw' i j kd m) (hv : (vecsOf F rows)[e]? = some vec) (dot : kd.1 = r.2.1 → PDot r.2.2 vec) : NumJob F (rows.take (e + 1)) r kd.1 vec := by
  refine ⟨hr, rows_take ro (by omega) (by omega), job_take job _, ⟨rows.take e, rw', i, j, kd, m, ?_, a, rfl⟩, ⟨(vecsOf F rows).take e, ?_⟩, dot⟩
  · rw [List.take_add_one, hrw]; rfl
  · rw [vecs_take F rows (e + 1) (by omega), List.take_add_one, hv]; rfl
theorem num_job {F : Form} (d : Drf F) (sm : SmallK 3 F.ks) {rows : List Rw} {sz : List Nat} {hd : List Str} (rs : RS F.ks rows sz hd) (l96 : rows.length ≤ 96) {e : Nat} (he : e < rows.length) {r : Rd} (hr : r ∈ F.rds) :
    ∃ rw' i j kd m vec, rows[e]? = some rw' ∧ At F.ks rw' i j kd m ∧ (vecsOf F rows)[e]? = some vec ∧ NumJob F (rows.take (e + 1)) r kd.1 vec := by
  have hrw := List.getElem?_eq_getElem he
  obtain ⟨i, j, kd, m, a, _, _, _⟩ := rs.each e _ hrw
  have hv := List.getElem?_eq_getElem (show e < (vecsOf F rows).length by rw [vecsOf_len]; exact he)
  generalize (vecsOf F rows)[e]'(by rw [vecsOf_len]; exact he) = vec at hv
  refine ⟨_, i, j, kd, m, vec, hrw, a, hv, num_mk (rs.ok (by omega) l96) (vecs_job d.ok (drf_coef d) sm rs) he hr hrw a hv fun ek => ?_⟩
  have vb := vb_all d.ok (drf_coef d) sm rs (e + 1) (by omega)
  have hv2 : (vecsOf F (rows.take (e + 1)))[e]? = some vec := by rw [vecs_take F rows (e + 1) (by omega), List.getElem?_take, if_pos (by omega)]; exact hv
  have lv := vb.len e i vec hv2 ⟨_, j, kd, m, hrw, a⟩
  have sx := vb.sx e vec hv2
  have s121 : sz.getD e 0 ≤ 121 := by
    rw [List.getD_eq_getElem?_getD, List.getElem?_eq_getElem (show e < sz.length by rw [rs.lsz]; exact he)]
    exact rs.s30 _ (List.getElem_mem _)
  generalize sz.getD e 0 = s at sx s121
  have l32 : vec.length ≤ 32 := by rw [lv]; exact d.ok.dim_le _
  have h6 : 6 ^ (1 + s) ≤ 2 ^ 366 := by
    calc 6 ^ (1 + s) ≤ 8 ^ (1 + s) := Nat.pow_le_pow_left (by decide) _
      _ = 2 ^ (3 * (1 + s)) := by rw [show 8 = 2 ^ 3 from rfl, ← Nat.pow_mul]
      _ ≤ 2 ^ 366 := Nat.pow_le_pow_right (by decide) (by omega)
  refine pdot_of (by rw [lv]; exact dims_at d.ok hr a.hk ek) l32 (d.rw r hr) sx (Nat.pow_pos (by decide)) ?_ (Nat.lt_of_le_of_lt h6 (Nat.pow_lt_pow_right (by decide) (by decide)))
  have hE : EE ^ s ≤ 2 ^ 16940 := by
    show (2 ^ 140) ^ s ≤ _
    rw [← Nat.pow_mul]
    exact Nat.pow_le_pow_right (by decide) (by omega)
  calc 32 * (WB * EE ^ s) * 6 ^ (1 + s) ≤ 32 * (2 ^ 40 * 2 ^ 16940) * 2 ^ 366 := Nat.mul_le_mul (Nat.mul_le_mul (Nat.le_refl _) (Nat.mul_le_mul (by decide) hE)) h6
    _ = 2 ^ 17351 := by rw [show 32 = 2 ^ 5 from rfl, ← Nat.pow_add, ← Nat.pow_add, ← Nat.pow_add]
    _ < 2 ^ 18000 := Nat.pow_lt_pow_right (by decide) (by decide)
theorem tall_num {many more : Nat} (m1 : 1 ≤ many) (mm : many + more ≤ 4) {F : Form} (tf : TallF many more F) {rows : List Rw} (tr : TallR many more rows) (l96 : rows.length ≤ 96) {e : Nat} (he : e < rows.length) {r : Rd} (hr : r ∈ F.rds) :
    ∃ rw' i j kd m vec, rows[e]? = some rw' ∧ At F.ks rw' i j kd m ∧ kd.1 = r.2.1 ∧ (vecsOf F rows)[e]? = some vec ∧ NumJob F (rows.take (e + 1)) r kd.1 vec := by
  have hrw := List.getElem?_eq_getElem he
  obtain ⟨ro, job⟩ := tall_job m1 mm tf tr (by omega) l96
  obtain ⟨i, j, kd, m, a, _, _⟩ := ro.each e _ hrw
  have hv := List.getElem?_eq_getElem (show e < (vecsOf F rows).length by rw [vecsOf_len]; exact he)
  generalize (vecsOf F rows)[e]'(by rw [vecsOf_len]; exact he) = vec at hv
  have kA : kd.1 = ("A" : Str) := by
    have := List.mem_of_getElem? a.hk
    rw [tf.ks] at this
    rw [List.mem_singleton.mp this]
  have rA : r.2.1 = ("A" : Str) := by
    have := (tf.ok.rd.kind r hr).1
    rw [tf.ks] at this
    exact List.mem_singleton.mp this
  have ek : kd.1 = r.2.1 := by rw [kA, rA]
  refine ⟨_, i, j, kd, m, vec, hrw, a, ek, hv, num_mk ro job he hr hrw a hv fun _ => ?_⟩
  have vt := tall_all m1 mm tf tr l96 (e + 1) (by omega)
  have hv2 : (vecsOf F (rows.take (e + 1)))[e]? = some vec := by rw [vecs_take F rows (e + 1) (by omega), List.getElem?_take, if_pos (by omega)]; exact hv
  obtain ⟨l3, _, sx⟩ := vt.each e vec hv2
  have lr : r.2.2.length = 3 := by
    rw [(tf.ok.rd.kind r hr).2, rA, tf.ks, tf.dims]; rfl
  refine pdot_of (B := 20 ^ (e + 1)) (c := 1) (by rw [lr, l3]) (by rw [l3]; decide) (tf.rw r hr) (fun q hq => ?_) (Nat.pow_pos (by decide)) ?_ (by decide)
  · obtain ⟨k, hk⟩ := mem_getD hq
    rw [← hk]; exact sx k
  · have h20 : 20 ^ (e + 1) ≤ 2 ^ 480 := by
      calc 20 ^ (e + 1) ≤ 32 ^ (e + 1) := Nat.pow_le_pow_left (by decide) _
        _ = 2 ^ (5 * (e + 1)) := by rw [show 32 = 2 ^ 5 from rfl, ← Nat.pow_mul]
        _ ≤ 2 ^ 480 := Nat.pow_le_pow_right (by decide) (by omega)
    calc 32 * (WB * 20 ^ (e + 1)) * 6 ^ (1 + 1) ≤ 32 * (2 ^ 40 * 2 ^ 480) * 2 ^ 6 := Nat.mul_le_mul (Nat.mul_le_mul (Nat.le_refl _) (Nat.mul_le_mul (by decide) h20)) (by decide)
      _ = 2 ^ 531 := by rw [show 32 = 2 ^ 5 from rfl, ← Nat.pow_add, ← Nat.pow_add, ← Nat.pow_add]
      _ < 2 ^ 18000 := Nat.pow_lt_pow_right (by decide) (by decide)
end K63

set_option Elab.async false
set_option linter.all false
set_option maxRecDepth 100000
set_option exponentiation.threshold 20000
set_option pp.deepTerms false
set_option pp.deepTerms.threshold 8
namespace K63
open PySem PySem.Spec PyProof.Rows L2 Ly Mt
section
variable {P : Program} {w : World} {K : PySem.W.Frag} {mg : Str → Option Value} {base : Heap}
theorem kb_number_rows_name_form : ∀ f fd, Fun K "number" "number" s_number f fd → KBinds K fd ["form", "name", "rows"] ["rows", "name", "form"] (fun us ws => match us, ws with | [], [x, y, z] => [z, y, x] | _, _ => []) (fun us ws => match us, ws with | [], [x, y, z] => [z, y, x] | _, _ => []) := by
  intro f fd U
  obtain ⟨oc, od, kV, doc, pm, an, cdv, ct, osl, rfl, lk, hcd⟩ := U.ex
  refine ⟨fun s us ws X hl => ?_, fun {vs us zs ws} r rz => ?_⟩
  · match us, ws, hl with
    | [], [x, y, z], _ => exact .of_eq rfl
    | [], [], h => simp at h
    | [], [_], h => simp at h
    | [], [_, _], h => simp at h
    | [], _ :: _ :: _ :: _ :: _, h => simp at h
    | _ :: _, _, h => simp at h
  · cases r with
    | cons a b => exact .nil
    | nil =>
      cases rz with
      | nil => exact .nil
      | cons a b =>
        cases b with
        | nil => exact .nil
        | cons a2 b2 =>
          cases b2 with
          | nil => exact .nil
          | cons a3 b3 =>
            cases b3 with
            | nil => exact .cons a3 (.cons a2 (.cons a .nil))
            | cons _ _ => exact .nil
def tK (r : MR) : PyData := .str r.2.2.1
abbrev s_law : Stmt := topS 73
theorem sc_law : FnScope ["script", "lot", "store", "kinds", "form", "rows", "found", "table", "maker", "fields", "kind", "k", "m", "name", "vector", "at", "due", "great", "rows_up", "odd", "turn", "thing"] ["script"] (defScope s_law) := ⟨rfl, rfl, rfl, by decide +kernel, rfl, by decide +kernel, by decide +kernel⟩
def sp_law (K : PySem.W.Frag) : Sp := fun vs H Q _ => ∃ (a : Addr) (ns : List Int), vs = [.ref a] ∧ SqL K H a (ns.map V.int) ∧ ns.length ≤ 63 ∧ (∀ c ∈ ns, Cell c) ∧ ∀ H', Q (.bl true) H'
set_option maxHeartbeats 8000000 in
theorem ok_law {f : Addr} {fd : FuncData} {k : Nat} (F : Fun K "law" "law" s_law f fd) (T : Tx K mg){er : Er} (TE : Tr K mg er) {k1 : Nat} (D__law_store : Def P w K mg base k1 "_law_store" s__law_store ["cells", "lot", "many"] (sp_store K)) {k2 : Nat} (D__law_kinds : Def P w K mg base k2 "_law_kinds" s__law_kinds ["store", "most"] (sp_kinds K)) {k3 : Nat} (D__law_pick : Def P w K mg base k3 "_law_pick" s__law_pick ["store", "many"] sp_pick) {k4 : Nat} (D__law_form : Def P w K mg base k4 "_law_form" s__law_form ["store", "kinds", "most", "wide"] (sp_lform K)) {k5 : Nat} (D__law_rows : Def P w K mg base k5 "_law_rows" s__law_rows ["store", "kinds", "many"] (sp_lrows K)) {k6 : Nat} (D__law_vectors : Def P w K mg base k6 "_law_vectors" s__law_vectors ["form", "rows"] (sp_lvectors K)) {k7 : Nat} (D_number : DefX P w K mg base k7 "number" s_number ["form", "name", "rows"] (sp_number K er)) {k8 : Nat} (D__law_same : Def P w K mg base k8 "_law_same" s__law_same ["found", "due"] (sp_same K 3)) {k9 : Nat} (D__law_told : Def P w K mg base k9 "_law_told" s__law_told ["form", "name", "rows"] (sp_ltold K)) {ka : Nat} (D__law_odd_names : Def P w K mg base ka "_law_odd_names" s__law_odd_names ["store", "form"] (sp_odd K)) {kb : Nat} (D__law_tall : Def P w K mg base kb "_law_tall" s__law_tall ["store"] (sp_tall K)) {kc : Nat} (D__law_makers : Def P w K mg base kc "_law_makers" s__law_makers ["kinds"] (sp_makers K)) {kd : Nat} (D__law_dot : Def P w K mg base kd "_law_dot" s__law_dot ["one", "other"] (sp_pdot K)) (e1 : k1 ≤ k) (e2 : k2 ≤ k) (e3 : k3 ≤ k) (e4 : k4 ≤ k) (e5 : k5 ≤ k) (e6 : k6 ≤ k) (e7 : k7 ≤ k) (e8 : k8 ≤ k) (e9 : k9 ≤ k) (ea : ka ≤ k) (eb : kb ≤ k) (ec : kc ≤ k) (ed : kd ≤ k) : FnOk P w K mg base CX0 (k + 1) f fd ["script"] (sp_law K) := by
  have nd := sc_law.nd
  refine F.ok sc_law (fun vs H Q E h => ?_) (fun cdv A outer s H vs Q E hr h => ?_)
  · obtain ⟨_, _, rfl, _⟩ := h
    rfl
  · obtain ⟨a, ns, rfl, hS, n63, hcell, q⟩ := h
    have flR : ∀ q : Rat, Fl 2 (rD q) := fun q => .tup 1 _ (by show 2 ≤ 8000; decide) fun x hx => by
      have : x = .int q.num ∨ x = .int (q.den : Int) := by simpa using hx
      rcases this with rfl | rfl <;> exact .int _ _
    have flW : ∀ z : Str, Fl 2 (wordD z) := fun z => .tup 1 _ (by show 1 ≤ 8000; decide) fun x hx => by
      rw [List.mem_singleton.mp hx]; exact .str _ _
    refine ⟨_, (pss_cons (ps_for PassesOwn.never rfl (pi_range1 rfl T.m_range (pa_cons pe_int pa_nil)) (pg_name (i := 1) nd rfl (.inl rfl))
        (pss_cons (ps_set (i := 2) nd rfl (.inl rfl) (pe_def D__law_store (hr.mono (by omega)) rfl (pa_cons (kpe_stepL K (by decide) (pv 0) (pv 1)) (pa_cons (pv 1) (pa_cons pe_int pa_nil)))))
        (pss_cons (ps_set (i := 3) nd rfl (.inl rfl) (pe_def D__law_kinds (hr.mono (by omega)) rfl (pa_cons (pv 2) (pa_cons pe_int pa_nil))))
        (C8.pss_cut (ps_set (i := 4) nd rfl (.inl rfl) (pe_def D__law_form (hr.mono (by omega)) rfl (pa_cons (pv 2) (pa_cons (pv 3) (pa_cons pe_int (pa_cons (pe_ifExp (pt_cmpR op_gt (pe_def D__law_pick (hr.mono (by omega)) rfl (pa_cons (pv 2) (pa_cons pe_int pa_nil))) pe_int (nomark _)) pe_int pe_int) pa_nil))))))
        (pss_cons (ps_set (i := 5) nd rfl (.inl rfl) (pe_def D__law_rows (hr.mono (by omega)) rfl (pa_cons (pv 2) (pa_cons (pv 3) (pa_cons (pe_op op_add pe_int (pe_def D__law_pick (hr.mono (by omega)) rfl (pa_cons (pv 2) (pa_cons pe_int pa_nil)))) pa_nil)))))
        (pss_cons (ps_set (i := 6) nd rfl (.inl rfl) (pe_def D__law_vectors (hr.mono (by omega)) rfl (pa_cons (pv 4) (pa_cons (pv 5) pa_nil))))
        (pss_cons (ps_set (i := 7) nd rfl (.inl rfl) pe_dnewK)
        (pss_cons (ps_for PassesOwn.never rfl (kpi_list K (pe_def D__law_makers (hr.mono (by omega)) rfl (pa_cons (pv 3) pa_nil))) (kpg_tup K (n := 5) rfl (pgs_cons (pg_name (i := 8) nd rfl (.inl rfl)) (pgs_cons (pg_name (i := 9) nd rfl (.inl rfl)) (pgs_cons (pg_name (i := 10) nd rfl (.inl rfl)) (pgs_cons (pg_name (i := 11) nd rfl (.inl rfl)) (pgs_cons (pg_name (i := 12) nd rfl (.inl rfl)) pgs_nil))))))
          (pss_one (ps_dput (hu_of hr) (pv 7) (pv 8) (pv 10) rfl)))
        (pss_cons (ps_for PassesOwn.never rfl (kpi_tup K (pe_ix (kix_tup K) (pv 4) pe_int (fun _ _ => rfl))) (kpg_tup K (n := 3) rfl (pgs_cons (pg_name (i := 13) nd rfl (.inl rfl)) (pgs_cons (pg_name (i := 10) nd rfl (.inl rfl)) (pgs_cons (pg_name (i := 14) nd rfl (.inl rfl)) pgs_nil))))
          (pss_cons (ps_for PassesOwn.never rfl (pi_range1 rfl T.m_range (pa_cons (pe_callB (kcall_len K) (by rfl) T.m_len PySem.boot_len (pa_cons (pv 5) pa_nil)) pa_nil)) (pg_name (i := 15) nd rfl (.inl rfl))
            (pss_cons (ps_set (i := 16) nd rfl (.inl rfl) (pe_tup (pa_cons pe_str pa_nil)))
            (C8.pss_cut (ps_if (pt_cmpR op_eq (pe_dget (hu_of hr) (pv 7) (pe_ix (kix_tup K) (pe_ix (kix_tup K) (pv 5) (pv 15) (fun _ _ => rfl)) pe_int (fun _ _ => rfl)) (fun _ _ => rfl)) (pv 10) (nomark _))
              (pss_one (ps_set (i := 16) nd rfl (.inl rfl) (pe_def D__law_dot (hr.mono (by omega)) rfl (pa_cons (pv 14) (pa_cons (pe_ix (kix_list K) (pv 6) (pv 15) (fun _ _ => rfl)) pa_nil)))))
              pss_nil)
            (pss_one (ps_if (pt_not (pt_val (pe_def D__law_same (hr.mono (by omega)) rfl (pa_cons (pe_def D__law_told (hr.mono (by omega)) rfl (pa_cons (pv 4) (pa_cons (pv 13) (pa_cons (pe_slice (ksl_tupA K) (pv 5) po_none (po_some (pe_op op_add (pv 15) pe_int))) pa_nil)))) (pa_cons (pv 16) pa_nil)))))
              (pss_one (ps_ret pe_bl))
              pss_nil)))))
          (pss_one (ps_if (pt_cmpR op_eq (pe_dget (hu_of hr) (pv 7) (pe_ix (kix_tup K) (pe_ix (kix_tup K) (pv 5) (pe_un un_neg pe_int) (fun _ _ => rfl)) pe_int (fun _ _ => rfl)) (fun _ _ => rfl)) (pv 10) (nomark _))
            (pss_one (ps_if (pt_not (pt_val (pe_def D__law_same (hr.mono (by omega)) rfl (pa_cons (pe_defKX D_number takes0 (hr.mono (by omega)) rfl kb_number_rows_name_form (pk_cons (pv 5) (pk_cons (pv 13) (pk_cons (pv 4) pk_nil)))) (pa_cons (pe_def D__law_dot (hr.mono (by omega)) rfl (pa_cons (pv 14) (pa_cons (pe_ix (kix_list K) (pv 6) (pe_un un_neg pe_int) (fun _ _ => rfl)) pa_nil))) pa_nil)))))
              (pss_one (ps_ret pe_bl))
              pss_nil))
            pss_nil))))
        (pss_cons (ps_asg (pe_def D__law_tall (hr.mono (by omega)) rfl (pa_cons (pv 2) pa_nil)) (kpg_tup K (n := 2) rfl (pgs_cons (pg_name (i := 17) nd rfl (.inl rfl)) (pgs_cons (pg_name (i := 18) nd rfl (.inl rfl)) pgs_nil))))
        (pss_cons (ps_set (i := 6) nd rfl (.inl rfl) (pe_def D__law_vectors (hr.mono (by omega)) rfl (pa_cons (pv 17) (pa_cons (pv 18) pa_nil))))
        (pss_cons (ps_for PassesOwn.never rfl (kpi_list K (pe_lst (pa_cons (pe_op op_sub (pe_callB (kcall_len K) (by rfl) T.m_len PySem.boot_len (pa_cons (pv 18) pa_nil)) pe_int) (pa_cons (pe_def D__law_pick (hr.mono (by omega)) rfl (pa_cons (pv 2) (pa_cons (pe_callB (kcall_len K) (by rfl) T.m_len PySem.boot_len (pa_cons (pv 18) pa_nil)) pa_nil))) pa_nil)))) (pg_name (i := 15) nd rfl (.inl rfl))
          (pss_one (ps_for PassesOwn.never rfl (kpi_tup K (pe_ix (kix_tup K) (pv 17) pe_int (fun _ _ => rfl))) (kpg_tup K (n := 3) rfl (pgs_cons (pg_name (i := 13) nd rfl (.inl rfl)) (pgs_cons (pg_name (i := 10) nd rfl (.inl rfl)) (pgs_cons (pg_name (i := 14) nd rfl (.inl rfl)) pgs_nil))))
            (pss_one (ps_if (pt_not (pt_val (pe_def D__law_same (hr.mono (by omega)) rfl (pa_cons (pe_defX D_number takes0 (hr.mono (by omega)) rfl (pa_cons (pv 17) (pa_cons (pv 13) (pa_cons (pe_slice (ksl_tupA K) (pv 18) po_none (po_some (pe_op op_add (pv 15) pe_int))) pa_nil)))) (pa_cons (pe_def D__law_dot (hr.mono (by omega)) rfl (pa_cons (pv 14) (pa_cons (pe_ix (kix_list K) (pv 6) (pv 15) (fun _ _ => rfl)) pa_nil))) pa_nil)))))
              (pss_one (ps_ret pe_bl))
              pss_nil)))))
        (pss_cons (ps_set (i := 19) nd rfl (.inl rfl) (pe_def D__law_odd_names (hr.mono (by omega)) rfl (pa_cons (pv 2) (pa_cons (pv 4) pa_nil))))
        (pss_one (ps_for PassesOwn.never rfl (pi_range1 rfl T.m_range (pa_cons pe_int pa_nil)) (pg_name (i := 20) nd rfl (.inl rfl))
          (pss_cons (ps_set (i := 13) nd rfl (.inl rfl) (pe_ix (kix_list K) (pv 19) (pe_def D__law_pick (hr.mono (by omega)) rfl (pa_cons (pv 2) (pa_cons (pe_callB (kcall_len K) (by rfl) T.m_len PySem.boot_len (pa_cons (pv 19) pa_nil)) pa_nil))) (fun _ _ => rfl)))
          (pss_one (ps_for PassesOwn.never rfl (kpi_list K (pe_lst (pa_cons (pv 5) (pa_cons (pe_tup pa_nil) (pa_cons pe_non pa_nil))))) (pg_name (i := 21) nd rfl (.inl rfl))
            (pss_one (ps_if (pt_cmpR (kop_neD K hr.units) (pe_def D__law_told (hr.mono (by omega)) rfl (pa_cons (pv 4) (pa_cons (pv 13) (pa_cons (pv 21) pa_nil)))) (pe_tup (pa_cons pe_str pa_nil)) (nomark _))
              (pss_one (ps_ret pe_bl))
              pss_nil))))))))))))))))))))
      (pss_one (ps_ret pe_bl))), ?_⟩
    refine ⟨3, rfl, by decide, by decide, ?_⟩
    refine for_it (walk_range (lo := 0) (n := (3 : Int).toNat)) (fun i σ Ha => ∃ (y1 y2 y3 y4 y5 y6 y7 y8 y9 y10 y11 y12 y13 y14 y15 y16 y17 y18 y19 y20 y21 : Option V), σ = [some (.ref a), y1, y2, y3, y4, y5, y6, y7, y8, y9, y10, y11, y12, y13, y14, y15, y16, y17, y18, y19, y20, y21] ∧ Same H Ha) ⟨_, _, _, _, _, _, _, _, _, _, _, _, _, _, _, _, _, _, _, _, _, rfl, Same.refl _⟩ (fun _ _ _ _ _ => trivial) ?_ ?_
    · rintro i x σ Ha Hb hi ⟨y1, y2, y3, y4, y5, y6, y7, y8, y9, y10, y11, y12, y13, y14, y15, y16, y17, y18, y19, y20, y21, rfl, sa⟩ ⟨rfl, rfl⟩
      have hi3 : i < 3 := hi
      show gName 1 (V.int ((0 : Int) + (i : Nat))) _ _ _
      rw [show (0 : Int) + (i : Nat) = (i : Nat) by omega]
      refine ⟨.ref a, rfl, .int (i : Nat), rfl, _, rfl, _, a, _, rfl, rfl, sql_same' hS sa, fun p ys hy hl hp => ?_⟩
      obtain ⟨cs, rfl⟩ := ints_of hy
      rw [List.length_map, List.length_map] at hl
      have sp := same_new (o := .lst (cs.map V.int)) hp
      refine ⟨.int (i : Nat), rfl, p, cs, i, 200, rfl, upd_same, by omega, by omega, by decide, by decide, fun c H1 s1 fc u1 => ?_⟩
      have s01 := sp.trans s1
      have fc0 : Hb c = none := sp.free fc
      refine ⟨.ref c, rfl, c, 3, rfl, by decide, u1, fun pk ks H2 u2 b2 ok sm ik => ?_⟩
      have B2 : But c Hb H2 := (but_same s01).trans b2
      have kf := ok.few
      refine ⟨fun σ' H' => ∃ (p1 : Addr) (F1 : Form), σ' = [some (.ref a), some (.int (i : Nat)), some (.ref c), some (.ref pk), some (.ref p1), y5, y6, y7, y8, y9, y10, y11, y12, y13, y14, y15, y16, y17, y18, y19, y20, y21] ∧ Sto H' c ∧ But c H2 H' ∧ Im K H' (.ref p1) (fmD F1) ∧ F1.ks = ks ∧ Drf F1, ?_, ?_⟩
      · refine ⟨.ref c, rfl, .ref pk, rfl, .ref c, rfl, c, 3, rfl, u2, by decide, fun z H3 z3 u3 b3 => ⟨_, _, rfl, rfl, _, rfl, ?_⟩⟩
        have ik3 := Im.mono (b3.tk u2) _ ik
        by_cases hz : ((z : Nat) : Int) > 0
        · rw [decide_eq_true hz]
          exact iteT ⟨c, .ref pk, ks, 5, rfl, by decide, by decide, u3, ik3, ok, sm, fun p1 F1 H4 u4 b4 i1 ek1 d1 => ⟨p1, F1, rfl, u4, b3.trans b4, i1, ek1, d1⟩⟩
        · rw [decide_eq_false hz]
          exact iteF ⟨c, .ref pk, ks, 17, rfl, by decide, by decide, u3, ik3, ok, sm, fun p1 F1 H4 u4 b4 i1 ek1 d1 => ⟨p1, F1, rfl, u4, b3.trans b4, i1, ek1, d1⟩⟩
      · rintro σ' H4 ⟨p1, F1, rfl, u4, b4, i1, ek1, d1⟩
        subst ek1
        have ik4 := Im.mono (b4.tk u2) _ ik
        refine ⟨.ref c, rfl, .ref pk, rfl, .ref c, rfl, c, 8, rfl, u4, by decide, fun z H6 z8 u6 b6 => ⟨_, _, rfl, rfl, c, .ref pk, F1.ks, 2 + z, congrArg (fun x => [V.ref c, .ref pk, .int x]) (show (2 : Int) + (z : Nat) = ((2 + z : Nat) : Int) by omega), by omega, u6, Im.mono (b6.tk u4) _ ik4, ok, sm, fun pr rows sz hd H7 u7 b7 ir rg lr => ?_⟩⟩
        have B7 : But c Hb H7 := ((B2.trans b4).trans b6).trans b7
        have t47 := (b6.tk u4).trans (b7.tk u6)
        have ik7 := Im.mono t47 _ ik4
        have i17 := Im.mono t47 _ i1
        have l1 : 1 ≤ rows.length := by omega
        have l9 : rows.length ≤ 9 := by omega
        have ro := rg.rs.ok l1 (by omega)
        have job1 := vecs_job d1.ok (drf_coef d1) sm rg.rs
        obtain ⟨pr', rx, epr, hpr, hrx⟩ := ir.tuple_inv
        cases epr
        have lrx : rx.length = rows.length := all_len hrx
        refine ⟨.ref p1, rfl, .ref pr, rfl, .ref p1, .ref pr, F1, rows, 1, rfl, i17, .tup hpr hrx, d1.ok, ro, job1, fun L ws H8 s8 hL eL iL => ?_⟩
        have lws : ws.length = rows.length := by rw [all_len iL, vecsOf_len]
        intro d hd
        have sd := same_new (o := .dK []) hd
        have edd : (upd H8 d (.dK [])) d = some (.dK []) := upd_same
        show gName 7 (V.ref d) _ (upd H8 d (.dK [])) _
        have eL' := sd _ _ eL
        have iL' := ImAll.mono (tk_same sd) _ iL
        have s79 := s8.trans sd
        have ndc : d ≠ c := (u7.same s8).ne hd
        have hd0 : Hb d = none := B7.free u7 (s8.free hd)
        generalize upd H8 d (.dK []) = H9 at *
        clear sd hd iL
        have t79 := tk_same s79
        replace hpr := hpr.mono t79
        replace hrx := ImAll.mono t79 _ hrx
        replace i17 := Im.mono t79 _ i17
        replace ik7 := Im.mono t79 _ ik7
        have u9 := u7.same s79
        have B9 := B7.trans (but_same s79)
        have nLd : L ≠ d := fun z => by subst z; rw [eL'] at edd; cases edd
        refine ⟨.ref pk, rfl, .ref pk, F1.ks, rfl, ik7, ok, fun D wm H10 s10 hD eD imD => ⟨D, rfl, ⟨_, .of eD⟩, ?_⟩⟩
        have ed2 := s10 _ _ edd
        have ndD : D ≠ d := (ne_of_none edd hD).symm
        have lwm : wm.length = (mrs F1.ks).length := all_len imD
        have fewm : (mrs F1.ks).length ≤ 6 * F1.ks.length := mrs_few ok F1.ks.length (Nat.le_refl _)
        refine for_it (walk_list (xs := wm)) (fun j σ Hx => ∃ (y8 y9 y10 y11 y12 : Option V), σ = [some (.ref a), some (.int (i : Nat)), some (.ref c), some (.ref pk), some (.ref p1), some (.ref pr), some (.ref L), some (.ref d), y8, y9, y10, y11, y12, y13, y14, y15, y16, y17, y18, y19, y20, y21] ∧ Bar' d H10 Hx ∧ TabG K Hx d tK ((mrs F1.ks).take j)) ⟨_, _, _, _, _, rfl, fun b o _ e => e, ⟨[], ed2, rfl, .nil⟩⟩ (fun j σ Hx _ z => ?_) ?_ ?_
        · obtain ⟨_, _, _, _, _, _, bar, _⟩ := z
          exact .of (bar _ _ ndD eD)
        · rintro j x σ Hx Hy hj ⟨y8, y9, y10, y11, y12, rfl, bar, tb⟩ ⟨rfl, hxj⟩
          have tbar : TK H10 Hy := fun b xs e => bar b _ (fun z => by subst z; rw [ed2] at e; cases e) e
          obtain ⟨r, hr1, ir⟩ := all_get (ImAll.mono tbar _ imD) hxj
          obtain ⟨pq, w1, w2, w3, w4, w5, rfl, hpq, j1, j2, j3, j4, j5⟩ := im_five ir
          obtain rfl := j1.str_inv
          obtain rfl := j3.str_inv
          obtain rfl := j4.int_inv
          obtain rfl := j5.int_inv
          refine ⟨pq, _, rfl, hpq.sq, rfl, .str r.1, _, rfl, w2, _, rfl, .str r.2.2.1, _, rfl, .int (r.2.2.2.1 : Nat), _, rfl, .int (r.2.2.2.2 : Nat), _, rfl, rfl, ?_⟩
          obtain ⟨kvs, ek, h1, h2⟩ := id tb
          have lk : kvs.length ≤ 100 := by
            have := congrArg List.length h1
            rw [List.length_map, List.length_map, List.length_take] at this
            omega
          refine ⟨.str r.2.2.1, rfl, .ref d, rfl, .str r.1, rfl, d, _, rfl, .k (k := Sum.inr r.1) ek (small1000 (by omega)), ?_⟩
          refine ⟨_, _, _, _, _, rfl, fun b o nb e => ?_, ?_⟩
          · rw [upd_ne nb]; exact bar b o nb e
          · rw [List.take_add_one, hr1]
            refine TabG.put (r := r) ek h1 h2 ?_ (.str r.2.2.1)
            have ndm := mrs_nd ok
            intro z
            obtain ⟨n, hn⟩ := List.getElem?_of_mem z
            rw [List.getElem?_map, List.getElem?_take] at hn
            split at hn
            · next hlt =>
              have g1 : ((mrs F1.ks).map (·.1))[n]? = some r.1 := by rw [List.getElem?_map]; exact hn
              have g2 : ((mrs F1.ks).map (·.1))[j]? = some r.1 := by rw [List.getElem?_map, hr1]; rfl
              have := (List.getElem?_inj (List.getElem?_eq_some_iff.mp g1).1 ndm).mp (g1.trans g2.symm)
              omega
            · simp at hn
        · rintro σ G0 ⟨y8, y9, y10, y11, y12, rfl, bar, tb⟩
          rw [lwm, List.take_of_length_le (Nat.le_refl _)] at tb
          have t0 : TK H9 G0 := fun b xs e => bar b _ (fun z => by subst z; rw [edd] at e; cases e) (s10 _ _ e)
          have uG : Sto G0 c := by
            obtain ⟨g1, g2, g3, g4⟩ := u9.ex
            exact ⟨g1, g2, bar _ _ ndc.symm (s10 _ _ g3), g4⟩
          have BG : But c Hb G0 := fun b o nb e => bar b o (ne_of_none e hd0) (s10 _ _ (B9 b o nb e))
          replace eL' := bar _ _ nLd (s10 _ _ eL')
          replace iL' := ImAll.mono t0 _ iL'
          replace hpr := hpr.mono t0
          replace hrx := ImAll.mono t0 _ hrx
          replace i17 := Im.mono t0 _ i17
          have iPr : Im K G0 (.ref pr) (rwsD rows) := .tup hpr hrx
          clear bar t0 ed2 edd eD imD hD lwm s10 ndD ik7
          obtain ⟨p1', f1, f2, f3, f4, ep1, hp1, if1, if2, if3, if4⟩ := im_quad i17
          cases ep1
          obtain ⟨pd, dx, rfl, hpd, hdx⟩ := if4.tuple_inv
          have ldx : dx.length = F1.rds.length := all_len hdx
          -- the reads
          refine ⟨.ref p1, rfl, p1, _, 3, _, rfl, rfl, hp1.sq, atI_nat (j := 3) rfl, pd, rfl, ⟨_, hpd.sq⟩, ?_⟩
          refine for_it (walk_tup (xs := dx)) (fun s σ Hx => ∃ (y10 y13 y14 y15 y16 : Option V), σ = [some (.ref a), some (.int (i : Nat)), some (.ref c), some (.ref pk), some (.ref p1), some (.ref pr), some (.ref L), some (.ref d), y8, y9, y10, y11, y12, y13, y14, y15, y16, y17, y18, y19, y20, y21] ∧ Same G0 Hx) ⟨_, _, _, _, _, rfl, Same.refl _⟩ (fun s σ Hx _ z => ?_) ?_ ?_
          · obtain ⟨_, _, _, _, _, _, sx⟩ := z
            exact (hpd.mono (tk_same sx)).sq
          · rintro s x σ Hx Hy hs ⟨y10, y13, y14, y15, y16, rfl, sx⟩ ⟨rfl, hxs⟩
            obtain ⟨r, hr1, ir1⟩ := all_get (ImAll.mono (tk_same sx) _ hdx) hxs
            have hrm := List.mem_of_getElem? hr1
            obtain ⟨pq, z1, z2, z3, rfl, hpq, iz1, iz2, iz3⟩ := im_trip ir1
            obtain rfl := iz1.str_inv
            obtain rfl := iz2.str_inv
            refine ⟨pq, _, rfl, hpq.sq, rfl, .str r.1, _, rfl, .str r.2.1, _, rfl, z3, _, rfl, rfl, ?_⟩
            refine ⟨.ref pr, rfl, pr, rx, rfl, .inr (hpr.mono (tk_same sx)).sq, (rx.length : Nat), rfl, by omega, by omega, ?_⟩
            refine for_it (walk_range (lo := 0) (n := ((rx.length : Nat) : Int).toNat)) (fun t σ Hz => ∃ (y15 y16 : Option V), σ = [some (.ref a), some (.int (i : Nat)), some (.ref c), some (.ref pk), some (.ref p1), some (.ref pr), some (.ref L), some (.ref d), y8, y9, some (.str r.2.1), y11, y12, some (.str r.1), some z3, y15, y16, y17, y18, y19, y20, y21] ∧ Same Hy Hz) ⟨_, _, rfl, Same.refl _⟩ (fun _ _ _ _ _ => trivial) ?_ ?_
            · rintro t x σ Hz Hw ht ⟨y15, y16, rfl, sz'⟩ ⟨rfl, rfl⟩
              rw [Int.toNat_natCast] at ht
              show gName 15 (V.int ((0 : Int) + (t : Nat))) _ _ _
              rw [show (0 : Int) + (t : Nat) = (t : Nat) by omega]
              obtain ⟨rw', ii, jj, kd', m', vec, hrw, at', hv, nj⟩ := num_job d1 sm rg.rs (by omega) (show t < rows.length by omega) hrm
              have sxz := sx.trans sz'
              refine ⟨by show 1 ≤ sizeLine; decide, fun Z hZ => ?_⟩
              have sZ := same_new (o := .tup [V.str "rows"]) hZ
              have iZ : Im K (upd Hw Z (.tup [V.str "rows"])) (.ref Z) (wordD "rows") := .tup (.inl upd_same) (.cons (.str _) .nil)
              have sG := sxz.trans sZ
              have szZ := sz'.trans sZ
              generalize upd Hw Z (.tup [V.str "rows"]) = G1 at *
              refine ⟨fun σ' H' => ∃ pu : Addr, σ' = [some (.ref a), some (.int (i : Nat)), some (.ref c), some (.ref pk), some (.ref p1), some (.ref pr), some (.ref L), some (.ref d), y8, y9, some (.str r.2.1), y11, y12, some (.str r.1), some z3, some (.int (t : Nat)), some (.ref pu), y17, y18, y19, y20, y21] ∧ Same G1 H' ∧ (kd'.1 ≠ r.2.1 → Im K H' (.ref pu) (wordD "rows")) ∧ (kd'.1 = r.2.1 → Im K H' (.ref pu) (rD (dot r.2.2 vec))), ?_, ?_⟩
              · obtain ⟨xw, exw, ixw⟩ := all_at (ImAll.mono (tk_same sG) _ hrx) hrw
                obtain ⟨pw, v1, v2, rfl, hpw, iv1, iv2⟩ := im_pair ixw
                obtain rfl := iv1.str_inv
                obtain ⟨vt, gt, it⟩ := tg_get (tb.same sG) ok at'.hk at'.hm
                have it' : Im K G1 vt (.str kd'.1) := it
                obtain rfl := it'.str_inv
                rw [← at'.nm] at gt
                refine ⟨.ref d, rfl, .ref pr, rfl, .int (t : Nat), rfl, pr, rx, _, .ref pw, rfl, rfl, (hpr.mono (tk_same sG)).sq, atI_nat exw, pw, _, 0, _, rfl, rfl, hpw.sq, atI_nat (j := 0) rfl, d, _, rfl, gt, .str r.2.1, rfl, rfl, _, rfl, ?_⟩
                rw [dec_str]
                by_cases e : kd'.1 = r.2.1
                · rw [decide_eq_true e]
                  obtain ⟨xv, exv, ixv⟩ := all_at (ImAll.mono (tk_same sG) _ iL') hv
                  exact iteT ⟨z3, rfl, .ref L, rfl, .int (t : Nat), rfl, L, ws, _, xv, rfl, rfl, .of (sG _ _ eL'), atI_nat exv, z3, xv, r.2.2, vec, rfl, Im.mono (tk_same szZ) _ iz3, ixv, nj.dot e, fun p2 G2 g2 ip2 => ⟨p2, rfl, g2, fun ne => absurd e ne, fun _ => ip2⟩⟩
                · rw [decide_eq_false e]
                  exact iteF ⟨Z, rfl, Same.refl _, fun _ => iZ, fun e' => absurd e' e⟩
              · rintro σ' G2 ⟨pu, rfl, g2, iu1, iu2⟩
                have sG2 := sG.trans g2
                refine ⟨.ref p1, rfl, .str r.1, rfl, .ref pr, rfl, .int (t : Nat), rfl, _, _, rfl, rfl, ((t + 1 : Nat) : Int), congrArg V.int (show ((t : Nat) : Int) + 1 = ((t + 1 : Nat) : Int) by omega), ?_⟩
                refine sl_any (hpr.mono (tk_same sG2)) fun ps G3 g3 ips => ?_
                rw [cut_take (by omega)] at ips
                have sG3 := sG2.trans g3
                have irs : Im K G3 (.ref ps) (rwsD (rows.take (t + 1))) := .tup ips (all_take (ImAll.mono (tk_same sG3) _ hrx))
                exact ⟨.ref p1, .str r.1, .ref ps, F1, rfl, Im.mono (tk_same sG3) _ i17, d1.ok, .inr ⟨rows.take (t + 1), r, kd'.1, vec, rfl, irs, nj,
                  fun ne p2 G4 g4 i4 => ⟨.ref pu, rfl, .ref p2, .ref pu, wordD "rows", rfl, i4, Im.mono (tk_same (g3.trans g4)) _ (iu1 ne), flW _, fun G5 g5 => ⟨true, rfl, iteF ⟨_, _, rfl, (((szZ.trans g2).trans g3).trans g4).trans g5⟩⟩⟩,
                  fun e p2 G4 g4 i4 => ⟨.ref pu, rfl, .ref p2, .ref pu, rD (dot r.2.2 vec), rfl, i4, Im.mono (tk_same (g3.trans g4)) _ (iu2 e), flR _, fun G5 g5 => ⟨true, rfl, iteF ⟨_, _, rfl, (((szZ.trans g2).trans g3).trans g4).trans g5⟩⟩⟩⟩⟩
            · rintro σ Hz ⟨y15, y16, rfl, sz'⟩
              have sG := sx.trans sz'
              obtain ⟨t, ht⟩ : ∃ t, rows.length = t + 1 := ⟨rows.length - 1, by omega⟩
              obtain ⟨rw', ii, jj, kd', m', vec, hrw, at', hv, nj⟩ := num_job d1 sm rg.rs (by omega) (show t < rows.length by omega) hrm
              rw [List.take_of_length_le (by omega)] at nj
              obtain ⟨xw, exw, ixw⟩ := all_at (ImAll.mono (tk_same sG) _ hrx) hrw
              obtain ⟨pw, v1, v2, rfl, hpw, iv1, iv2⟩ := im_pair ixw
              obtain rfl := iv1.str_inv
              obtain ⟨vt, gt, it⟩ := tg_get (tb.same sG) ok at'.hk at'.hm
              have it' : Im K Hz vt (.str kd'.1) := it
              obtain rfl := it'.str_inv
              rw [← at'.nm] at gt
              refine ⟨.ref d, rfl, .ref pr, rfl, _, rfl, pr, rx, _, .ref pw, rfl, rfl, (hpr.mono (tk_same sG)).sq, atI_end (n := t) (by omega) exw, pw, _, 0, _, rfl, rfl, hpw.sq, atI_nat (j := 0) rfl, d, _, rfl, gt, .str r.2.1, rfl, rfl, _, rfl, ?_⟩
              rw [dec_str]
              by_cases e : kd'.1 = r.2.1
              · rw [decide_eq_true e]
                obtain ⟨xv, exv, ixv⟩ := all_at (ImAll.mono (tk_same sG) _ iL') hv
                refine iteT ⟨.ref pr, rfl, .str r.1, rfl, .ref p1, rfl, .ref p1, .str r.1, .ref pr, F1, rfl, Im.mono (tk_same sG) _ i17, d1.ok, .inr ⟨rows, r, kd'.1, vec, rfl, Im.mono (tk_same sG) _ iPr, nj, fun ne => absurd e ne, fun _ p2 G2 g2 i2 => ?_⟩⟩
                have sG2 := sG.trans g2
                refine ⟨z3, rfl, .ref L, rfl, _, rfl, L, ws, _, xv, rfl, rfl, .of (sG2 _ _ eL'), atI_end (n := t) (by omega) exv, z3, xv, r.2.2, vec, rfl, Im.mono (tk_same (sz'.trans g2)) _ iz3, Im.mono (tk_same g2) _ ixv, nj.dot e, fun p3 G3 g3 i3 => ?_⟩
                exact ⟨.ref p2, .ref p3, rD (dot r.2.2 vec), rfl, Im.mono (tk_same g3) _ i2, i3, flR _, fun G4 g4 => ⟨true, rfl, iteF ⟨_, _, _, _, _, rfl, ((sG2.trans g3).trans g4)⟩⟩⟩
              · rw [decide_eq_false e]
                exact iteF ⟨_, _, _, _, _, rfl, sG⟩
          · rintro σ G1 ⟨y10, y13, y14, y15, y16, rfl, sx⟩
            -- the tall form
            have uT := uG.same sx
            have BT := BG.trans (but_same sx)
            refine ⟨.ref c, rfl, c, rfl, uT, fun pp pF pR many more F3 rows3 G2 u2' b2' ip iF iR m1 mm tf tr n1 n96 => ⟨pp, _, rfl, ip.sq, rfl, .ref pF, _, rfl, .ref pR, _, rfl, rfl, ?_⟩⟩
            obtain ⟨ro3, job3⟩ := tall_job m1 mm tf tr n1 n96
            refine ⟨.ref pF, rfl, .ref pR, rfl, .ref pF, .ref pR, F3, rows3, 1, rfl, iF, iR, tf.ok, ro3, job3, fun L3 ws3 G3 g3 hL3 eL3 iL3 => ?_⟩
            have lws3 : ws3.length = rows3.length := by rw [all_len iL3, vecsOf_len]
            obtain ⟨pR', rx3, epR, hpR, hrx3⟩ := iR.tuple_inv
            cases epR
            have lrx3 : rx3.length = rows3.length := all_len hrx3
            have u3' := u2'.same g3
            have B3 := (BT.trans b2').trans (but_same g3)
            have nL3c : L3 ≠ c := u2'.ne hL3
            replace hpR := hpR.mono (tk_same g3)
            replace hrx3 := ImAll.mono (tk_same g3) _ hrx3
            replace iF := Im.mono (tk_same g3) _ iF
            refine ⟨.ref pR, rfl, pR, rx3, rfl, .inr hpR.sq, _, _, rfl, rfl, .ref c, rfl, .ref pR, rfl, pR, rx3, rfl, .inr hpR.sq, c, ((rx3.length : Nat) : Int), rfl, u3', by omega, fun zz G4 zl u4' b4' => ⟨by show 2 ≤ sizeLine; decide, fun LL hLL => ⟨LL, rfl, ⟨_, .of upd_same⟩, ?_⟩⟩⟩
            have sLL := same_new (o := .lst [V.int (((rx3.length : Nat) : Int) - 1), .int (zz : Nat)]) hLL
            have eLL : (upd G4 LL (.lst [V.int (((rx3.length : Nat) : Int) - 1), .int (zz : Nat)])) LL = some (.lst [V.int (((rx3.length : Nat) : Int) - 1), .int (zz : Nat)]) := upd_same
            have b45 := b4'.trans (but_same sLL)
            have u5' := u4'.same sLL
            have t45 := b45.tk u3'
            generalize upd G4 LL (.lst [V.int (((rx3.length : Nat) : Int) - 1), .int (zz : Nat)]) = G5 at *
            replace hpR := hpR.mono t45
            replace hrx3 := ImAll.mono t45 _ hrx3
            replace iF := Im.mono t45 _ iF
            replace iL3 := ImAll.mono t45 _ iL3
            replace eL3 := b45 _ _ nL3c eL3
            have B5 := B3.trans b45
            have BG5 : But c G0 G5 := (((but_same sx).trans b2').trans (but_same g3)).trans b45
            clear hLL sLL t45 b45 b4' u4' u3' B3 BT g3 hL3 b2' u2'
            obtain ⟨pF', q1, q2, q3, q4, epF, hpF, iq1, iq2, iq3, iq4⟩ := im_quad iF
            cases epF
            obtain ⟨pT, tx, rfl, hpT, htx⟩ := iq4.tuple_inv
            refine for_it (walk_list (xs := [V.int (((rx3.length : Nat) : Int) - 1), .int (zz : Nat)])) (fun s σ Hx => ∃ (y10 y13 y14 y15 : Option V), σ = [some (.ref a), some (.int (i : Nat)), some (.ref c), some (.ref pk), some (.ref p1), some (.ref pr), some (.ref L3), some (.ref d), y8, y9, y10, y11, y12, y13, y14, y15, y16, some (.ref pF), some (.ref pR), y19, y20, y21] ∧ Same G5 Hx) ⟨_, _, _, _, rfl, Same.refl _⟩ (fun s σ Hx _ z => ?_) ?_ ?_
            · obtain ⟨_, _, _, _, _, sx⟩ := z
              exact .of (sx _ _ eLL)
            · rintro s x σ Hx Hy hs ⟨y10, y13, y14, y15, rfl, sx5⟩ ⟨rfl, hxs⟩
              obtain ⟨t, tl, rfl⟩ : ∃ t : Nat, t < rows3.length ∧ x = V.int (t : Nat) := by
                have hs2 : s = 0 ∨ s = 1 := by
                  have : s < 2 := hs
                  omega
                rcases hs2 with rfl | rfl
                · refine ⟨rx3.length - 1, by omega, ?_⟩
                  have : V.int (((rx3.length : Nat) : Int) - 1) = x := by simpa using hxs
                  rw [← this]
                  exact congrArg V.int (by omega)
                · refine ⟨zz, by omega, ?_⟩
                  have : V.int (zz : Nat) = x := by simpa using hxs
                  exact this.symm
              show gName 15 (V.int (t : Nat)) _ _ _
              refine ⟨.ref pF, rfl, pF, _, 3, _, rfl, rfl, (hpF.mono (tk_same sx5)).sq, atI_nat (j := 3) rfl, pT, rfl, ⟨_, (hpT.mono (tk_same sx5)).sq⟩, ?_⟩
              refine for_it (walk_tup (xs := tx)) (fun s σ Hz => ∃ (y10 y13 y14 : Option V), σ = [some (.ref a), some (.int (i : Nat)), some (.ref c), some (.ref pk), some (.ref p1), some (.ref pr), some (.ref L3), some (.ref d), y8, y9, y10, y11, y12, y13, y14, some (.int (t : Nat)), y16, some (.ref pF), some (.ref pR), y19, y20, y21] ∧ Same Hy Hz) ⟨_, _, _, rfl, Same.refl _⟩ (fun s σ Hz _ z => ?_) ?_ ?_
              · obtain ⟨_, _, _, _, sz'⟩ := z
                exact (hpT.mono (tk_same (sx5.trans sz'))).sq
              · rintro s2 x σ Hz Hw hs2 ⟨y10, y13, y14, rfl, sz'⟩ ⟨rfl, hxs2⟩
                have sG := sx5.trans sz'
                obtain ⟨r, hr1, ir1⟩ := all_get (ImAll.mono (tk_same sG) _ htx) hxs2
                have hrm := List.mem_of_getElem? hr1
                obtain ⟨pq, z1, z2, z3, rfl, hpq, iz1, iz2, iz3⟩ := im_trip ir1
                obtain rfl := iz1.str_inv
                obtain rfl := iz2.str_inv
                obtain ⟨rw', ii, jj, kd', m', vec, hrw, at', ek, hv, nj⟩ := tall_num m1 mm tf tr n96 tl hrm
                refine ⟨pq, _, rfl, hpq.sq, rfl, .str r.1, _, rfl, .str r.2.1, _, rfl, z3, _, rfl, rfl, ?_⟩
                refine ⟨.ref pF, rfl, .str r.1, rfl, .ref pR, rfl, .int (t : Nat), rfl, _, _, rfl, rfl, ((t + 1 : Nat) : Int), congrArg V.int (show ((t : Nat) : Int) + 1 = ((t + 1 : Nat) : Int) by omega), ?_⟩
                refine sl_any (hpR.mono (tk_same sG)) fun ps G6 g6 ips => ?_
                rw [cut_take (by omega)] at ips
                have sG6 := sG.trans g6
                have irs : Im K G6 (.ref ps) (rwsD (rows3.take (t + 1))) := .tup ips (all_take (ImAll.mono (tk_same sG6) _ hrx3))
                obtain ⟨xv, exv, ixv⟩ := all_at (ImAll.mono (tk_same sG6) _ iL3) hv
                refine ⟨.ref pF, .str r.1, .ref ps, F3, rfl, Im.mono (tk_same sG6) _ iF, tf.ok, .inr ⟨rows3.take (t + 1), r, kd'.1, vec, rfl, irs, nj, fun ne => absurd ek ne, fun _ p2 G7 g7 i7 => ?_⟩⟩
                have sG7 := sG6.trans g7
                refine ⟨z3, rfl, .ref L3, rfl, .int (t : Nat), rfl, L3, ws3, _, xv, rfl, rfl, .of (sG7 _ _ eL3), atI_nat exv, z3, xv, r.2.2, vec, rfl, Im.mono (tk_same (g6.trans g7)) _ iz3, Im.mono (tk_same g7) _ ixv, nj.dot ek, fun p3 G8 g8 i8 => ?_⟩
                exact ⟨.ref p2, .ref p3, rD (dot r.2.2 vec), rfl, Im.mono (tk_same g8) _ i7, i8, flR _, fun G9 g9 => ⟨true, rfl, iteF ⟨_, _, _, rfl, (((sz'.trans g6).trans g7).trans g8).trans g9⟩⟩⟩
              · rintro σ Hz ⟨y10, y13, y14, rfl, sz'⟩
                exact ⟨_, _, _, _, rfl, sx5.trans sz'⟩
            · rintro σ G6 ⟨y10, y13, y14, y15, rfl, sx5⟩
              -- odd names
              have BG6 : But c G0 G6 := BG5.trans (but_same sx5)
              have t6 := BG6.tk uG
              have u6' := u5'.same sx5
              have i16 := Im.mono t6 _ i17
              refine ⟨.ref c, rfl, .ref p1, rfl, .ref c, .ref p1, F1, rfl, i16, d1.ok, fun pO wo G7 g7 hO eO l1' l400 hodd => ?_⟩
              have u7' := u6'.same g7
              have nOc : pO ≠ c := u6'.ne hO
              have nxc : ∀ x ∈ wo, x ≠ V.ref c := fun x hx e => by
                have := (hodd x hx).1 c e
                obtain ⟨_, _, e2, _⟩ := u6'.ex
                rw [this] at e2; cases e2
              have i17' := Im.mono (tk_same g7) _ i16
              have hpr7 := hpr.mono (t6.trans (tk_same g7))
              refine ⟨3, rfl, by decide, by decide, ?_⟩
              refine for_it (walk_range (lo := 0) (n := (3 : Int).toNat)) (fun s σ Hx => ∃ (y13 y20 y21 : Option V), σ = [some (.ref a), some (.int (i : Nat)), some (.ref c), some (.ref pk), some (.ref p1), some (.ref pr), some (.ref L3), some (.ref d), y8, y9, y10, y11, y12, y13, y14, y15, y16, some (.ref pF), some (.ref pR), some (.ref pO), y20, y21] ∧ Sto Hx c ∧ But c G7 Hx) ⟨_, _, _, rfl, u7', But.refl _ _⟩ (fun _ _ _ _ _ => trivial) ?_ ?_
              · rintro s x σ Hx Hy hs ⟨y13, y20, y21, rfl, ux, bx⟩ ⟨rfl, rfl⟩
                refine ⟨.ref pO, rfl, .ref c, rfl, .ref pO, rfl, pO, wo, rfl, .inl (.of (bx _ _ nOc eO)), c, ((wo.length : Nat) : Int), rfl, ux, by omega, fun zo G8 zl u8' b8' => ?_⟩
                have hzo := List.getElem?_eq_getElem (show zo < wo.length by omega)
                have hmo := List.getElem_mem (show zo < wo.length by omega)
                generalize wo[zo]'(by omega) = xo at hzo hmo
                have bx8 := bx.trans b8'
                have ov := oddV_but (hodd xo hmo).2 (nxc xo hmo) bx8
                refine ⟨pO, wo, _, xo, rfl, rfl, .of (bx8 _ _ nOc eO), atI_nat hzo, ?_⟩
                refine ⟨.ref pr, rfl, by show 0 ≤ sizeLine; decide, fun E1 hE1 => ⟨by show 3 ≤ sizeLine; decide, fun LT hLT => ⟨LT, rfl, ⟨_, .of upd_same⟩, ?_⟩⟩⟩
                have sE1 := same_new (o := .tup []) hE1
                have sLT := same_new (o := .lst [V.ref pr, .ref E1, .non]) hLT
                have eLT : (upd (upd G8 E1 (.tup [])) LT (.lst [V.ref pr, .ref E1, .non])) LT = some (.lst [V.ref pr, .ref E1, .non]) := upd_same
                have s89 := sE1.trans sLT
                generalize upd (upd G8 E1 (.tup [])) LT (.lst [V.ref pr, .ref E1, .non]) = G9 at *
                have b9 := bx8.trans (but_same s89)
                have i19 := Im.mono (b9.tk u7') _ i17'
                have ov9 := ov.same s89
                refine for_it (walk_list (xs := [V.ref pr, .ref E1, .non])) (fun t σ Hz => ∃ (y21 : Option V), σ = [some (.ref a), some (.int (i : Nat)), some (.ref c), some (.ref pk), some (.ref p1), some (.ref pr), some (.ref L3), some (.ref d), y8, y9, y10, y11, y12, some xo, y14, y15, y16, some (.ref pF), some (.ref pR), some (.ref pO), some (.int ((0 : Int) + (s : Nat))), y21] ∧ Same G9 Hz) ⟨_, rfl, Same.refl _⟩ (fun t σ Hz _ z => ?_) ?_ ?_
                · obtain ⟨_, _, sz'⟩ := z
                  exact .of (sz' _ _ eLT)
                · rintro t x σ Hz Hw ht ⟨y21, rfl, sz'⟩ ⟨rfl, hxt⟩
                  refine ⟨.ref p1, rfl, xo, rfl, x, rfl, .ref p1, xo, x, F1, rfl, Im.mono (tk_same sz') _ i19, d1.ok, .inl ⟨ov9.same sz', fun p2 GA ga ia => ⟨by show 1 ≤ sizeLine; decide, fun T2 hT2 => ?_⟩⟩⟩
                  have sT2 := same_new (o := .tup [V.str "name"]) hT2
                  refine ⟨wordD "name", wordD "name", Im.dp _ (Im.mono (tk_same sT2) _ ia), Im.dp _ (.tup (.inl upd_same) (.cons (.str _) .nil)), by decide +kernel, by decide +kernel, _, rfl, ?_⟩
                  rw [show (!PyData.eqv (wordD "name") (wordD "name")) = false from by decide +kernel]
                  exact iteF ⟨_, rfl, (sz'.trans ga).trans sT2⟩
                · rintro σ Hz ⟨y21, rfl, sz'⟩
                  exact ⟨_, _, _, rfl, (u8'.same s89).same sz', b9.trans (but_same sz')⟩
              · rintro σ Hx ⟨y13, y20, y21, rfl, ux, bx⟩
                refine ⟨_, _, _, _, _, _, _, _, _, _, _, _, _, _, _, _, _, _, _, _, _, rfl, ?_⟩
                exact (((BG.trans BG6).trans (but_same g7)).trans bx).back sa (sa.free fc0)
    · rintro σ Ha ⟨y1, y2, y3, y4, y5, y6, y7, y8, y9, y10, y11, y12, y13, y14, y15, y16, y17, y18, y19, y20, y21, rfl, sa⟩
      exact q Ha
end
end K63

set_option Elab.async false
set_option linter.all false
set_option maxRecDepth 100000
namespace K63
open PySem PySem.Spec PyProof.Rows L2 Ly Mt
theorem int_mk {K : PySem.W.Frag} {h : Heap} {mg : Str → Option Value} (X : K.In h) (G : h.Ns mainGlobals mg) {x : Str} {i : Int} {t : Tok} (a : PySem.W.nsIn K mainGlobals x = some (some (.int i t))) : ∃ u, mg x = some u ∧ L2.RelV (.int i) u := ⟨_, PySem.W.mg_of X G a, ⟨_, rfl⟩⟩
theorem str_mk {K : PySem.W.Frag} {h : Heap} {mg : Str → Option Value} (X : K.In h) (G : h.Ns mainGlobals mg) {x z : Str} {t : Tok} (a : PySem.W.nsIn K mainGlobals x = some (some (.str z t))) : ∃ u, mg x = some u ∧ L2.RelV (.str z) u := ⟨_, PySem.W.mg_of X G a, ⟨_, rfl⟩⟩
theorem strs_mk {K : PySem.W.Frag} {h : Heap} {mg : Str → Option Value} (X : K.In h) (G : h.Ns mainGlobals mg) {x : Str} {a : Addr} {i j k : Str} {t u v : Tok} {dd : Option Addr} {n : Nat} {sl : Array (Option Value)}
    (e : PySem.W.nsIn K mainGlobals x = some (some (.ref a))) (l : K.lookup a = some ⟨.type "tuple", dd, .seq #[.str i t, .str j u, .str k v] n, sl⟩) : ∃ a, mg x = some (.ref a) ∧ ∀ H, ITup K H a [.str i, .str j, .str k] :=
  ⟨a, PySem.W.mg_of X G e, fun _ => .inr ⟨_, _, _, l, rfl, rfl, by show 3 ≤ sizeLine; decide, .cons ⟨_, rfl⟩ (.cons ⟨_, rfl⟩ (.cons ⟨_, rfl⟩ .nil))⟩⟩
theorem kit_own {K : PySem.W.Frag} {D C : Addr} {b : Bool} (hn : (Value.ref D == Value.ref C) = false) (hdct : PySem.W.hasDictIn K C = true) (ht : PySem.W.typeIn K (.ref C) = some (.type "type")) (h4 : PySem.W.subIn K (.ref D) (.ref C) = some b) : PySem.W.kitOne K (.ref D) (.ref C) = some b := by
  unfold PySem.W.kitOne
  rw [hn]
  obtain ⟨cd, hc, _⟩ := PySem.W.any_some hdct
  show (if ((PySem.W.clsIn K C).isSome && PySem.W.typeIn K (.ref C) == some (.type "type")) = true then PySem.W.subIn K (.ref D) (.ref C) else none) = some b
  rw [if_pos (by rw [hc, ht] <;> rfl)]
  exact h4
theorem kit_self {K : PySem.W.Frag} {D : Addr} (hn : (Value.ref D == Value.ref D) = true) : PySem.W.kitOne K (.ref D) (.ref D) = some true := by
  unfold PySem.W.kitOne
  rw [if_pos hn]
theorem law_cells {ns : List Int} (h : ∀ z ∈ ns, Builtin.Int.intBits z ≤ 1048576) : ∀ c ∈ ns, Cell c := fun c hc => ⟨1048576, by decide, PySem.intBits_le_iff.mp (h c hc)⟩
structure Te (K : PySem.W.Frag) (mg : Str → Option Value) (bt br bf bn : Addr) : Prop where
  g_TreeError : mg "TreeError" = some (.ref bt)
  x_TreeError : PySem.W.excIn K bt [.type "ValueError", .type "Exception", .type "BaseException", .type "object"] "ValueError.__new__" = true
  k_TreeError : PySem.W.keepIn K (.ref bt) = true
  b_TreeError : PySem.W.subIn K (.ref bt) (.type "BaseException") = some true
  t_TreeError : PySem.W.typeIn K (.ref bt) = some (.type "type")
  g_BadRows : mg "BadRows" = some (.ref br)
  x_BadRows : PySem.W.excIn K br [.type "ValueError", .type "Exception", .type "BaseException", .type "object"] "ValueError.__new__" = true
  k_BadRows : PySem.W.keepIn K (.ref br) = true
  b_BadRows : PySem.W.subIn K (.ref br) (.type "BaseException") = some true
  t_BadRows : PySem.W.typeIn K (.ref br) = some (.type "type")
  e_rn : PySem.W.exmOne K (.ref br) (.ref bn) = some false
  e_rr : PySem.W.exmOne K (.ref br) (.ref br) = some true
  g_BadForm : mg "BadForm" = some (.ref bf)
  x_BadForm : PySem.W.excIn K bf [.type "ValueError", .type "Exception", .type "BaseException", .type "object"] "ValueError.__new__" = true
  k_BadForm : PySem.W.keepIn K (.ref bf) = true
  b_BadForm : PySem.W.subIn K (.ref bf) (.type "BaseException") = some true
  t_BadForm : PySem.W.typeIn K (.ref bf) = some (.type "type")
  g_BadName : mg "BadName" = some (.ref bn)
  x_BadName : PySem.W.excIn K bn [.type "ValueError", .type "Exception", .type "BaseException", .type "object"] "ValueError.__new__" = true
  k_BadName : PySem.W.keepIn K (.ref bn) = true
  b_BadName : PySem.W.subIn K (.ref bn) (.type "BaseException") = some true
  t_BadName : PySem.W.typeIn K (.ref bn) = some (.type "type")
  e_nn : PySem.W.exmOne K (.ref bn) (.ref bn) = some true
theorem Te.tr {K : PySem.W.Frag} {mg : Str → Option Value} {bt br bf bn : Addr} (h : Te K mg bt br bf bn) : Tr K mg ⟨bt, br, bf, bn⟩ := ⟨h.g_TreeError, h.x_TreeError, h.k_TreeError, h.b_TreeError, h.t_TreeError, h.g_BadRows, h.x_BadRows, h.k_BadRows, h.b_BadRows, h.t_BadRows, h.e_rn, h.e_rr, h.g_BadForm, h.x_BadForm, h.k_BadForm, h.b_BadForm, h.t_BadForm, h.g_BadName, h.x_BadName, h.k_BadName, h.b_BadName, h.t_BadName, h.e_nn⟩
set_option maxHeartbeats 0 in
theorem all_mk {l : PySem.W.OpenLaw} {w : World} {K : PySem.W.Frag} {mg : Str → Option Value} {fa bt br bf bn : Addr} (hfa : mg "law" = some (.ref fa)) (T : Tx K mg) (TE0 : Te K mg bt br bf bn)
    (h_is_int : Here K mg "is_int" s_is_int) (h_within : Here K mg "within" s_within) (h_is_pair : Here K mg "is_pair" s_is_pair) (h_is_row : Here K mg "is_row" s_is_row) (h_is_name : Here K mg "is_name" s_is_name) (h_is_low : Here K mg "is_low" s_is_low) (h_is_high : Here K mg "is_high" s_is_high) (h_all_unlike : Here K mg "all_unlike" s_all_unlike) (h_is_ratio : Here K mg "is_ratio" s_is_ratio) (h_made : Here K mg "made" s_made) (h_whole : Here K mg "whole" s_whole) (h_plus : Here K mg "plus" s_plus) (h_times : Here K mg "times" s_times) (h_product_of : Here K mg "product_of" s_product_of) (h_is_kinds : Here K mg "is_kinds" s_is_kinds) (h_maker_table : Here K mg "maker_table" s_maker_table) (h_is_entry : Here K mg "is_entry" s_is_entry) (h_rows_fit : Here K mg "rows_fit" s_rows_fit) (h_need_rows : Here K mg "need_rows" s_need_rows) (h_is_vector_of : Here K mg "is_vector_of" s_is_vector_of) (h_are_dims : Here K mg "are_dims" s_are_dims) (h_is_term : Here K mg "is_term" s_is_term) (h_are_terms : Here K mg "are_terms" s_are_terms) (h_are_reads : Here K mg "are_reads" s_are_reads) (h_are_maps : Here K mg "are_maps" s_are_maps) (h_has_form : Here K mg "has_form" s_has_form) (h_widths_of : Here K mg "widths_of" s_widths_of) (h_need_form : Here K mg "need_form" s_need_form) (h_vector_over : Here K mg "vector_over" s_vector_over) (h_vecs_of : Here K mg "vecs_of" s_vecs_of) (h_read_named : Here K mg "read_named" s_read_named) (h_number : Here K mg "number" s_number) (h__law_store : Here K mg "_law_store" s__law_store) (h__law_pick : Here K mg "_law_pick" s__law_pick) (h__law_ratio : Here K mg "_law_ratio" s__law_ratio) (h__law_plus : Here K mg "_law_plus" s__law_plus) (h__law_times : Here K mg "_law_times" s__law_times) (h__law_same : Here K mg "_law_same" s__law_same) (h__law_kinds : Here K mg "_law_kinds" s__law_kinds) (h__law_makers : Here K mg "_law_makers" s__law_makers) (h__law_rows : Here K mg "_law_rows" s__law_rows) (h__law_weight : Here K mg "_law_weight" s__law_weight) (h__law_vector : Here K mg "_law_vector" s__law_vector) (h__law_form : Here K mg "_law_form" s__law_form) (h__law_vectors : Here K mg "_law_vectors" s__law_vectors) (h__law_dot : Here K mg "_law_dot" s__law_dot) (h__law_told : Here K mg "_law_told" s__law_told) (h__law_odd_names : Here K mg "_law_odd_names" s__law_odd_names) (h__law_tall : Here K mg "_law_tall" s__law_tall) (h_law : Here K mg "law" s_law) :
    ∃ fd : FuncData, (∀ (s : Shared) (v : Value), BindsTo s fd ⟨[v], []⟩ [("script", v)]) ∧ ∀ base : Heap, K.In base → base.Ns mainGlobals mg → FnOk l.prog w K mg base CX0 20 fa fd ["script"] (sp_law K) := by
  obtain ⟨f, fd, hm, F⟩ := h_law
  have e : f = fa := by
    have := hm.symm.trans hfa
    injection this with e1
    injection e1
  subst e
  have TE : Tr K mg ⟨bt, br, bf, bn⟩ := TE0.tr
  refine ⟨fd, fun s v => ?_, fun base _ _ => ?_⟩
  · obtain ⟨oc, od, kV, doc, pm, an, cdv, ct, osl, rfl, lk, hcd⟩ := F.ex
    exact .of_eq rfl
  have D__law_store : Def l.prog w K mg base 1 "_law_store" s__law_store ["cells", "lot", "many"] (sp_store K) := h__law_store.toDef (fun F => ok__law_store F T) fun _ _ _ _ _ _ us hl => match us, hl with | [_, _, _], _ => rfl
  have D__law_pick : Def l.prog w K mg base 1 "_law_pick" s__law_pick ["store", "many"] sp_pick := h__law_pick.toDef (fun F => ok__law_pick F T) fun _ _ _ _ _ _ us hl => match us, hl with | [_, _], _ => rfl
  have D__law_kinds : Def l.prog w K mg base 2 "_law_kinds" s__law_kinds ["store", "most"] (sp_kinds K) := h__law_kinds.toDef (fun F => ok__law_kinds F T D__law_pick (by decide)) fun _ _ _ _ _ _ us hl => match us, hl with | [_, _], _ => rfl
  have D__law_weight : Def l.prog w K mg base 2 "_law_weight" s__law_weight ["store"] (sp_weight K) := h__law_weight.toDef (fun F => ok__law_weight F T D__law_pick (by decide)) fun _ _ _ _ _ _ us hl => match us, hl with | [_], _ => rfl
  have D__law_vector : Def l.prog w K mg base 3 "_law_vector" s__law_vector ["store", "size"] (sp_vector K) := h__law_vector.toDef (fun F => ok__law_vector F T D__law_pick D__law_weight (by decide) (by decide)) fun _ _ _ _ _ _ us hl => match us, hl with | [_, _], _ => rfl
  have D__law_form : Def l.prog w K mg base 4 "_law_form" s__law_form ["store", "kinds", "most", "wide"] (sp_lform K) := h__law_form.toDef (fun F => ok__law_form F T D__law_pick D__law_weight D__law_vector (by decide) (by decide) (by decide)) fun _ _ _ _ _ _ us hl => match us, hl with | [_, _, _, _], _ => rfl
  have D__law_makers : Def l.prog w K mg base 1 "_law_makers" s__law_makers ["kinds"] (sp_makers K) := h__law_makers.toDef (fun F => ok__law_makers F T) fun _ _ _ _ _ _ us hl => match us, hl with | [_], _ => rfl
  have D__law_rows : Def l.prog w K mg base 2 "_law_rows" s__law_rows ["store", "kinds", "many"] (sp_lrows K) := h__law_rows.toDef (fun F => ok__law_rows F T D__law_pick D__law_makers (by decide) (by decide)) fun _ _ _ _ _ _ us hl => match us, hl with | [_, _, _], _ => rfl
  have D__law_ratio : Def l.prog w K mg base 1 "_law_ratio" s__law_ratio ["top", "bottom"] (sp_ratio K) := h__law_ratio.toDef (fun F => ok__law_ratio F T) fun _ _ _ _ _ _ us hl => match us, hl with | [_, _], _ => rfl
  have D__law_plus : Def l.prog w K mg base 2 "_law_plus" s__law_plus ["one", "other"] (sp_lplus K) := h__law_plus.toDef (fun F => ok__law_plus F T D__law_ratio (by decide)) fun _ _ _ _ _ _ us hl => match us, hl with | [_, _], _ => rfl
  have D__law_times : Def l.prog w K mg base 2 "_law_times" s__law_times ["one", "other"] (sp_ltimes K) := h__law_times.toDef (fun F => ok__law_times F T D__law_ratio (by decide)) fun _ _ _ _ _ _ us hl => match us, hl with | [_, _], _ => rfl
  have D__law_vectors : Def l.prog w K mg base 3 "_law_vectors" s__law_vectors ["form", "rows"] (sp_lvectors K) := h__law_vectors.toDef (fun F => ok__law_vectors F T D__law_makers D__law_plus D__law_times (by decide) (by decide) (by decide)) fun _ _ _ _ _ _ us hl => match us, hl with | [_, _], _ => rfl
  have D_is_row : Def l.prog w K mg base 1 "is_row" s_is_row ["thing", "low", "high"] (sp_is_row K) := h_is_row.toDef (fun F => ok_is_row F T) fun _ _ _ _ _ _ us hl => match us, hl with | [_, _, _], _ => rfl
  have D_is_pair : Def l.prog w K mg base 1 "is_pair" s_is_pair ["thing"] (sp_is_pair K) := h_is_pair.toDef (fun F => ok_is_pair F T) fun _ _ _ _ _ _ us hl => match us, hl with | [_], _ => rfl
  have D_is_name : Def l.prog w K mg base 1 "is_name" s_is_name ["thing"] sp_is_name := h_is_name.toDef (fun F => ok_is_name F T) fun _ _ _ _ _ _ us hl => match us, hl with | [_], _ => rfl
  have D_is_high : Def l.prog w K mg base 2 "is_high" s_is_high ["thing"] sp_is_high := h_is_high.toDef (fun F => ok_is_high F T D_is_name (by decide)) fun _ _ _ _ _ _ us hl => match us, hl with | [_], _ => rfl
  have D_all_unlike : Def l.prog w K mg base 1 "all_unlike" s_all_unlike ["names"] (sp_unlike K) := h_all_unlike.toDef (fun F => ok_all_unlike F T) fun _ _ _ _ _ _ us hl => match us, hl with | [_], _ => rfl
  have D_is_kinds : Def l.prog w K mg base 3 "is_kinds" s_is_kinds ["thing"] (sp_is_kinds K) := h_is_kinds.toDef (fun F => ok_is_kinds F T D_is_row D_is_pair D_is_high D_all_unlike (by decide) (by decide) (by decide) (by decide)) fun _ _ _ _ _ _ us hl => match us, hl with | [_], _ => rfl
  have D_is_int : Def l.prog w K mg base 1 "is_int" s_is_int ["thing"] (sp_is_int K) := h_is_int.toDef (fun F => ok_is_int F T) fun _ _ _ _ _ _ us hl => match us, hl with | [_], _ => rfl
  have D_within : Def l.prog w K mg base 2 "within" s_within ["thing", "low", "high"] (sp_within K) := h_within.toDef (fun F => ok_within F T D_is_int (by decide)) fun _ _ _ _ _ _ us hl => match us, hl with | [_, _, _], _ => rfl
  have D_are_dims : Def l.prog w K mg base 3 "are_dims" s_are_dims ["thing", "size", "wide"] (sp_dims K) := h_are_dims.toDef (fun F => ok_are_dims F T D_is_row D_within (by decide) (by decide)) fun _ _ _ _ _ _ us hl => match us, hl with | [_, _, _], _ => rfl
  have D_maker_table : Def l.prog w K mg base 1 "maker_table" s_maker_table ["kinds"] (sp_maker_table K) := h_maker_table.toDef (fun F => ok_maker_table F T) fun _ _ _ _ _ _ us hl => match us, hl with | [_], _ => rfl
  have D_is_ratio : Def l.prog w K mg base 2 "is_ratio" s_is_ratio ["thing"] (sp_is_ratio K) := h_is_ratio.toDef (fun F => ok_is_ratio F T D_is_pair D_is_int (by decide)) fun _ _ _ _ _ _ us hl => match us, hl with | [_], _ => rfl
  have D_is_term : Def l.prog w K mg base 3 "is_term" s_is_term ["thing", "dim", "widths"] (sp_term K) := h_is_term.toDef (fun F => ok_is_term F T D_is_row D_within D_is_ratio (by decide) (by decide) (by decide)) fun _ _ _ _ _ _ us hl => match us, hl with | [_, _, _], _ => rfl
  have D_are_terms : Def l.prog w K mg base 4 "are_terms" s_are_terms ["thing", "dim", "widths", "most"] (sp_terms K) := h_are_terms.toDef (fun F => ok_are_terms F T D_is_row D_is_term (by decide) (by decide)) fun _ _ _ _ _ _ us hl => match us, hl with | [_, _, _, _], _ => rfl
  have D_widths_of : Def l.prog w K mg base 1 "widths_of" s_widths_of ["fields", "dims"] (sp_widths K) := h_widths_of.toDef (fun F => ok_widths_of F T) fun _ _ _ _ _ _ us hl => match us, hl with | [_, _], _ => rfl
  have D_are_maps : Def l.prog w K mg base 5 "are_maps" s_are_maps ["thing", "kinds", "dims", "most"] (sp_maps K) := h_are_maps.toDef (fun F => ok_are_maps F T D_is_row D_maker_table D_are_terms D_widths_of (by decide) (by decide) (by decide) (by decide)) fun _ _ _ _ _ _ us hl => match us, hl with | [_, _, _, _], _ => rfl
  have D_is_vector_of : Def l.prog w K mg base 3 "is_vector_of" s_is_vector_of ["thing", "size"] (sp_vec_of K) := h_is_vector_of.toDef (fun F => ok_is_vector_of F T D_is_row D_is_ratio (by decide) (by decide)) fun _ _ _ _ _ _ us hl => match us, hl with | [_, _], _ => rfl
  have D_is_low : Def l.prog w K mg base 2 "is_low" s_is_low ["thing"] sp_is_low := h_is_low.toDef (fun F => ok_is_low F T D_is_name (by decide)) fun _ _ _ _ _ _ us hl => match us, hl with | [_], _ => rfl
  have D_are_reads : Def l.prog w K mg base 4 "are_reads" s_are_reads ["thing", "kinds", "dims"] (sp_reads K) := h_are_reads.toDef (fun F => ok_are_reads F T D_is_row D_is_vector_of D_is_low D_all_unlike (by decide) (by decide) (by decide) (by decide)) fun _ _ _ _ _ _ us hl => match us, hl with | [_, _, _], _ => rfl
  have D_has_form : Def l.prog w K mg base 6 "has_form" s_has_form ["thing", "wide"] (sp_has_form K) := h_has_form.toDef (fun F => ok_has_form F T D_is_row D_is_kinds D_are_dims D_are_maps D_are_reads (by decide) (by decide) (by decide) (by decide) (by decide)) fun _ _ _ _ _ _ us hl => match us, hl with | [_, _], _ => rfl
  have D_need_form : DefX l.prog w K mg base 7 "need_form" s_need_form ["form"] (sp_need_form K 1) := h_need_form.toDefX (fun F => ok_need_form F T TE D_has_form (by decide)) fun _ _ _ _ _ _ us hl => match us, hl with | [_], _ => rfl
  have D_read_named : DefX l.prog w K mg base 1 "read_named" s_read_named ["form", "name"] (sp_read_named K ⟨bt, br, bf, bn⟩) := h_read_named.toDefX (fun F => ok_read_named F T TE) fun _ _ _ _ _ _ us hl => match us, hl with | [_, _], _ => rfl
  have D_is_entry : Def l.prog w K mg base 2 "is_entry" s_is_entry ["table", "rows", "field", "entry", "at"] (sp_entry K) := h_is_entry.toDef (fun F => ok_is_entry F T D_is_int (by decide)) fun _ _ _ _ _ _ us hl => match us, hl with | [_, _, _, _, _], _ => rfl
  have D_rows_fit : Def l.prog w K mg base 3 "rows_fit" s_rows_fit ["table", "thing"] (sp_rows_fit K) := h_rows_fit.toDef (fun F => ok_rows_fit F T D_is_row D_is_pair D_is_entry (by decide) (by decide) (by decide)) fun _ _ _ _ _ _ us hl => match us, hl with | [_, _], _ => rfl
  have D_need_rows : DefX l.prog w K mg base 4 "need_rows" s_need_rows ["kinds", "rows"] (sp_need_rows K) := h_need_rows.toDefX (fun F => ok_need_rows F T TE D_rows_fit D_maker_table (by decide) (by decide)) fun _ _ _ _ _ _ us hl => match us, hl with | [_, _], _ => rfl
  have D_made : Def l.prog w K mg base 1 "made" s_made ["top", "bottom"] sp_made := h_made.toDef (fun F => ok_made F T) fun _ _ _ _ _ _ us hl => match us, hl with | [_, _], _ => rfl
  have D_plus : Def l.prog w K mg base 2 "plus" s_plus ["one", "other"] (sp_plus K) := h_plus.toDef (fun F => ok_plus F T D_made (by decide)) fun _ _ _ _ _ _ us hl => match us, hl with | [_, _], _ => rfl
  have D_times : Def l.prog w K mg base 2 "times" s_times ["one", "other"] (sp_times K) := h_times.toDef (fun F => ok_times F T D_made (by decide)) fun _ _ _ _ _ _ us hl => match us, hl with | [_, _], _ => rfl
  have D_product_of : Def l.prog w K mg base 3 "product_of" s_product_of ["one", "other"] (sp_pdot K) := h_product_of.toDef (fun F => ok_product_of F T D_plus D_times (by decide) (by decide)) fun _ _ _ _ _ _ us hl => match us, hl with | [_, _], _ => rfl
  have D_vector_over : Def l.prog w K mg base 3 "vector_over" s_vector_over ["form", "kind", "maker", "entries"] (sp_vover K) := h_vector_over.toDef (fun F => ok_vector_over F T D_times D_plus (by decide) (by decide)) fun _ _ _ _ _ _ us hl => match us, hl with | [_, _, _, _], _ => rfl
  have D_whole : Def l.prog w K mg base 1 "whole" s_whole ["number"] (sp_whole K) := h_whole.toDef (fun F => ok_whole F T) fun _ _ _ _ _ _ us hl => match us, hl with | [_], _ => rfl
  have D_vecs_of : Def l.prog w K mg base 4 "vecs_of" s_vecs_of ["form", "rows"] (sp_vecs K) := h_vecs_of.toDef (fun F => ok_vecs_of F T D_maker_table D_vector_over D_whole (by decide) (by decide) (by decide)) fun _ _ _ _ _ _ us hl => match us, hl with | [_, _], _ => rfl
  have D_number : DefX l.prog w K mg base 8 "number" s_number ["form", "name", "rows"] (sp_number K ⟨bt, br, bf, bn⟩) := h_number.toDefX (fun F => ok_number F T TE D_need_form D_read_named D_need_rows D_maker_table D_product_of D_vecs_of (by decide) (by decide) (by decide) (by decide) (by decide) (by decide)) fun _ _ _ _ _ _ us hl => match us, hl with | [_, _, _], _ => rfl
  have b__law_same : ∀ (kV doc pm : Value) (an : Option Addr) (cdv ct : Value) (us : List Value), us.length = (["found", "due"] : List Str).length → bindArgs (PySem.W.fnOf "_law_same" "_law_same" (defArgs s__law_same) (defBody s__law_same) (defScope s__law_same) .none kV doc pm an cdv ct) ⟨us, []⟩ = pure ((["found", "due"] : List Str).zip us) := fun _ _ _ _ _ _ us hl => match us, hl with | [_, _], _ => rfl
  have law_same_0 : Def l.prog w K mg base 1 "_law_same" s__law_same ["found", "due"] (sp_same K 0) := h__law_same.toDef (fun F => ok_same0 F) b__law_same
  have law_same_1 : Def l.prog w K mg base 2 "_law_same" s__law_same ["found", "due"] (sp_same K 1) := h__law_same.toDef (fun F => ok__law_same F T law_same_0 (by decide)) b__law_same
  have law_same_2 : Def l.prog w K mg base 3 "_law_same" s__law_same ["found", "due"] (sp_same K 2) := h__law_same.toDef (fun F => ok__law_same F T law_same_1 (by decide)) b__law_same
  have D__law_same : Def l.prog w K mg base 4 "_law_same" s__law_same ["found", "due"] (sp_same K 3) := h__law_same.toDef (fun F => ok__law_same F T law_same_2 (by decide)) b__law_same
  have D__law_told : Def l.prog w K mg base 9 "_law_told" s__law_told ["form", "name", "rows"] (sp_ltold K) := h__law_told.toDef (fun F => ok__law_told F T TE D_number (by decide)) fun _ _ _ _ _ _ us hl => match us, hl with | [_, _, _], _ => rfl
  have D__law_odd_names : Def l.prog w K mg base 1 "_law_odd_names" s__law_odd_names ["store", "form"] (sp_odd K) := h__law_odd_names.toDef (fun F => ok__law_odd_names F T) fun _ _ _ _ _ _ us hl => match us, hl with | [_, _], _ => rfl
  have D__law_tall : Def l.prog w K mg base 2 "_law_tall" s__law_tall ["store"] (sp_tall K) := h__law_tall.toDef (fun F => ok__law_tall F T D__law_pick (by decide)) fun _ _ _ _ _ _ us hl => match us, hl with | [_], _ => rfl
  have D__law_dot : Def l.prog w K mg base 3 "_law_dot" s__law_dot ["one", "other"] (sp_pdot K) := h__law_dot.toDef (fun F => ok__law_dot F T D__law_plus D__law_times (by decide) (by decide)) fun _ _ _ _ _ _ us hl => match us, hl with | [_, _], _ => rfl
  exact ok_law F T TE D__law_store D__law_kinds D__law_pick D__law_form D__law_rows D__law_vectors D_number D__law_same D__law_told D__law_odd_names D__law_tall D__law_makers D__law_dot (by decide) (by decide) (by decide) (by decide) (by decide) (by decide) (by decide) (by decide) (by decide) (by decide) (by decide) (by decide) (by decide)
end K63

set_option Elab.async false
set_option linter.all false
set_option maxRecDepth 100000
set_option pp.deepTerms false
set_option pp.deepTerms.threshold 3
open PySem PySem.W PyProof.Rows
set_option maxHeartbeats 0 in
theorem PySem.Challenge.cw_sameontrees_k16_numbers_that_reads_tell_holds : PySem.Challenge.rw_sameontrees_k16_numbers_that_reads_tell.Holds := by
  w_on; o_law; k_head; (case hw => w_witness2)
  k_fill
  refine L2.walk_ofB (l := PySem.Challenge.rw_sameontrees_k16_numbers_that_reads_tell) (n := 63) (k := 20) (x := "script") (CX := fun _ => L2.CX0) (sp := fun w => K63.sp_law _) rfl (by decide) rfl ⟨rfl, by decide, by decide⟩ (fun w h Y => PySem.W.kIn_of Y) ?F (fun _ _ a ns hl hb _ hS => ⟨a, ns, rfl, hS, hl, K63.law_cells hb, fun _ => rfl⟩) (fun _ _ _ _ _ h => h)
  case F =>
    intro w mg fa h KX G hmg
    refine' K63.all_mk hmg ⟨PySem.W.mg_none_of KX G ?z0, PySem.W.mg_none_of KX G ?z1, PySem.W.mg_none_of KX G ?z2, PySem.W.mg_none_of KX G ?z3, PySem.W.mg_none_of KX G ?z4, PySem.W.mg_none_of KX G ?z5, PySem.W.mg_none_of KX G ?z6, PySem.W.mg_none_of KX G ?z7, PySem.W.mg_none_of KX G ?z8, PySem.W.mg_none_of KX G ?z9, PySem.W.mg_none_of KX G ?z10, PySem.W.mg_none_of KX G ?z11, PySem.W.mg_none_of KX G ?z12, PySem.W.mg_none_of KX G ?z13, PySem.W.mg_none_of KX G ?z14, PySem.W.mg_none_of KX G ?z15, PySem.W.mg_none_of KX G ?z16, PySem.W.mg_of KX G ?g17, K63.int_mk KX G ?g18, K63.int_mk KX G ?g19, K63.int_mk KX G ?g20, K63.int_mk KX G ?g21, K63.int_mk KX G ?g22, K63.int_mk KX G ?g23, K63.int_mk KX G ?g24, K63.str_mk KX G ?g25, K63.str_mk KX G ?g26, K63.str_mk KX G ?g27, Ly.pair_mk KX G ?g28 ?h28, Ly.pair_mk KX G ?g29 ?h29, K63.strs_mk KX G ?g30 ?h30⟩ ⟨PySem.W.mg_of KX G ?ge_t, ?x_t, ?k_t, ?b_t, ?t_t, PySem.W.mg_of KX G ?ge_r, ?x_r, ?k_r, ?b_r, ?t_r, PySem.W.exm_ref ?eb_e_rn ?eh_e_rn ?et_e_rn ?es_e_rn, PySem.W.exm_ref ?eb_e_rr ?eh_e_rr ?et_e_rr ?es_e_rr, PySem.W.mg_of KX G ?ge_f, ?x_f, ?k_f, ?b_f, ?t_f, PySem.W.mg_of KX G ?ge_n, ?x_n, ?k_n, ?b_n, ?t_n, PySem.W.exm_ref ?eb_e_nn ?eh_e_nn ?et_e_nn ?es_e_nn⟩ (Ly.here KX G ?a0 ?l0 ?c0 ?k0) (Ly.here KX G ?a1 ?l1 ?c1 ?k1) (Ly.here KX G ?a2 ?l2 ?c2 ?k2) (Ly.here KX G ?a3 ?l3 ?c3 ?k3) (Ly.here KX G ?a4 ?l4 ?c4 ?k4) (Ly.here KX G ?a5 ?l5 ?c5 ?k5) (Ly.here KX G ?a6 ?l6 ?c6 ?k6) (Ly.here KX G ?a7 ?l7 ?c7 ?k7) (Ly.here KX G ?a8 ?l8 ?c8 ?k8) (Ly.here KX G ?a9 ?l9 ?c9 ?k9) (Ly.here KX G ?a10 ?l10 ?c10 ?k10) (Ly.here KX G ?a11 ?l11 ?c11 ?k11) (Ly.here KX G ?a12 ?l12 ?c12 ?k12) (Ly.here KX G ?a13 ?l13 ?c13 ?k13) (Ly.here KX G ?a14 ?l14 ?c14 ?k14) (Ly.here KX G ?a15 ?l15 ?c15 ?k15) (Ly.here KX G ?a16 ?l16 ?c16 ?k16) (Ly.here KX G ?a17 ?l17 ?c17 ?k17) (Ly.here KX G ?a18 ?l18 ?c18 ?k18) (Ly.here KX G ?a19 ?l19 ?c19 ?k19) (Ly.here KX G ?a20 ?l20 ?c20 ?k20) (Ly.here KX G ?a21 ?l21 ?c21 ?k21) (Ly.here KX G ?a22 ?l22 ?c22 ?k22) (Ly.here KX G ?a23 ?l23 ?c23 ?k23) (Ly.here KX G ?a24 ?l24 ?c24 ?k24) (Ly.here KX G ?a25 ?l25 ?c25 ?k25) (Ly.here KX G ?a26 ?l26 ?c26 ?k26) (Ly.here KX G ?a27 ?l27 ?c27 ?k27) (Ly.here KX G ?a28 ?l28 ?c28 ?k28) (Ly.here KX G ?a29 ?l29 ?c29 ?k29) (Ly.here KX G ?a30 ?l30 ?c30 ?k30) (Ly.here KX G ?a31 ?l31 ?c31 ?k31) (Ly.here KX G ?a32 ?l32 ?c32 ?k32) (Ly.here KX G ?a33 ?l33 ?c33 ?k33) (Ly.here KX G ?a34 ?l34 ?c34 ?k34) (Ly.here KX G ?a35 ?l35 ?c35 ?k35) (Ly.here KX G ?a36 ?l36 ?c36 ?k36) (Ly.here KX G ?a37 ?l37 ?c37 ?k37) (Ly.here KX G ?a38 ?l38 ?c38 ?k38) (Ly.here KX G ?a39 ?l39 ?c39 ?k39) (Ly.here KX G ?a40 ?l40 ?c40 ?k40) (Ly.here KX G ?a41 ?l41 ?c41 ?k41) (Ly.here KX G ?a42 ?l42 ?c42 ?k42) (Ly.here KX G ?a43 ?l43 ?c43 ?k43) (Ly.here KX G ?a44 ?l44 ?c44 ?k44) (Ly.here KX G ?a45 ?l45 ?c45 ?k45) (Ly.here KX G ?a46 ?l46 ?c46 ?k46) (Ly.here KX G ?a47 ?l47 ?c47 ?k47) (Ly.here KX G ?a48 ?l48 ?c48 ?k48) (Ly.here KX G ?a49 ?l49 ?c49 ?k49)
    (case ge_t => k_is)
    (case ge_r => k_is)
    (case ge_f => k_is)
    (case ge_n => k_is)
    (case a0 => k_is)
    (case l0 => k_is)
    (case c0 => k_is)
    (case k0 => k_is)
    (case a1 => k_is)
    (case l1 => k_is)
    (case c1 => k_is)
    (case k1 => k_is)
    (case a2 => k_is)
    (case l2 => k_is)
    (case c2 => k_is)
    (case k2 => k_is)
    (case a3 => k_is)
    (case l3 => k_is)
    (case c3 => k_is)
    (case k3 => k_is)
    (case a4 => k_is)
    (case l4 => k_is)
    (case c4 => k_is)
    (case k4 => k_is)
    (case a5 => k_is)
    (case l5 => k_is)
    (case c5 => k_is)
    (case k5 => k_is)
    (case a6 => k_is)
    (case l6 => k_is)
    (case c6 => k_is)
    (case k6 => k_is)
    (case a7 => k_is)
    (case l7 => k_is)
    (case c7 => k_is)
    (case k7 => k_is)
    (case a8 => k_is)
    (case l8 => k_is)
    (case c8 => k_is)
    (case k8 => k_is)
    (case a9 => k_is)
    (case l9 => k_is)
    (case c9 => k_is)
    (case k9 => k_is)
    (case a10 => k_is)
    (case l10 => k_is)
    (case c10 => k_is)
    (case k10 => k_is)
    (case a11 => k_is)
    (case l11 => k_is)
    (case c11 => k_is)
    (case k11 => k_is)
    (case a12 => k_is)
    (case l12 => k_is)
    (case c12 => k_is)
    (case k12 => k_is)
    (case a13 => k_is)
    (case l13 => k_is)
    (case c13 => k_is)
    (case k13 => k_is)
    (case a14 => k_is)
    (case l14 => k_is)
    (case c14 => k_is)
    (case k14 => k_is)
    (case a15 => k_is)
    (case l15 => k_is)
    (case c15 => k_is)
    (case k15 => k_is)
    (case a16 => k_is)
    (case l16 => k_is)
    (case c16 => k_is)
    (case k16 => k_is)
    (case a17 => k_is)
    (case l17 => k_is)
    (case c17 => k_is)
    (case k17 => k_is)
    (case a18 => k_is)
    (case l18 => k_is)
    (case c18 => k_is)
    (case k18 => k_is)
    (case a19 => k_is)
    (case l19 => k_is)
    (case c19 => k_is)
    (case k19 => k_is)
    (case a20 => k_is)
    (case l20 => k_is)
    (case c20 => k_is)
    (case k20 => k_is)
    (case a21 => k_is)
    (case l21 => k_is)
    (case c21 => k_is)
    (case k21 => k_is)
    (case a22 => k_is)
    (case l22 => k_is)
    (case c22 => k_is)
    (case k22 => k_is)
    (case a23 => k_is)
    (case l23 => k_is)
    (case c23 => k_is)
    (case k23 => k_is)
    (case a24 => k_is)
    (case l24 => k_is)
    (case c24 => k_is)
    (case k24 => k_is)
    (case a25 => k_is)
    (case l25 => k_is)
    (case c25 => k_is)
    (case k25 => k_is)
    (case a26 => k_is)
    (case l26 => k_is)
    (case c26 => k_is)
    (case k26 => k_is)
    (case a27 => k_is)
    (case l27 => k_is)
    (case c27 => k_is)
    (case k27 => k_is)
    (case a28 => k_is)
    (case l28 => k_is)
    (case c28 => k_is)
    (case k28 => k_is)
    (case a29 => k_is)
    (case l29 => k_is)
    (case c29 => k_is)
    (case k29 => k_is)
    (case a30 => k_is)
    (case l30 => k_is)
    (case c30 => k_is)
    (case k30 => k_is)
    (case a31 => k_is)
    (case l31 => k_is)
    (case c31 => k_is)
    (case k31 => k_is)
    (case a32 => k_is)
    (case l32 => k_is)
    (case c32 => k_is)
    (case k32 => k_is)
    (case a33 => k_is)
    (case l33 => k_is)
    (case c33 => k_is)
    (case k33 => k_is)
    (case a34 => k_is)
    (case l34 => k_is)
    (case c34 => k_is)
    (case k34 => k_is)
    (case a35 => k_is)
    (case l35 => k_is)
    (case c35 => k_is)
    (case k35 => k_is)
    (case a36 => k_is)
    (case l36 => k_is)
    (case c36 => k_is)
    (case k36 => k_is)
    (case a37 => k_is)
    (case l37 => k_is)
    (case c37 => k_is)
    (case k37 => k_is)
    (case a38 => k_is)
    (case l38 => k_is)
    (case c38 => k_is)
    (case k38 => k_is)
    (case a39 => k_is)
    (case l39 => k_is)
    (case c39 => k_is)
    (case k39 => k_is)
    (case a40 => k_is)
    (case l40 => k_is)
    (case c40 => k_is)
    (case k40 => k_is)
    (case a41 => k_is)
    (case l41 => k_is)
    (case c41 => k_is)
    (case k41 => k_is)
    (case a42 => k_is)
    (case l42 => k_is)
    (case c42 => k_is)
    (case k42 => k_is)
    (case a43 => k_is)
    (case l43 => k_is)
    (case c43 => k_is)
    (case k43 => k_is)
    (case a44 => k_is)
    (case l44 => k_is)
    (case c44 => k_is)
    (case k44 => k_is)
    (case a45 => k_is)
    (case l45 => k_is)
    (case c45 => k_is)
    (case k45 => k_is)
    (case a46 => k_is)
    (case l46 => k_is)
    (case c46 => k_is)
    (case k46 => k_is)
    (case a47 => k_is)
    (case l47 => k_is)
    (case c47 => k_is)
    (case k47 => k_is)
    (case a48 => k_is)
    (case l48 => k_is)
    (case c48 => k_is)
    (case k48 => k_is)
    (case a49 => k_is)
    (case l49 => k_is)
    (case c49 => k_is)
    (case k49 => k_is)
    (case z0 => k_is)
    (case z1 => k_is)
    (case z2 => k_is)
    (case z3 => k_is)
    (case z4 => k_is)
    (case z5 => k_is)
    (case z6 => k_is)
    (case z7 => k_is)
    (case z8 => k_is)
    (case z9 => k_is)
    (case z10 => k_is)
    (case z11 => k_is)
    (case z12 => k_is)
    (case z13 => k_is)
    (case z14 => k_is)
    (case z15 => k_is)
    (case z16 => k_is)
    (case g17 => k_is)
    (case g18 => k_is)
    (case g19 => k_is)
    (case g20 => k_is)
    (case g21 => k_is)
    (case g22 => k_is)
    (case g23 => k_is)
    (case g24 => k_is)
    (case g25 => k_is)
    (case g26 => k_is)
    (case g27 => k_is)
    (case g28 => k_is)
    (case h28 => k_is)
    (case g29 => k_is)
    (case h29 => k_is)
    (case g30 => k_is)
    (case h30 => k_is)
    (case x_t => k_exc)
    (case k_t => k_is)
    (case b_t => k_is)
    (case t_t => k_is)
    (case x_r => k_exc)
    (case k_r => k_is)
    (case b_r => k_is)
    (case t_r => k_is)
    (case eb_e_rn => k_is)
    (case eh_e_rn => k_is)
    (case et_e_rn => k_is)
    (case es_e_rn => k_is)
    (case eb_e_rr => k_is)
    (case eh_e_rr => k_is)
    (case et_e_rr => k_is)
    (case es_e_rr => k_is)
    (case x_f => k_exc)
    (case k_f => k_is)
    (case b_f => k_is)
    (case t_f => k_is)
    (case x_n => k_exc)
    (case k_n => k_is)
    (case b_n => k_is)
    (case t_n => k_is)
    (case eb_e_nn => k_is)
    (case eh_e_nn => k_is)
    (case et_e_nn => k_is)
    (case es_e_nn => k_is)
