import PyProof.Rows.All
import Wide.All
import OpenK.AllK
import Wide.FinOn
import HandS.ForMost
import HandS.IsInst
import HandS.Gcd
import HandS.Wide
import HandS.Zip
import HandS.Conv
import HandS.Flow
import HandS.Walk
import HandS.Codes
import KE.GoesMore
import KE.GoesEnum
import HandS.TupMul
import HandS.TupAny
import HandS.DictComp
import HandS.Text
import KE.KTupSum
import HandS.Strs
import HandS.EndBits
import HandS.Dict
import HandS.ForExc
import HandS.ExcIs
import HandS.TryMany
import HandS.More
import KE.KDictKeyed
import KE.SortData
import KE.DataCmp
import KE.KDictCopyH
import PyProof.NeKinds
import HandS.IterVal
import HandS.Keys
import PySem.Challenge.RW_sameontrees_k03_rows_and_sizes
import HandS.Deep
import KE.KRevSl
import PyProof.Rows.IntBool
import PyProof.CallStr
import PyProof.StrOps2
import PyProof.ReprBulk
import PyProof.Rows.ReprOcc
import PyProof.Rows.StrCase
import PyProof.FactsAll.bool_2
import HandS.Iter
import HandS.DictSubView
import KE.KDictZip
import KE.GoesZip
import KE.KDictItemsList
import KE.DataMinMax
import KE.KDictDisplayH
import HandS.ListItems
import HandS.SetFor
import HandS.Style
import HandS.Sort
import PyProof.CallFns
import KE.IntBitsLaws
set_option Elab.async false
set_option linter.all false
set_option maxRecDepth 100000
/-! a small layer of our own over HandS: plain data that never changes, defs by name, zip of a list and a tuple -/
namespace Ly
open PySem PySem.Spec PyProof.Rows L2

/-! ### frames -/
/-- every tuple that is tracked stays -/
def TK (H H' : Hp) : Prop := ∀ b xs, H b = some (.tup xs) → H' b = some (.tup xs)
theorem TK.rfl (H : Hp) : TK H H := fun _ _ h => h
theorem TK.trans {H H1 H2 : Hp} (a : TK H H1) (b : TK H1 H2) : TK H H2 := fun c o h => b c o (a c o h)
theorem tk_same {H H' : Hp} (s : Same H H') : TK H H' := fun b _ h => s b _ h
theorem tk_new {H : Hp} {p : Addr} {o : HO} (h : H p = none) : TK H (upd H p o) := fun b xs e => by
  rw [upd_ne (ne_of_none e h)]; exact e
theorem tk_lst {H : Hp} {p : Addr} {o : HO} {xs : List V} (h : H p = some (.lst xs)) : TK H (upd H p o) := fun b ys e => by
  have : b ≠ p := by
    intro z; subst z; rw [h] at e; cases e
  rw [upd_ne this]; exact e
theorem same_new {H : Hp} {p : Addr} {o : HO} (h : H p = none) : Same H (upd H p o) := fun b x e => by
  rw [upd_ne (ne_of_none e h)]; exact e

/-! ### data: none, bools, ints, texts, tuples of such -/
/-- a tuple that stands: tracked, or of the module's own -/
def ITup (K : PySem.W.Frag) (H : Hp) (a : Addr) (xs : List V) : Prop :=
  H a = some (.tup xs) ∨ ∃ (o : Obj) (its : Array Value) (n : Nat), K.lookup a = some o ∧ o.cls = .type "tuple" ∧ o.data = .seq its n ∧ its.size ≤ sizeLine ∧ Vals xs its.toList
theorem ITup.sq {K : PySem.W.Frag} {H : Hp} {a : Addr} {xs : List V} (h : ITup K H a xs) : SqT K H a xs := h.elim (fun e => .inl (.inl e)) .inr
theorem ITup.mono {K : PySem.W.Frag} {H H' : Hp} {a : Addr} {xs : List V} (t : TK H H') (h : ITup K H a xs) : ITup K H' a xs := h.elim (fun e => .inl (t _ _ e)) .inr
mutual
inductive Im (K : PySem.W.Frag) (H : Hp) : V → PyData → Prop
  | non : Im K H .non .none
  | bl (b : Bool) : Im K H (.bl b) (.bool b)
  | int (i : Int) : Im K H (.int i) (.int i)
  | str (x : Str) : Im K H (.str x) (.str x)
  | tup {a : Addr} {xs : List V} {ds : List PyData} : ITup K H a xs → ImAll K H xs ds → Im K H (.ref a) (.tuple ds)
inductive ImAll (K : PySem.W.Frag) (H : Hp) : List V → List PyData → Prop
  | nil : ImAll K H [] []
  | cons {v : V} {vs : List V} {d : PyData} {ds : List PyData} : Im K H v d → ImAll K H vs ds → ImAll K H (v :: vs) (d :: ds)
end
section
variable {K : PySem.W.Frag} {H H' : Hp}
mutual
theorem Im.mono (t : TK H H') : ∀ (d : PyData) {v : V}, Im K H v d → Im K H' v d
  | .none, _, h => by cases h; exact .non
  | .bool _, _, h => by cases h; exact .bl _
  | .int _, _, h => by cases h; exact .int _
  | .str _, _, h => by cases h; exact .str _
  | .tuple ds, _, h => by cases h with | tup e r => exact .tup (e.mono t) (ImAll.mono t ds r)
  | .list _, _, h => by cases h
  | .dict _, _, h => by cases h
theorem ImAll.mono (t : TK H H') : ∀ (ds : List PyData) {vs : List V}, ImAll K H vs ds → ImAll K H' vs ds
  | [], _, h => by cases h; exact .nil
  | d :: ds, _, h => by cases h with | cons a r => exact .cons (Im.mono t d a) (ImAll.mono t ds r)
end
mutual
theorem Im.dp : ∀ (d : PyData) {v : V}, Im K H v d → Dp K H v d
  | .none, _, h => by cases h; exact .non
  | .bool _, _, h => by cases h; exact .bl _
  | .int _, _, h => by cases h; exact .int _
  | .str _, _, h => by cases h; exact .str _
  | .tuple ds, _, h => by cases h with | tup e r => exact .tup e.sq (ImAll.dp ds r)
  | .list _, _, h => by cases h
  | .dict _, _, h => by cases h
theorem ImAll.dp : ∀ (ds : List PyData) {vs : List V}, ImAll K H vs ds → DpAll K H vs ds
  | [], _, h => by cases h; exact .nil
  | d :: ds, _, h => by cases h with | cons a r => exact .cons (Im.dp d a) (ImAll.dp ds r)
end
theorem ImAll.length : ∀ {vs : List V} {ds : List PyData}, ImAll K H vs ds → vs.length = ds.length
  | [], ds, h => by cases h; rfl
  | _ :: _, _, h => by cases h with | cons _ r => rw [List.length_cons, List.length_cons, ImAll.length r]
theorem ImAll.get : ∀ {vs : List V} {ds : List PyData} {i : Nat} {d : PyData}, ImAll K H vs ds → ds[i]? = some d → ∃ v, vs[i]? = some v ∧ Im K H v d
  | _, _, 0, _, .cons a _, e => by
    simp at e; subst e; exact ⟨_, rfl, a⟩
  | _, _, i + 1, _, .cons _ r, e => by
    obtain ⟨v, h1, h2⟩ := ImAll.get (i := i) r (by simpa using e)
    exact ⟨v, by simpa using h1, h2⟩
  | _, _, _, _, .nil, e => by simp at e
theorem ImAll.getV : ∀ {vs : List V} {ds : List PyData} {i : Nat} {v : V}, ImAll K H vs ds → vs[i]? = some v → ∃ d, ds[i]? = some d ∧ Im K H v d
  | _, _, 0, _, .cons a _, e => by
    simp at e; subst e; exact ⟨_, rfl, a⟩
  | _, _, i + 1, _, .cons _ r, e => by
    obtain ⟨v, h1, h2⟩ := ImAll.getV (i := i) r (by simpa using e)
    exact ⟨v, by simpa using h1, h2⟩
  | _, _, _, _, .nil, e => by simp at e
theorem ImAll.snoc : ∀ {vs : List V} {ds : List PyData} {v : V} {d : PyData}, ImAll K H vs ds → Im K H v d → ImAll K H (vs ++ [v]) (ds ++ [d])
  | _, _, _, _, .nil, a => .cons a .nil
  | _, _, _, _, .cons b r, a => .cons b (ImAll.snoc r a)
theorem Im.tuple_inv {v : V} {ds : List PyData} (h : Im K H v (.tuple ds)) : ∃ a xs, v = .ref a ∧ ITup K H a xs ∧ ImAll K H xs ds := by
  cases h with | tup e r => exact ⟨_, _, rfl, e, r⟩
theorem Im.int_inv {v : V} {i : Int} (h : Im K H v (.int i)) : v = .int i := by cases h; rfl
theorem Im.bool_inv {v : V} {i : Bool} (h : Im K H v (.bool i)) : v = .bl i := by cases h; rfl
theorem Im.str_inv {v : V} {i : Str} (h : Im K H v (.str i)) : v = .str i := by cases h; rfl
theorem Im.none_inv {v : V} (h : Im K H v .none) : v = .non := by cases h; rfl
theorem ImAll.cons_inv {vs : List V} {d : PyData} {ds : List PyData} (h : ImAll K H vs (d :: ds)) : ∃ v r, vs = v :: r ∧ Im K H v d ∧ ImAll K H r ds := by
  cases h with | cons a r => exact ⟨_, _, rfl, a, r⟩
theorem ImAll.nil_inv {vs : List V} (h : ImAll K H vs []) : vs = [] := by cases h; rfl
/-- a new tuple of data -/
theorem Im.new {p : Addr} {xs : List V} {ds : List PyData} (n : H p = none) (r : ImAll K H xs ds) : Im K (upd H p (.tup xs)) (.ref p) (.tuple ds) :=
  .tup (.inl upd_same) (ImAll.mono (tk_new n) ds r)
end

/-! ### defs by their names -/
section
variable (P : Program) (w : World) (K : PySem.W.Frag) (mg : Str → Option Value) (base : Heap)
/-- the def st that the name x holds keeps the promise sp, by at most level k; nothing is raised out of it -/
structure Def (k : Nat) (x : Str) (st : Stmt) (ps : List Str) (sp : Sp) : Prop where
  ex : ∃ (f : Addr) (fd : FuncData), FnOk P w K mg base CX0 k f fd ps sp ∧ mg x = some (.ref f) ∧ PySem.W.keepIn K (.ref f) = true ∧ L2.Binds K fd ps [] ∧ Fun K x x st f fd
end
section
variable {X : Cx} {k : Nat} {x : Str} {st : Stmt} {ps ks : List Str} {sp : Sp} {p pos : Pos} {e : Expr} {es : List Expr} {kws : List Keyword} {t tk : TA} {g : List Value → List Value → List Value} {gV : List V → List V → List V}
theorem pe_def (O : Def X.prog X.w X.K X.mg X.base k x st ps sp) (hr : Room k X.A) (hg : Gl X x) (ha : PA X (e :: es) t) (hdb : (x == ("__debug__" : Str)) = false := by decide)
    (he : starEach (e :: es) X.env = (false, eval e X.env) :: starEach es X.env := by rfl) (hpl : (backTo pos (starEach es X.env)).any (·.1) = false := by rfl) :
    PE X (.Call (.Name x p) (e :: es) [] pos) (tCall sp [] E0 t) := by
  obtain ⟨f, fd, F, hm, hk, hb, _⟩ := O.ex
  exact pe_call F hr hg hm hk hb .nil pass0 ha hdb he hpl
/-- all arguments by their names -/
theorem pe_defK (O : Def X.prog X.w X.K X.mg X.base k x st ps sp) (hr : Room k X.A) (hg : Gl X x) (kb : ∀ f fd, Fun X.K x x st f fd → KBinds X.K fd ps ks g gV) (hkw : PK X kws tk)
    (hall : (backToKw pos (keywordEach kws X.env)).all (·.1.isSome) = true := by rfl) (hks : (backToKw pos (keywordEach kws X.env)).filterMap (·.1) = ks := by rfl) (hdb : (x == ("__debug__" : Str)) = false := by decide)
    (hpl : ((backTo pos (starEach [] X.env)).any (·.1) || (backToKw pos (keywordEach kws X.env)).any (·.1.isNone)) = false := by rfl) :
    PE X (.Call (.Name x p) [] kws pos) (tCallK sp gV E0 tNil tk) := by
  obtain ⟨f, fd, F, hm, hk, _, U⟩ := O.ex
  refine ⟨fun pins s σ H Q I h => wpAny_Call_Name_kw (ld_glob I hg hm (PySem.W.callWith_KW0 (h₀ := X.base) I.ok.mod.kin hk hall (thn (hkw.run pos pins s σ H _ I h) ?_) hpl) hdb)⟩
  rintro ws s2 ⟨zs, H2, I2, rz, q2⟩
  refine ⟨I2.kIn, ?_⟩
  rw [hks]
  exact run_fnk F hr (kb f fd U) pass0 I2 .nil rz q2
end
/-- a name of the module that holds a value -/
theorem pe_gv {X : Cx} {x : Str} {v : V} {pos : Pos} (hg : Gl X x) (h : ∃ u, X.mg x = some u ∧ RelV v u) (hd : (x == ("__debug__" : Str)) = false := by decide) : PE X (.Name x pos) (tC v) := by
  obtain ⟨u, h1, h2⟩ := h
  exact pe_glob hg h1 h2 hd
/-! ### zip of a list and a tuple -/
/-- the list at a and the tuple at b, as they stand at each turn, their items in new pairs -/
def ItzM (K : PySem.W.Frag) (a b : Addr) : It where
  go := fun i H => ∃ xs ys x y, SqL K H a xs ∧ SqT K H b ys ∧ xs[i]? = some x ∧ ys[i]? = some y
  yld := fun i H v H' => ∃ T x y, v = .ref T ∧ H T = none ∧ H' = upd H T (.tup [x, y]) ∧ (∀ l, SqL K H a l → l[i]? = some x) ∧ ∀ l, SqT K H b l → l[i]? = some y
  stop := fun i H => ∃ xs ys : List V, SqL K H a xs ∧ SqT K H b ys ∧ i ≤ xs.length ∧ i ≤ ys.length ∧ (i = xs.length ∨ i = ys.length)
theorem in5 {z a b c d e : Addr} (h : z ∈ [a, b, c, d, e]) : z = a ∨ z = b ∨ z = c ∨ z = d ∨ z = e := by simpa using h
theorem turnM {P : Program} {w : World} {K : PySem.W.Frag} {elts : List Expr} {kk : Nat} {tpos : Pos} {a b z TI TO i1 i2 : Addr} (S : ZipSep2 z TI TO i1 i2 [i1, a] [i2, b]) :
    Turn P w K (.Tuple elts kk tpos) (ItzM K a b) [z, TI, TO, i1, i2] z (fun i h => IsZip h z TI TO .none ∧ IsTupOf2 h TI (.ref i1) (.ref i2) ∧ (∃ x y, IsTupOf2 h TO x y) ∧ h.IsListIter i1 a i ∧ h.IsTupleIter i2 b i) := by
  have n12 : i1 ≠ i2 := fun q => S.sep1_2 (by rw [q]; exact List.mem_cons_self ..)
  have z1 := S.zi1
  have z2 := S.zi2
  have t1 := S.Ti1
  have t2 := S.Ti2
  have keep4 : ∀ {h h' : Heap} {c : Addr} {o : Obj}, (∀ c o, c ≠ z → c ≠ TO → c ≠ i1 → c ≠ i2 → h.get? c = some o → h'.get? c = some o) → c ∉ [z, TI, TO, i1, i2] → h.get? c = some o → h'.get? c = some o :=
    fun k hc q => k _ _ (fun e => hc (by simp [e])) (fun e => hc (by simp [e])) (fun e => hc (by simp [e])) (fun e => hc (by simp [e])) q
  have size5 : ∀ {h : Heap} {i : Nat}, IsZip h z TI TO .none → IsTupOf2 h TI (.ref i1) (.ref i2) → (∃ x y, IsTupOf2 h TO x y) → h.IsListIter i1 a i → h.IsTupleIter i2 b i → ∀ c ∈ [z, TI, TO, i1, i2], c < h.objs.size := by
    intro h i hz hT ⟨x, y, hO⟩ ⟨o1, e1, _⟩ ⟨o2, e2, _⟩ c hc
    rcases in5 hc with q | q | q | q | q <;> subst q
    · exact Heap.lt_size hz
    · exact Heap.lt_size hT
    · exact Heap.lt_size hO
    · exact Heap.lt_size e1
    · exact Heap.lt_size e2
  refine { mem := List.mem_cons_self .., obj := ?_, keep := ?_, item := ?_, done := ?_, self := fun A i s Q E st h => wpAny_pyIter_zip st.1 h }
  · rintro i h ⟨hz, hT, ⟨x, y, hO⟩, ⟨o1, e1, _, d1⟩, ⟨o2, e2, _, d2⟩⟩ c hc
    rcases in5 hc with q | q | q | q | q <;> subst q
    · exact ⟨_, hz, fun v q => nomatch q⟩
    · exact ⟨_, hT, fun v q => nomatch q⟩
    · exact ⟨_, hO, fun v q => nomatch q⟩
    · exact ⟨o1, e1, fun v q => by rw [d1] at q; cases q⟩
    · exact ⟨o2, e2, fun v q => by rw [d2] at q; cases q⟩
  · rintro i h h' ⟨hz, hT, ⟨x, y, hO⟩, l1, l2⟩ k
    exact ⟨k z (by simp) _ hz, k TI (by simp) _ hT, ⟨x, y, k TO (by simp) _ hO⟩, l1.at fun o q => k i1 (by simp) o q, l2.at fun o q => k i2 (by simp) o q⟩
  · intro X hP hw hK hc i pins s σ H E I hf st hg
    subst hP hw hK
    obtain ⟨hz, hT, hO, l1, l2⟩ := st
    have lts := size5 hz hT hO l1 l2
    obtain ⟨x0, y0, hO⟩ := hO
    obtain ⟨xs, ys, x, y, qx, qy, hx, hy⟩ := hg
    obtain ⟨its, rv, p, _⟩ := I.list qx
    obtain ⟨its2, rv2, p2, _⟩ := I.tuple qy
    obtain ⟨u, hu, ru⟩ := rv.get hx
    obtain ⟨u2, hu2, ru2⟩ := rv2.get hy
    have a1 : a ≠ i1 := fun q => by
      obtain ⟨o, ho, c, _⟩ := l1
      obtain ⟨o', ho', c', _⟩ := p.isList
      rw [← q, ho'] at ho; cases ho
      rw [c'] at c; simp at c
    have b2 : b ≠ i2 := fun q => by
      obtain ⟨o, ho, c, _⟩ := l2
      obtain ⟨o', ho', c', _⟩ := p2
      rw [← q, ho'] at ho; cases ho
      rw [c'] at c; simp at c
    have hd : X.A.in1.handled = none := I.ok.hd hc
    have D1 := Draws.list (prog := X.prog) (w := X.w) hd i1 a a1 its.toArray
    have D2 := Draws.tuple (prog := X.prog) (w := X.w) hd i2 b b2 its2.toArray
    have s1 : i < its.toArray.size := by
      have := (List.getElem?_eq_some_iff.mp hu).1
      simpa using this
    have s2 : i < its2.toArray.size := by
      have := (List.getElem?_eq_some_iff.mp hu2).1
      simpa using this
    refine wpAny_pyNext_zipD2_item S D1 D2 hz hT hO ⟨l1, p.isList⟩ ⟨l2, p2⟩ s1 s2 fun v1 v2 h' tk e1 e2 z' O' st1 st2 hN hsz hk => ?_
    have ev1 : u = v1 := by
      have : its[i]? = some v1 := by simpa using e1
      rw [hu] at this; exact Option.some.inj this
    have ev2 : u2 = v2 := by
      have : its2[i]? = some v2 := by simpa using e2
      rw [hu2] at this; exact Option.some.inj this
    subst ev1 ev2
    refine ⟨_, rfl, wpAny_letOwnedTupleGo_zip (s := { s with heap := h', toks := tk }) z' fun h2 zz sb => ?_⟩
    have zlt : z < s.heap.objs.size := lts z (by simp)
    have pair : h2.get? s.heap.objs.size = some { cls := .type "tuple", data := .seq #[u, u2] } := (sb.2 _ (Nat.ne_of_gt zlt)).trans hN
    have new : ObjOk X.prog X.w (upd H s.heap.objs.size (.tup [x, y])) h2 s.heap.objs.size (.tup [x, y]) := ⟨by show 2 ≤ sizeLine; decide, [u, u2], .cons ru (.cons ru2 .nil), ⟨_, pair, rfl, _, rfl⟩⟩
    have I2 : Inv X pins σ (upd H s.heap.objs.size (.tup [x, y])) { s with heap := h2, toks := tk } :=
      I.turnedNew (t' := tk) (ch := [z, TI, TO, i1, i2]) (fun c o hb q => (sb.2 c (fun e => hb (by simp [e]))).trans (keep4 hk hb q)) hf (Nat.le_refl _) new
    refine ⟨.ref s.heap.objs.size, _, I2, rfl, ⟨_, x, y, rfl, I.hok.fresh (Nat.le_refl _), rfl, fun l hl => by rw [I.list_inj hl qx]; exact hx, fun l hl => by rw [I.tuple_inj hl qy]; exact hy⟩, ⟨zz, ?_, ⟨u, u2, ?_⟩, ?_, ?_⟩, fun c hc => ?_⟩
    · exact (sb.2 _ S.TIz).trans (hk _ _ S.TIz S.TITO S.TIi1 S.TIi2 hT)
    · exact (sb.2 _ S.TOz).trans O'
    · exact st1.1.at fun o q => (sb.2 _ z1.symm).trans q
    · exact st2.1.at fun o q => (sb.2 _ z2.symm).trans q
    · rw [upd_ne (Nat.ne_of_lt (lts c hc))]
      exact (hf c hc).1
  · intro X hP hw hK hc i pins s σ H E I hf st hg
    subst hP hw hK
    obtain ⟨hz, hT, ⟨x0, y0, hO⟩, l1, l2⟩ := st
    obtain ⟨xs, ys, qx, qy, le1, le2, hend⟩ := hg
    obtain ⟨its, rv, p, _⟩ := I.list qx
    obtain ⟨its2, rv2, p2, _⟩ := I.tuple qy
    have a1 : a ≠ i1 := fun q => by
      obtain ⟨o, ho, c, _⟩ := l1
      obtain ⟨o', ho', c', _⟩ := p.isList
      rw [← q, ho'] at ho; cases ho
      rw [c'] at c; simp at c
    have b2 : b ≠ i2 := fun q => by
      obtain ⟨o, ho, c, _⟩ := l2
      obtain ⟨o', ho', c', _⟩ := p2
      rw [← q, ho'] at ho; cases ho
      rw [c'] at c; simp at c
    have hd : X.A.in1.handled = none := I.ok.hd hc
    have e1 := rv.length
    have e2 := rv2.length
    refine wpAny_pyNext_zipD2_end S (Draws.list (prog := X.prog) (w := X.w) hd i1 a a1 its.toArray) (Draws.tuple (prog := X.prog) (w := X.w) hd i2 b b2 its2.toArray) hz hT hO ⟨l1, p.isList⟩ ⟨l2, p2⟩ (by simp; omega) (by simp; omega) (by simp; omega) fun h' tk hk => ?_
    exact ⟨rfl, I.turnedL (t' := tk) (ch := [z, TI, TO, i1, i2]) (fun c o hb q => keep4 hk hb q) hf⟩
def iZipM (K : PySem.W.Frag) (ta : TA) : TI := fun σ H R => ta σ H fun vs H1 => ∃ a b xs ys, vs = [.ref a, .ref b] ∧ SqL K H1 a xs ∧ SqT K H1 b ys ∧ R (ItzM K a b) H1
theorem pi_zipM {X : Cx} {e e2 : Expr} {ta : TA} {p pos tpos : Pos} {elts : List Expr} {kk : Nat} (hg : Gl X "zip") (hm : X.mg "zip" = none) (ha : PA X [e, e2] ta)
    (hs : starEach [e, e2] X.env = (false, eval e X.env) :: starEach [e2] X.env := by rfl) (hpl : (backTo pos (starEach [e2] X.env)).any (·.1) = false := by rfl) :
    PI X (.Tuple elts kk tpos) (.Call (.Name "zip" p) [e, e2] [] pos) (iZipM X.K ta) := by
  refine ⟨fun pins s σ H R I h => Call_ (ld_blt I hg hm PyProof.Rows.boot_zip (PyProof.Rows.callWith_type1 (thn (ha.run pos pins s σ H _ I h) ?_) hs hpl))⟩
  rintro us s1 ⟨vs, H1, I1, r1, a, b, xs, ys, rfl, qx, qy, q⟩
  cases r1 with | cons r rr => cases rr with | cons r' rr =>
  cases rr
  cases r
  cases r'
  obtain ⟨its, rv, p1, _⟩ := I1.list qx
  obtain ⟨its2, rv2, p2, _⟩ := I1.tuple qy
  obtain ⟨o2, ho2, _⟩ := id p2
  have lb : b < s1.heap.objs.size := Heap.lt_size ho2
  have la : a < s1.heap.objs.size := p1.lt
  have S := zip_sep2 (N := s1.heap.objs.size) (fp1 := [a]) (fp2 := [b]) (fun c hc => by simp at hc; rw [hc]; exact la) (fun c hc => by simp at hc; rw [hc]; exact lb)
  refine zip_begins2 (begins_list a its.toArray) (begins_tuple b its2.toArray) p1.isList p2 fun h' hz hT hO g1 g2 hsz hk => wpAny_pyIter_zip hz ?_
  have I2 : Inv X pins σ H1 { s1 with heap := h' } := I1.kept (t' := s1.toks) hk
  refine ⟨_, [s1.heap.objs.size + 4, s1.heap.objs.size + 2, s1.heap.objs.size + 3, s1.heap.objs.size, s1.heap.objs.size + 1], _, _, H1, rfl, I2, turnM S, ⟨hz, hT, ⟨_, _, hO⟩, ⟨_, g1, rfl, rfl⟩, ⟨_, g2, rfl, rfl⟩⟩, fun c hc => ?_, q⟩
  have le : s1.heap.objs.size ≤ c := by
    rcases in5 hc with z | z | z | z | z <;> rw [z] <;> first | exact Nat.le_refl _ | exact Nat.le_add_right _ _
  exact I1.fpOk le (I1.hok.fresh le)
theorem walk_zipM {K : PySem.W.Frag} {a b : Addr} {xs ys : List V} (e : xs.length = ys.length) : Walk (ItzM K a b) xs.length (fun H => SqL K H a xs ∧ SqT K H b ys) (YPair (fun i => xs[i]?) (fun i => ys[i]?)) := by
  refine ⟨fun i _ hi q => ?_, fun _ q => ⟨xs, ys, q.1, q.2, Nat.le_refl _, Nat.le_of_eq e, .inl rfl⟩, fun i H v H' _ q y => ?_⟩
  · have h2 : i < ys.length := by omega
    exact ⟨xs, ys, xs[i], ys[i], q.1, q.2, by simp [hi], by simp [h2]⟩
  · obtain ⟨T, x, z, h1, h2, h3, h4, h5⟩ := y
    exact ⟨T, x, z, h1, h2, h3, h4 xs q.1, h5 ys q.2⟩
theorem walk_zipT {K : PySem.W.Frag} {a b : Addr} {xs ys : List V} (e : xs.length = ys.length) : Walk (RZ.ItzT K a b) xs.length (fun H => SqT K H a xs ∧ SqT K H b ys) (YPair (fun i => xs[i]?) (fun i => ys[i]?)) := by
  refine ⟨fun i _ hi q => ?_, fun _ q => ⟨xs, ys, q.1, q.2, .inl (Nat.le_refl _)⟩, fun i H v H' _ q y => ?_⟩
  · have h2 : i < ys.length := by omega
    exact ⟨xs, ys, xs[i], ys[i], q.1, q.2, by simp [hi], by simp [h2]⟩
  · obtain ⟨T, x, z, h1, h2, h3, h4, h5⟩ := y
    exact ⟨T, x, z, h1, h2, h3, h4 xs q.1, h5 ys q.2⟩

/-! ### lists of ints as data -/
section
variable {K : PySem.W.Frag} {H : Hp}
theorem dp_ints : ∀ ns : List Int, DpAll K H (ns.map V.int) (ns.map PyData.int)
  | [] => .nil
  | n :: ns => .cons (.int n) (dp_ints ns)
theorem lay_ints : ∀ ns : List Int, PyData.canLayAll0 (ns.map PyData.int) = true
  | [] => by simp [PyData.canLayAll0]
  | n :: ns => by simp [PyData.canLayAll0, PyData.canLay0, lay_ints ns]
theorem deep_ints : ∀ ns : List Int, PyData.depthAll (ns.map PyData.int) ≤ 1
  | [] => by simp [PyData.depthAll]
  | n :: ns => by
    have := deep_ints ns
    simp only [List.map_cons, PyData.depthAll, PyData.depth]
    omega
theorem shaped_ints (ns : List Int) : SeqAt.shaped (.list (ns.map PyData.int)) = true := by
  have h := deep_ints ns
  have h2 : PyData.depth (.list (ns.map PyData.int)) ≤ 64 := by
    simp only [PyData.depth]; omega
  show (PyData.canLay0 (.list (ns.map PyData.int)) && decide (PyData.depth (.list (ns.map PyData.int)) ≤ 64)) = true
  rw [Bool.and_eq_true]
  exact ⟨by simp only [PyData.canLay0]; exact lay_ints ns, decide_eq_true h2⟩
theorem eqv_ints_nil (ns : List Int) : PyData.eqv (.list (ns.map PyData.int)) (.list []) = ns.isEmpty := by
  cases ns <;> simp [PyData.eqv, PyData.eqvAll]
end
/-! ### rules with the written part told: what they ask hangs on no block's own things -/
section
variable {X : Cx} (K : PySem.W.Frag)
theorem kix_tup (e : X.K = K := by rfl) : IxR X (rIxT K) := by subst e; exact ix_tup
theorem kix_list (e : X.K = K := by rfl) : IxR X (rIxL K) := by subst e; exact ix_list
def rLenK : List V → Hp → VK → Prop := fun xs H Q => ∃ p ys, xs = [.ref p] ∧ (SqL K H p ys ∨ SqT K H p ys) ∧ Q (.int ys.length) H
theorem kcall_len (e : X.K = K := by rfl) : CallR X (.builtin "len") (rLenK K) := by subst e; exact call_len_seq
def rTupK : List V → Hp → VK → Prop := fun xs H Q => ∃ p ys, xs = [.ref p] ∧ ((SqL K H p ys ∧ ∀ l, H l = none → Q (.ref l) (upd H l (.tup ys))) ∨ (SqT K H p ys ∧ Q (.ref p) H))
theorem kcall_tuple (e : X.K = K := by rfl) : CallR X (.type "tuple") (rTupK K) := by subst e; exact call_tuple_of
def rLstK : List V → Hp → VK → Prop := fun xs H Q => ∃ p ys, xs = [.ref p] ∧ (SqL K H p ys ∨ SqT K H p ys) ∧ ∀ l, H l = none → Q (.ref l) (upd H l (.lst ys))
theorem kcall_list (e : X.K = K := by rfl) : CallR X (.type "list") (rLstK K) := by subst e; exact call_list_of
theorem kcall_isi (e : X.K = K := by rfl) : CallR X (.builtin "isinstance") (rIsi K) := by subst e; exact call_isi
theorem kcr_all (hc : X.calm = true := by rfl) (e : X.K = K := by rfl) : CallR X (.builtin "all") (rAll K) := by subst e; exact cr_all hc
theorem kop_eqD (hu : X.A.units + 64 < cLine) (e : X.K = K := by rfl) : OpR X (compareOp .Eq) (rEqD K) := by subst e; exact op_eqD hu
theorem kop_neD (hu : X.A.units + 64 < cLine) (e : X.K = K := by rfl) : OpR X (compareOp .NotEq) (rNeD K) := by subst e; exact op_neD hu
theorem kpi_tup {tg l : Expr} {tl : TE} (hl : PE X l tl) (e : X.K = K := by rfl) : PI X tg l (iTup K tl) := by subst e; exact pi_tup hl
theorem kpi_list {tg l : Expr} {tl : TE} (hl : PE X l tl) (e : X.K = K := by rfl) : PI X tg l (iList K tl) := by subst e; exact pi_list hl
theorem kpg_tup {es : List Expr} {k : Nat} {pos : Pos} {t : TGs} {n : Nat} (hc : X.calm = true) (h : PGs X es t) (hn : (assignEach es X.env).length = n := by rfl) (hst : (assignEach es X.env).findIdx? (·.1) = none := by rfl) (e : X.K = K := by rfl) : PG X (.Tuple es k pos) (gTup K n t) := by
  subst e; exact pg_tup hc h hn hst
theorem kpi_zipM {e1 e2 : Expr} {ta : TA} {p pos tpos : Pos} {elts : List Expr} {kk : Nat} (hg : Gl X "zip") (hm : X.mg "zip" = none) (ha : PA X [e1, e2] ta)
    (hs : starEach [e1, e2] X.env = (false, eval e1 X.env) :: starEach [e2] X.env := by rfl) (hpl : (backTo pos (starEach [e2] X.env)).any (·.1) = false := by rfl) (e : X.K = K := by rfl) :
    PI X (.Tuple elts kk tpos) (.Call (.Name "zip" p) [e1, e2] [] pos) (iZipM K ta) := by subst e; exact pi_zipM hg hm ha hs hpl
theorem kpi_zip {e1 e2 : Expr} {ta : TA} {p pos tpos : Pos} {elts : List Expr} {kk : Nat} (hg : Gl X "zip") (hm : X.mg "zip" = none) (ha : PA X [e1, e2] ta)
    (hs : starEach [e1, e2] X.env = (false, eval e1 X.env) :: starEach [e2] X.env := by rfl) (hpl : (backTo pos (starEach [e2] X.env)).any (·.1) = false := by rfl) (e : X.K = K := by rfl) :
    PI X (.Tuple elts kk tpos) (.Call (.Name "zip" p) [e1, e2] [] pos) (RZ.iZipA K ta) := by subst e; exact RZ.pi_zipA hg hm ha hs hpl
end
/-! ### a comprehension without tests -/
theorem lc_all {J : It} {n : Nat} {G : Hp → Prop} {Y : Nat → Hp → V → Hp → Prop} (w : Walk J n G Y) {g : TG} {te : TE} {vs : List Nat} {σ : L2.St} {H1 : Hp} {D : Addr} {Qd : Hp → Prop} (Pv : Nat → Hp → Prop) (h0 : Pv 0 (upd H1 D (.lst []))) (hG : ∀ i H, i ≤ n → Pv i H → G H)
    (hs : ∀ i x H H', i < n → Pv i H → Y i H x H' → g x (wipe σ vs) H' fun σ2 H2 => wipe σ2 vs = wipe σ vs ∧ te σ2 H2 fun y H4 => ∃ acc, H4 D = some (.lst acc) ∧ acc.length < sizeLine ∧ Pv (i + 1) (upd H4 D (.lst (acc ++ [y]))))
    (hd : ∀ H, Pv n H → Qd H) :
    ∃ W : Nat → Nat → Hp → Prop, (∃ m, W 0 m (upd H1 D (.lst []))) ∧ ∀ i m H, W i m H →
      (J.stop i H ∧ Qd H) ∨ (J.go i H ∧ ∃ Nx : Hp → Prop, (∀ H', Nx H' → ∃ m', m' < m ∧ W (i + 1) m' H') ∧ ∀ x H', J.yld i H x H' → g x (wipe σ vs) H' fun σ2 H2 => wipe σ2 vs = wipe σ vs ∧ tYes σ2 H2 fun b H3 =>
        if b = true then te σ2 H3 fun y H4 => ∃ acc, H4 D = some (.lst acc) ∧ acc.length < sizeLine ∧ Nx (upd H4 D (.lst (acc ++ [y]))) else Nx H3) := by
  refine lc_it w Pv h0 hG (fun i x H H' hi p y => ?_) hd
  have h := hs i x H H' hi p y
  refine Eq.mp (congrArg (g x (wipe σ vs) H') ?_) h
  funext σ2 H2
  simp only [tYes, if_true]
/-- nothing is kept but the values that came: the list holds f of each turn -/
theorem lc_acc {J : It} {n : Nat} {G : Hp → Prop} {Y : Nat → Hp → V → Hp → Prop} (w : Walk J n G Y) {g : TG} {te : TE} {vs : List Nat} {σ : L2.St} {H1 : Hp} {D : Addr} {Qd : Hp → Prop} (Pv : Nat → List V → Hp → Prop) (hn : n < sizeLine) (h0 : Pv 0 [] (upd H1 D (.lst []))) (hG : ∀ i acc H, i ≤ n → Pv i acc H → G H)
    (hs : ∀ i x acc H H', i < n → Pv i acc H → H D = some (.lst acc) → acc.length = i → Y i H x H' → g x (wipe σ vs) H' fun σ2 H2 => wipe σ2 vs = wipe σ vs ∧ te σ2 H2 fun y H4 => H4 D = some (.lst acc) ∧ Pv (i + 1) (acc ++ [y]) (upd H4 D (.lst (acc ++ [y]))))
    (mono : ∀ σ H (Q Q' : VK), (∀ v H1, Q v H1 → Q' v H1) → te σ H Q → te σ H Q') (gmono : ∀ x σ H (Q Q' : L2.St → Hp → Prop), (∀ σ1 H1, Q σ1 H1 → Q' σ1 H1) → g x σ H Q → g x σ H Q')
    (hd : ∀ acc H, Pv n acc H → H D = some (.lst acc) → acc.length = n → Qd H) :
    ∃ W : Nat → Nat → Hp → Prop, (∃ m, W 0 m (upd H1 D (.lst []))) ∧ ∀ i m H, W i m H →
      (J.stop i H ∧ Qd H) ∨ (J.go i H ∧ ∃ Nx : Hp → Prop, (∀ H', Nx H' → ∃ m', m' < m ∧ W (i + 1) m' H') ∧ ∀ x H', J.yld i H x H' → g x (wipe σ vs) H' fun σ2 H2 => wipe σ2 vs = wipe σ vs ∧ tYes σ2 H2 fun b H3 =>
        if b = true then te σ2 H3 fun y H4 => ∃ acc, H4 D = some (.lst acc) ∧ acc.length < sizeLine ∧ Nx (upd H4 D (.lst (acc ++ [y]))) else Nx H3) := by
  refine lc_all w (fun i H => ∃ acc, acc.length = i ∧ H D = some (.lst acc) ∧ Pv i acc H) ⟨[], rfl, upd_same, h0⟩ (fun i H hi ⟨acc, _, _, p⟩ => hG i acc H hi p) (fun i x H H' hi ⟨acc, l, e, p⟩ y => ?_) (fun H ⟨acc, l, e, p⟩ => hd acc H p e l)
  refine gmono _ _ _ _ _ (fun σ1 H2 ⟨a, b⟩ => ⟨a, mono _ _ _ _ (fun v H3 ⟨c, d⟩ => ⟨acc, c, by omega, acc ++ [v], by rw [List.length_append, l]; rfl, upd_same, d⟩) b⟩) (hs i x acc H H' hi p e l y)

/-! ### the end: where each def stands behind the top -/
/-- the name x holds the def st -/
def Here (K : PySem.W.Frag) (mg : Str → Option Value) (x : Str) (st : Stmt) : Prop := ∃ f fd, mg x = some (.ref f) ∧ Fun K x x st f fd
section
variable {P : Program} {w : World} {K : PySem.W.Frag} {mg : Str → Option Value} {base h : Heap}
theorem here (X : K.In h) (G : h.Ns mainGlobals mg) {x : Str} {st : Stmt} {f : Addr} {oc : Value} {od an : Option Addr} {osl : Array (Option Value)} {kV doc pm cdv ct : Value}
    (a : PySem.W.nsIn K mainGlobals x = some (some (.ref f)))
    (l : K.lookup f = some ⟨oc, od, .func (PySem.W.fnOf x x (defArgs st) (defBody st) (defScope st) .none kV doc pm an cdv ct), osl⟩)
    (c : PySem.W.codeIn K cdv x = true) (k : PySem.W.keepIn K (.ref f) = true) : Here K mg x st := ⟨f, _, PySem.W.mg_of X G a, fun_mk l c k⟩
theorem Here.toDef {x : Str} {st : Stmt} {k : Nat} {ps : List Str} {sp : Sp} (z : Here K mg x st) (ok : ∀ {f : Addr} {fd : FuncData}, Fun K x x st f fd → FnOk P w K mg base CX0 k f fd ps sp)
    (b : ∀ (kV doc pm : Value) (an : Option Addr) (cdv ct : Value) (us : List Value), us.length = ps.length → bindArgs (PySem.W.fnOf x x (defArgs st) (defBody st) (defScope st) .none kV doc pm an cdv ct) ⟨us, []⟩ = pure (ps.zip us)) : Def P w K mg base k x st ps sp := by
  obtain ⟨f, fd, hm, F⟩ := z
  exact ⟨f, fd, ok F, hm, F.kp, F.binds b, F⟩
theorem pair_mk (X : K.In h) (G : h.Ns mainGlobals mg) {x : Str} {a : Addr} {i j : Int} {t u : Tok} {dd : Option Addr} {n : Nat} {sl : Array (Option Value)}
    (h1 : PySem.W.nsIn K mainGlobals x = some (some (.ref a))) (h2 : K.lookup a = some ⟨.type "tuple", dd, .seq #[.int i t, .int j u] n, sl⟩) : ∃ a, mg x = some (.ref a) ∧ ∀ H, ITup K H a [.int i, .int j] :=
  ⟨a, PySem.W.mg_of X G h1, fun _ => .inr ⟨_, _, _, h2, rfl, rfl, by show 2 ≤ sizeLine; decide, .cons ⟨_, rfl⟩ (.cons ⟨_, rfl⟩ .nil)⟩⟩
end
end Ly

set_option linter.all false
set_option maxRecDepth 10000
/-! plain mathematics: ratios, sums of products, products of matrices -/
namespace Mt
theorem made_num {t b : Int} (hb : 0 < b) : t / ((Nat.gcd t.natAbs b.natAbs : Nat) : Int) = (Rat.divInt t b).num := by
  rw [Rat.num_divInt, Int.sign_eq_one_of_pos hb, Int.one_mul, Int.gcd_comm]; rfl
theorem made_den {t b : Int} (hb : 0 < b) : b / ((Nat.gcd t.natAbs b.natAbs : Nat) : Int) = ((Rat.divInt t b).den : Int) := by
  rw [Rat.den_divInt, if_neg (by omega), Int.gcd_comm]
  show b / ((Nat.gcd t.natAbs b.natAbs : Nat) : Int) = ((b.natAbs / Nat.gcd t.natAbs b.natAbs : Nat) : Int)
  have e : b = (b.natAbs : Int) := by omega
  rw [Int.natCast_ediv]
  congr 1
theorem gcd_pos {t b : Int} (hb : 0 < b) : (0 : Int) < ((Nat.gcd t.natAbs b.natAbs : Nat) : Int) := by
  have : 0 < Nat.gcd t.natAbs b.natAbs := Nat.gcd_pos_of_pos_right _ (by omega)
  omega
theorem gcd_le {t b : Int} (hb : 0 < b) : ((Nat.gcd t.natAbs b.natAbs : Nat) : Int).natAbs ≤ b.natAbs := by
  show Nat.gcd t.natAbs b.natAbs ≤ b.natAbs
  exact Nat.gcd_le_right _ (by omega)
theorem den_pos (q : Rat) : (0 : Int) < (q.den : Int) := by have := q.den_pos; omega
theorem cop (q : Rat) : Nat.gcd q.num.natAbs ((q.den : Int)).natAbs = 1 := q.reduced
theorem add_as (x y : Rat) : Rat.divInt (x.num * (y.den : Int) + y.num * (x.den : Int)) ((x.den : Int) * (y.den : Int)) = x + y := by
  have hx : (x.den : Int) ≠ 0 := by have := den_pos x; omega
  have hy : (y.den : Int) ≠ 0 := by have := den_pos y; omega
  rw [← Rat.divInt_add_divInt _ _ hx hy, Rat.num_divInt_den, Rat.num_divInt_den]
theorem mul_as (x y : Rat) : Rat.divInt (x.num * y.num) ((x.den : Int) * (y.den : Int)) = x * y := by
  rw [← Rat.divInt_mul_divInt, Rat.num_divInt_den, Rat.num_divInt_den]
theorem num_zero {q : Rat} (h : q.num = 0) : q = 0 := by
  have := Rat.num_divInt_den q
  rw [h] at this
  rw [← this]
  simp
/-- bounds of both parts -/
def Bd (n m : Nat) (q : Rat) : Prop := q.num.natAbs < 2 ^ n ∧ ((q.den : Int)).natAbs < 2 ^ m
theorem Bd.mono {n m n' m' : Nat} {q : Rat} (h : Bd n m q) (hn : n ≤ n') (hm : m ≤ m') : Bd n' m' q :=
  ⟨Nat.lt_of_lt_of_le h.1 (Nat.pow_le_pow_right (by decide) hn), Nat.lt_of_lt_of_le h.2 (Nat.pow_le_pow_right (by decide) hm)⟩
theorem bd_divInt {n m : Nat} {t b : Int} (hb : 0 < b) (ht : t.natAbs < 2 ^ n) (hm : b.natAbs < 2 ^ m) : Bd n m (Rat.divInt t b) := by
  refine ⟨?_, ?_⟩
  · rw [← made_num hb, Int.natAbs_ediv_of_dvd (Int.ofNat_dvd_left.mpr (Nat.gcd_dvd_left _ _))]
    exact Nat.lt_of_le_of_lt (Nat.div_le_self _ _) ht
  · rw [← made_den hb, Int.natAbs_ediv_of_dvd (Int.ofNat_dvd_left.mpr (Nat.gcd_dvd_right _ _))]
    exact Nat.lt_of_le_of_lt (Nat.div_le_self _ _) hm
theorem lt_mul {i j : Int} {a b : Nat} (ha : i.natAbs < 2 ^ a) (hb : j.natAbs < 2 ^ b) : (i * j).natAbs < 2 ^ (a + b) := by
  rw [Int.natAbs_mul, Nat.pow_add]
  exact Nat.mul_lt_mul'' ha hb
theorem lt_add {i j : Int} {a : Nat} (ha : i.natAbs < 2 ^ a) (hb : j.natAbs < 2 ^ a) : (i + j).natAbs < 2 ^ (a + 1) := by
  have := Int.natAbs_add_le i j
  rw [Nat.pow_succ]; omega
theorem lt_up {i : Int} {a b : Nat} (ha : i.natAbs < 2 ^ a) (h : a ≤ b) : i.natAbs < 2 ^ b := Nat.lt_of_lt_of_le ha (Nat.pow_le_pow_right (by decide) h)
theorem Bd.mul {n m n' m' : Nat} {x y : Rat} (h : Bd n m x) (k : Bd n' m' y) : Bd (n + n') (m + m') (x * y) := by
  rw [← mul_as]
  exact bd_divInt (Int.mul_pos (den_pos x) (den_pos y)) (lt_mul h.1 k.1) (lt_mul h.2 k.2)
theorem Bd.add {n m n' m' N : Nat} {x y : Rat} (h : Bd n m x) (k : Bd n' m' y) (h1 : n + m' ≤ N) (h2 : n' + m ≤ N) : Bd (N + 1) (m + m') (x + y) := by
  rw [← add_as]
  exact bd_divInt (Int.mul_pos (den_pos x) (den_pos y)) (lt_add (lt_up (lt_mul h.1 k.2) h1) (lt_up (lt_mul k.1 h.2) h2)) (lt_mul h.2 k.2)
theorem bd_zero {n m : Nat} (hm : 1 ≤ m) : Bd n m 0 := by
  refine ⟨?_, ?_⟩
  · show 0 < 2 ^ n
    exact Nat.two_pow_pos n
  · show 1 < 2 ^ m
    exact Nat.lt_of_lt_of_le (by decide : 1 < 2 ^ 1) (Nat.pow_le_pow_right (by decide) hm)

/-! ### sums of products -/
def dot : List Rat → List Rat → Rat
  | x :: xs, y :: ys => x * y + dot xs ys
  | _, _ => 0
theorem dot_nil (ys : List Rat) : dot [] ys = 0 := by cases ys <;> rfl
theorem dot_nil2 (xs : List Rat) : dot xs [] = 0 := by cases xs <;> rfl
theorem dot_take : ∀ {xs ys : List Rat} {i : Nat} {x y : Rat}, xs[i]? = some x → ys[i]? = some y → dot (xs.take (i + 1)) (ys.take (i + 1)) = dot (xs.take i) (ys.take i) + x * y
  | a :: xs, b :: ys, 0, x, y, h, k => by
    simp at h k; subst h k
    simp [dot]; grind
  | a :: xs, b :: ys, i + 1, x, y, h, k => by
    have ih := dot_take (xs := xs) (ys := ys) (i := i) (by simpa using h) (by simpa using k)
    simp only [List.take_succ_cons, dot] at ih ⊢
    rw [ih]; grind
  | [], _, _, _, _, h, _ => by simp at h
  | _ :: _, [], _, _, _, _, k => by simp at k
/-- a row and a multiple of another one -/
def addS (acc : List Rat) (w : Rat) (r : List Rat) : List Rat := List.zipWith (fun o t => o + w * t) acc r
/-- the sum of multiples of rows, ahead of it acc -/
def comb : List Rat → List (List Rat) → List Rat → List Rat
  | w :: ws, r :: rs, acc => comb ws rs (addS acc w r)
  | _, _, acc => acc
theorem addS_length {acc r : List Rat} {w : Rat} (h : r.length = acc.length) : (addS acc w r).length = acc.length := by
  unfold addS; rw [List.length_zipWith]; omega
theorem addS_zero : ∀ {acc r : List Rat}, r.length = acc.length → addS acc 0 r = acc
  | [], [], _ => rfl
  | a :: acc, b :: r, h => by
    have ih := addS_zero (acc := acc) (r := r) (by simpa using h)
    show (a + 0 * b) :: addS acc 0 r = a :: acc
    rw [ih, Rat.zero_mul, Rat.add_zero]
  | [], _ :: _, h => by simp at h
  | _ :: _, [], h => by simp at h
theorem addS_get {acc r : List Rat} {w : Rat} {k : Nat} {a b : Rat} (ha : acc[k]? = some a) (hb : r[k]? = some b) : (addS acc w r)[k]? = some (a + w * b) := by
  unfold addS; rw [List.getElem?_zipWith, ha, hb]
theorem comb_length : ∀ {ws : List Rat} {rs : List (List Rat)} {acc : List Rat}, (∀ r ∈ rs, r.length = acc.length) → (comb ws rs acc).length = acc.length
  | [], _, _, _ => by simp [comb]
  | _ :: _, [], _, _ => by simp [comb]
  | w :: ws, r :: rs, acc, h => by
    have h0 := h r (List.mem_cons_self ..)
    have e := addS_length (w := w) h0
    show (comb ws rs (addS acc w r)).length = acc.length
    rw [comb_length (fun q hq => by rw [e]; exact h q (List.mem_cons_of_mem _ hq)), e]
/-- the k-th column -/
def col (rs : List (List Rat)) (k : Nat) : List Rat := rs.map fun r => r.getD k 0
theorem comb_get : ∀ {ws : List Rat} {rs : List (List Rat)} {acc : List Rat} {k : Nat} {a : Rat}, (∀ r ∈ rs, r.length = acc.length) → acc[k]? = some a → (comb ws rs acc)[k]? = some (a + dot ws (col rs k))
  | [], rs, acc, k, a, _, ha => by
    rw [dot_nil, Rat.add_zero]; simpa [comb] using ha
  | _ :: _, [], acc, k, a, _, ha => by
    show acc[k]? = some (a + dot _ [])
    rw [dot_nil2, Rat.add_zero]; exact ha
  | w :: ws, r :: rs, acc, k, a, h, ha => by
    have h0 := h r (List.mem_cons_self ..)
    have hk : k < r.length := by rw [h0]; exact (List.getElem?_eq_some_iff.mp ha).1
    have hr : r[k]? = some r[k] := List.getElem?_eq_getElem hk
    have e := addS_length (w := w) h0
    have ih := comb_get (ws := ws) (rs := rs) (acc := addS acc w r) (k := k) (fun q hq => by rw [e]; exact h q (List.mem_cons_of_mem _ hq)) (addS_get (w := w) ha hr)
    show (comb ws rs (addS acc w r))[k]? = some (a + (w * r.getD k 0 + dot ws (col rs k)))
    rw [ih, List.getD_eq_getElem?_getD, hr]
    show some (a + w * r[k] + dot ws (col rs k)) = some (a + (w * r[k] + dot ws (col rs k)))
    rw [Rat.add_assoc]
theorem comb_snoc : ∀ {ws : List Rat} {rs : List (List Rat)} {acc : List Rat} {w : Rat} {r : List Rat}, ws.length = rs.length → comb (ws ++ [w]) (rs ++ [r]) acc = addS (comb ws rs acc) w r
  | [], [], _, _, _, _ => rfl
  | a :: ws, b :: rs, acc, w, r, h => by
    show comb (ws ++ [w]) (rs ++ [r]) (addS acc a b) = addS (comb ws rs (addS acc a b)) w r
    exact comb_snoc (by simpa using h)
  | [], _ :: _, _, _, _, h => by simp at h
  | _ :: _, [], _, _, _, h => by simp at h
/-- one row times a matrix whose rows have n entries -/
def vm (n : Nat) (r : List Rat) (B : List (List Rat)) : List Rat := comb r B (List.replicate n 0)
theorem vm_as {n : Nat} {r : List Rat} {B : List (List Rat)} (h : ∀ b ∈ B, b.length = n) : vm n r B = (List.range n).map fun k => dot r (col B k) := by
  have h' : ∀ b ∈ B, b.length = (List.replicate n (0 : Rat)).length := fun b hb => by rw [h b hb, List.length_replicate]
  apply List.ext_getElem?
  intro k
  by_cases hk : k < n
  · have e : (List.replicate n (0 : Rat))[k]? = some 0 := by rw [List.getElem?_replicate, if_pos hk]
    have := comb_get (ws := r) h' e
    unfold vm
    rw [this, List.getElem?_map, List.getElem?_range hk, Rat.zero_add]
    rfl
  · have l1 : (vm n r B).length = n := by unfold vm; rw [comb_length h', List.length_replicate]
    rw [List.getElem?_eq_none (by omega), List.getElem?_eq_none (by simp; omega)]
theorem vm_length {n : Nat} {r : List Rat} {B : List (List Rat)} (h : ∀ b ∈ B, b.length = n) : (vm n r B).length = n := by
  rw [vm_as h]; simp
def mm (n : Nat) (A B : List (List Rat)) : List (List Rat) := A.map fun r => vm n r B
theorem dot_addS : ∀ {acc b c : List Rat} {w : Rat}, b.length = acc.length → dot (addS acc w b) c = dot acc c + w * dot b c
  | [], [], c, w, _ => by
    show dot [] c = dot [] c + w * dot [] c
    rw [dot_nil]; grind
  | x :: acc, y :: b, [], w, _ => by
    rw [dot_nil2, dot_nil2, dot_nil2]; grind
  | x :: acc, y :: b, z :: c, w, h => by
    have ih := dot_addS (acc := acc) (b := b) (c := c) (w := w) (by simpa using h)
    show (x + w * y) * z + dot (addS acc w b) c = x * z + dot acc c + w * (y * z + dot b c)
    rw [ih]; grind
  | [], _ :: _, _, _, h => by simp at h
  | _ :: _, [], _, _, h => by simp at h
theorem dot_comb : ∀ {ws : List Rat} {rs : List (List Rat)} {acc c : List Rat}, (∀ r ∈ rs, r.length = acc.length) → dot (comb ws rs acc) c = dot acc c + dot ws (rs.map fun r => dot r c)
  | [], rs, acc, c, _ => by
    rw [dot_nil, Rat.add_zero]; simp [comb]
  | _ :: _, [], acc, c, _ => by
    show dot acc c = dot acc c + dot _ []
    rw [dot_nil2, Rat.add_zero]
  | w :: ws, r :: rs, acc, c, h => by
    have h0 := h r (List.mem_cons_self ..)
    have e := addS_length (w := w) h0
    have ih := dot_comb (ws := ws) (rs := rs) (acc := addS acc w r) (c := c) (fun q hq => by rw [e]; exact h q (List.mem_cons_of_mem _ hq))
    show dot (comb ws rs (addS acc w r)) c = dot acc c + (w * dot r c + dot ws (rs.map fun r => dot r c))
    rw [ih, dot_addS h0, Rat.add_assoc]
theorem dot_zeros : ∀ {n : Nat} {c : List Rat}, dot (List.replicate n 0) c = 0
  | 0, c => dot_nil c
  | n + 1, [] => dot_nil2 _
  | n + 1, z :: c => by
    rw [List.replicate_succ]
    show 0 * z + dot (List.replicate n 0) c = 0
    rw [dot_zeros, Rat.zero_mul, Rat.add_zero]
theorem dot_vm {n : Nat} {r c : List Rat} {B : List (List Rat)} (h : ∀ b ∈ B, b.length = n) : dot (vm n r B) c = dot r (B.map fun b => dot b c) := by
  unfold vm
  rw [dot_comb (fun b hb => by rw [h b hb, List.length_replicate]), dot_zeros, Rat.zero_add]
/-- of three matrices it is the same whichever two come first -/
theorem mm_assoc {n m : Nat} {A B C : List (List Rat)} (hB : ∀ b ∈ B, b.length = n) (hC : ∀ c ∈ C, c.length = m) : mm m (mm n A B) C = mm m A (mm m B C) := by
  unfold mm
  rw [List.map_map]
  refine List.map_congr_left fun r _ => ?_
  show vm m (vm n r B) C = vm m r (B.map fun b => vm m b C)
  have hM : ∀ x ∈ B.map (fun b => vm m b C), x.length = m := fun x hx => by
    obtain ⟨b', _, rfl⟩ := List.mem_map.mp hx
    exact vm_length hC
  rw [vm_as hM, vm_as (r := vm n r B) hC]
  refine List.map_congr_left fun k hk => ?_
  have hk' : k < m := List.mem_range.mp hk
  rw [dot_vm hB]
  congr 1
  unfold col
  rw [List.map_map]
  refine List.map_congr_left fun b _ => ?_
  show dot b (C.map fun r => r.getD k 0) = (vm m b C).getD k 0
  rw [vm_as hC, List.getD_eq_getElem?_getD, List.getElem?_map, List.getElem?_range hk']
  rfl
/-! ### bounds of what comes -/
theorem bd_dot {N M : Nat} : ∀ {i : Nat} {xs ys : List Rat}, (∀ x ∈ xs, ∀ y ∈ ys, Bd N M (x * y)) → xs.length ≤ i → Bd (N + i * (M + 2)) (i * M + 1) (dot xs ys)
  | i, [], ys, _, _ => by rw [dot_nil]; exact bd_zero (by omega)
  | i, _ :: _, [], _, _ => by rw [dot_nil2]; exact bd_zero (by omega)
  | 0, _ :: _, _ :: _, _, h => by simp at h
  | i + 1, x :: xs, y :: ys, h, hl => by
    have ih := bd_dot (i := i) (xs := xs) (ys := ys) (fun a ha b hb => h a (List.mem_cons_of_mem _ ha) b (List.mem_cons_of_mem _ hb)) (by simpa using hl)
    have h0 := h x (List.mem_cons_self ..) y (List.mem_cons_self ..)
    have e1 : (i + 1) * (M + 2) = i * M + 2 * i + M + 2 := by grind
    have e2 : (i + 1) * M = i * M + M := by grind
    have e3 : i * (M + 2) = i * M + 2 * i := by grind
    show Bd _ _ (x * y + dot xs ys)
    have q := Bd.add h0 ih (N := N + i * M + 2 * i + M + 1) (by omega) (by rw [e3]; omega)
    refine q.mono (by rw [e1]; omega) (by rw [e2]; omega)
theorem bd_vm {n : Nat} {ws : List Rat} {B : List (List Rat)} (h : ∀ b ∈ B, b.length = n) (hw : ∀ x ∈ ws, Bd 400 40 x) (hB : ∀ b ∈ B, ∀ y ∈ b, Bd 400 40 y) (hl : ws.length ≤ 48) : ∀ q ∈ vm n ws B, Bd 5000 4000 q := by
  intro q hq
  rw [vm_as h] at hq
  obtain ⟨k, hk, rfl⟩ := List.mem_map.mp hq
  have hk' := List.mem_range.mp hk
  refine (bd_dot (N := 800) (M := 80) (i := 48) (fun x hx y hy => ?_) hl).mono (by decide) (by decide)
  obtain ⟨b, hb, rfl⟩ := List.mem_map.mp hy
  have e : b.getD k 0 ∈ b := by
    have hkb : k < b.length := by rw [h b hb]; exact hk'
    rw [List.getD_eq_getElem?_getD, List.getElem?_eq_getElem hkb]
    exact List.getElem_mem hkb
  exact (Bd.mul (hw x hx) (hB b hb _ e)).mono (by decide) (by decide)
theorem vm_step {n i : Nat} {ws : List Rat} {B : List (List Rat)} {w : Rat} {r : List Rat} (hl : ws.length = B.length) (hw : ws[i]? = some w) (hr : B[i]? = some r) : vm n (ws.take (i + 1)) (B.take (i + 1)) = addS (vm n (ws.take i) (B.take i)) w r := by
  unfold vm
  rw [List.take_add_one, List.take_add_one, hw, hr]
  exact comb_snoc (by rw [List.length_take, List.length_take, hl])
end Mt

set_option Elab.async false
set_option linter.all false
set_option maxRecDepth 100000
/-! ratios, vectors and matrices as data -/
namespace Ly
open PySem PySem.Spec PyProof.Rows L2 Mt
def rD (q : Rat) : PyData := .tuple [.int q.num, .int (q.den : Int)]
def vD (r : List Rat) : PyData := .tuple (r.map rD)
def mD (A : List (List Rat)) : PyData := .tuple (A.map vD)
section
variable {K : PySem.W.Frag} {H H' : Hp} {v : V}
theorem ity {a : Addr} {xs : List V} (h : ITup K H a xs) : TyX K H (.ref a) (.type "tuple") := by
  rcases h with h | ⟨o, its, n, hk, hc, _⟩
  · exact .base (.tup h)
  · exact .kTuple hk hc
theorem rat_inv {q : Rat} (h : Im K H v (rD q)) : ∃ p, v = .ref p ∧ ITup K H p [.int q.num, .int (q.den : Int)] := by
  obtain ⟨a, xs, rfl, h1, h2⟩ := h.tuple_inv
  obtain ⟨x, r, rfl, h3, h4⟩ := h2.cons_inv
  obtain ⟨y, r', rfl, h5, h6⟩ := h4.cons_inv
  rw [h6.nil_inv, h3.int_inv, h5.int_inv] at h1
  exact ⟨a, rfl, h1⟩
theorem rat_mk {q : Rat} {p : Addr} (h : ITup K H p [.int q.num, .int (q.den : Int)]) : Im K H (.ref p) (rD q) := .tup h (.cons (.int _) (.cons (.int _) .nil))
theorem vec_inv {r : List Rat} (h : Im K H v (vD r)) : ∃ p xs, v = .ref p ∧ ITup K H p xs ∧ ImAll K H xs (r.map rD) := h.tuple_inv
theorem mat_inv {A : List (List Rat)} (h : Im K H v (mD A)) : ∃ p xs, v = .ref p ∧ ITup K H p xs ∧ ImAll K H xs (A.map vD) := h.tuple_inv
theorem all_get {α : Type} {f : α → PyData} {xs : List V} {l : List α} {i : Nat} {x : V} (h : ImAll K H xs (l.map f)) (e : xs[i]? = some x) : ∃ a, l[i]? = some a ∧ Im K H x (f a) := by
  obtain ⟨d, h1, h2⟩ := h.getV e
  rw [List.getElem?_map] at h1
  cases hl : l[i]? with
  | none => rw [hl] at h1; simp at h1
  | some a =>
    rw [hl] at h1
    have : f a = d := by simpa using h1
    subst this
    exact ⟨a, rfl, h2⟩
theorem all_at {α : Type} {f : α → PyData} {xs : List V} {l : List α} {i : Nat} {a : α} (h : ImAll K H xs (l.map f)) (e : l[i]? = some a) : ∃ x, xs[i]? = some x ∧ Im K H x (f a) := h.get (by rw [List.getElem?_map, e]; rfl)
theorem all_len {α : Type} {f : α → PyData} {xs : List V} {l : List α} (h : ImAll K H xs (l.map f)) : xs.length = l.length := by rw [h.length, List.length_map]
theorem all_rep {α : Type} {f : α → PyData} {x : V} {a : α} (h : Im K H x (f a)) : ∀ n : Nat, ImAll K H (List.replicate n x) ((List.replicate n a).map f)
  | 0 => .nil
  | n + 1 => by
    rw [List.replicate_succ, List.replicate_succ, List.map_cons]
    exact .cons h (all_rep h n)
theorem flat1 {x : V} : ∀ n : Nat, (List.replicate n [x]).flatten = List.replicate n x
  | 0 => rfl
  | n + 1 => by
    rw [List.replicate_succ, List.flatten_cons, flat1 n]; rfl
/-- the parts so far, one more -/
theorem all_snoc {α : Type} {f : α → PyData} {xs : List V} {l : List α} {i : Nat} {a : α} {x : V} (h : ImAll K H xs ((l.take i).map f)) (e : l[i]? = some a) (r : Im K H x (f a)) : ImAll K H (xs ++ [x]) ((l.take (i + 1)).map f) := by
  rw [List.take_add_one, e, List.map_append]
  exact h.snoc r
end
end Ly

set_option Elab.async false
set_option linter.all false
set_option maxRecDepth 100000
/-! enumerate of a tuple; methods and instances of own classes by their defs -/
namespace Ly
open PySem PySem.Spec PyProof.Rows L2
/-- iter and enumerate as they are laid -/
abbrev tupIt (a : Addr) : Obj := { cls := .type "tuple_iterator", data := .fields #[.ref a, .int 0 0] }
abbrev enumOf (n : Nat) : Obj := { cls := .type "enumerate", data := .fields #[.none, .bool false, .ref n, rawInt 0, .none, .none] }
theorem meets_enumT (a : Addr) (items : Array Value) :
    Meets (Builtin.«enumerate.__new__» ⟨[.type "enumerate", .ref a], []⟩) (fun _ R s => s.heap.IsTuple a items ∧ R (.ok (.ret (.ref (s.heap.push (tupIt a)).objs.size))) { s with heap := (s.heap.push (tupIt a)).push (enumOf s.heap.objs.size) }) :=
  .of_wp fun prog w A R s h => by
    obtain ⟨hp, g, d, tk, os⟩ := s
    obtain ⟨h1, h⟩ := h
    have sub := sub_enumerate
    have go : ∀ {A' : Around} {E Q : Value → Shared → Prop}, Q (.ref hp.objs.size) ⟨hp.push (tupIt a), g, d, tk, os⟩ → wpAny (model prog w) A' (pyIter (.ref a)) Q E ⟨hp, g, d, tk, os⟩ := fun q => (begins_tuple a items).iter prog w _ _ ⟨hp, g, d, tk, os⟩ _ h1 q
    have ld : ∃ o, hp.get? a = some o ∧ o.cls = .type "tuple" := let ⟨o, e1, e2, _⟩ := h1; ⟨o, e1, e2⟩
    obtain ⟨⟨oc, od, dt, sl⟩, lo, lc⟩ := ld
    simp only at lc
    subst lc
    wp_walk using AutoSeq1.wpAny_loadPart' lo, go
    refine wpAny_stack_any fun st => wpAny_pure ?_
    split
    · rename_i c _ _ _ _ _
      cases (c == Value.type "enumerate") <;> (wp_walk using AutoSeq1.wpAny_loadPart' lo, go; exact ⟨_, rfl, h⟩)
    · wp_walk using AutoSeq1.wpAny_loadPart' lo, go
      exact ⟨_, rfl, h⟩
theorem call_enumT {prog : Program} {w : World} {A : Around} {E : Value → Shared → Prop} {s : Shared} {a : Addr} {items : Array Value} {Q : Value → Shared → Prop} (hT : s.heap.IsTuple a items)
    (h : ∀ h', IsEnum h' (s.heap.objs.size + 1) s.heap.objs.size 0 .none → h'.IsTupleIter s.heap.objs.size a 0 → (∀ b o, s.heap.get? b = some o → h'.get? b = some o) → Q (.ref (s.heap.objs.size + 1)) { s with heap := h' }) :
    wpAny (model prog w) A (call (.type "enumerate") [.ref a]) Q E s := by
  refine callType_new F.called_enumerate (by decide) (F.typeCall_enumerate_1 _) (F.newCall_enumerate_1 _) (fun obj => F.args_object_init_2 obj _) F.entry_enumerate_new (meets_enumT a items) ⟨hT, ?_⟩
  have z1 : (s.heap.push (tupIt a)).objs.size = s.heap.objs.size + 1 := Heap.size_push ..
  have g2 : ((s.heap.push (tupIt a)).push (enumOf s.heap.objs.size)).get? (s.heap.push (tupIt a)).objs.size = some (enumOf s.heap.objs.size) := Heap.get?_push_size _ rfl
  have g1 : ((s.heap.push (tupIt a)).push (enumOf s.heap.objs.size)).get? s.heap.objs.size = some (tupIt a) := Heap.get?_push_of_some _ (Heap.get?_push_size _ rfl)
  show _ ∧ _
  rw [z1] at g2 ⊢
  exact ⟨⟨_, g2, rfl⟩, h _ g2 ⟨_, g1, rfl, rfl⟩ fun b o x => Heap.get?_push_of_some _ (Heap.get?_push_of_some _ x)⟩
/-- the tuple at a as it stands at each turn, its items with their numbers in new pairs -/
def IteT (K : PySem.W.Frag) (a : Addr) : It where
  go := fun i H => ∃ xs x, SqT K H a xs ∧ xs[i]? = some x
  yld := fun i H v H' => ∃ T x, v = .ref T ∧ H T = none ∧ H' = upd H T (.tup [.int (i : Nat), x]) ∧ ∀ l, SqT K H a l → l[i]? = some x
  stop := fun i H => ∃ xs : List V, SqT K H a xs ∧ xs.length = i
theorem in2 {z a b : Addr} (h : z ∈ [a, b]) : z = a ∨ z = b := by simpa using h
theorem turnE {P : Program} {w : World} {K : PySem.W.Frag} {elts : List Expr} {kk : Nat} {tpos : Pos} {a e it : Addr} (ne : e ≠ it) :
    Turn P w K (.Tuple elts kk tpos) (IteT K a) [e, it] e (fun i h => (∃ old, IsEnum h e it ((i : Nat) : Int) old) ∧ h.IsTupleIter it a i) := by
  refine { mem := List.mem_cons_self .., obj := ?_, keep := ?_, item := ?_, done := ?_, self := fun A i s Q E st h => let ⟨⟨_, he⟩, _⟩ := st; wpAny_pyIter_enum he h }
  · rintro i h ⟨⟨old, he⟩, ⟨o, ho, hc, hd⟩⟩ b hb
    rcases in2 hb with z | z <;> subst z
    · exact ⟨_, he, fun v q => nomatch q⟩
    · exact ⟨o, ho, fun v q => by rw [hd] at q; cases q⟩
  · rintro i h h' ⟨⟨old, he⟩, hi⟩ k
    exact ⟨⟨old, k e (by simp) _ he⟩, hi.at fun o q => k it (by simp) o q⟩
  · intro X hP hw hK hc i pins s σ H E I hf st hg
    subst hP hw hK
    obtain ⟨⟨old, he⟩, hit⟩ := st
    obtain ⟨xs, x, hq, hx⟩ := hg
    obtain ⟨its, rv, p, _⟩ := I.tuple hq
    obtain ⟨u, hu, ru⟩ := rv.get hx
    have le : e < s.heap.objs.size := Heap.lt_size he
    have li : it < s.heap.objs.size := by obtain ⟨_, q, _⟩ := hit; exact Heap.lt_size q
    have na : a ≠ it := fun q => by
      obtain ⟨o, ho, c, _⟩ := hit
      obtain ⟨o', ho', c', _⟩ := p
      rw [← q, ho'] at ho; cases ho
      rw [c'] at c; simp at c
    have nea : e ≠ a := fun q => by
      obtain ⟨o', ho', c', _⟩ := p
      rw [← q, he] at ho'; cases ho'
      simp at c'
    have hd : X.A.in1.handled = none := I.ok.hd hc
    have D := Draws.tuple (prog := X.prog) (w := X.w) hd it a na its.toArray
    have s1 : i < its.toArray.size := by
      have := (List.getElem?_eq_some_iff.mp hu).1
      simpa using this
    refine wpAny_pyNext_enum_itemC D he ⟨hit, p⟩ s1 ne (by simp [ne, nea]) fun v h' tk ev out st' hT hsz hk => ?_
    have eu : u = v := by
      have : its[i]? = some v := by simpa using ev
      rw [hu] at this; exact Option.some.inj this
    subst eu
    refine ⟨_, rfl, wpAny_letOwnedTupleGo_enum (s := { s with heap := h', toks := tk + 1 }) out fun h2 he2 sb => ?_⟩
    have pair : h2.get? s.heap.objs.size = some { cls := .type "tuple", data := .seq #[.int ((i : Nat) : Int) tk, u] } := (sb.2 _ (Nat.ne_of_gt le)).trans hT
    have new : ObjOk X.prog X.w (upd H s.heap.objs.size (.tup [.int (i : Nat), x])) h2 s.heap.objs.size (.tup [.int (i : Nat), x]) := ⟨by show 2 ≤ sizeLine; decide, [.int ((i : Nat) : Int) tk, u], .cons ⟨_, rfl⟩ (.cons ru .nil), ⟨_, pair, rfl, _, rfl⟩⟩
    have I2 : Inv X pins σ (upd H s.heap.objs.size (.tup [.int (i : Nat), x])) { s with heap := h2, toks := tk + 1 } :=
      I.turnedNew (ch := [e, it]) (fun b o hb q => (sb.2 b (fun z => hb (by simp [z]))).trans (hk b o (fun z => hb (by simp [z])) (fun z => hb (by simp [z])) q)) hf (Nat.le_refl _) new
    refine ⟨.ref s.heap.objs.size, _, I2, rfl, ⟨_, x, rfl, I.hok.fresh (Nat.le_refl _), rfl, fun l hl => by rw [I.tuple_inj hl hq]; exact hx⟩, ⟨⟨u, ?_⟩, st'.1.at fun o q => (sb.2 it ne.symm).trans q⟩, fun b hb => ?_⟩
    · rw [show ((i + 1 : Nat) : Int) = (i : Int) + 1 by omega]
      exact he2
    · have hb' : b < s.heap.objs.size := by rcases in2 hb with z | z <;> rw [z] <;> assumption
      rw [upd_ne (Nat.ne_of_lt hb')]
      exact (hf b hb).1
  · intro X hP hw hK hc i pins s σ H E I hf st hg
    subst hP hw hK
    obtain ⟨⟨old, he⟩, hit⟩ := st
    obtain ⟨xs, hq, hx⟩ := hg
    obtain ⟨its, rv, p, _⟩ := I.tuple hq
    have na : a ≠ it := fun q => by
      obtain ⟨o, ho, c, _⟩ := hit
      obtain ⟨o', ho', c', _⟩ := p
      rw [← q, ho'] at ho; cases ho
      rw [c'] at c; simp at c
    have hd : X.A.in1.handled = none := I.ok.hd hc
    have hl := rv.length
    have es : its.toArray.size = i := by simp; omega
    obtain ⟨f0, f1, f2, f3, f4, f5⟩ := hf it (by simp)
    exact wpAny_pyNext_enum_endD (Draws.tuple (prog := X.prog) (w := X.w) hd it a na its.toArray) he (by rw [es]; exact ⟨hit, p⟩) fun h' eb => ⟨rfl, I.turned (t' := s.toks) (fun b o hb q => eb b o hb q) f0 f1 f3 f4 f5⟩
def iEnumT (K : PySem.W.Frag) (ta : TA) : TI := fun σ H R => ta σ H fun vs H1 => ∃ a xs, vs = [.ref a] ∧ SqT K H1 a xs ∧ R (IteT K a) H1
theorem kpi_enumT {X : Cx} (K : PySem.W.Frag) {e : Expr} {ta : TA} {p pos tpos : Pos} {elts : List Expr} {kk : Nat} (hg : Gl X "enumerate") (hm : X.mg "enumerate" = none) (ha : PA X [e] ta) (hs : starEach [e] X.env = [(false, eval e X.env)] := by rfl) (ek : X.K = K := by rfl) :
    PI X (.Tuple elts kk tpos) (.Call (.Name "enumerate" p) [e] [] pos) (iEnumT K ta) := by
  subst ek
  refine ⟨fun pins s σ H R I h => Call_ (ld_blt I hg hm boot_enumerate (PyProof.Rows.callWith_type1 (thn (ha.run pos pins s σ H _ I h) ?_) hs rfl))⟩
  rintro us s1 ⟨vs, H1, I1, r1, a, xs, rfl, hq, q⟩
  cases r1 with | cons r rr =>
  cases rr
  cases r
  obtain ⟨its, rv, p', _⟩ := I1.tuple hq
  refine call_enumT (show s1.heap.IsTuple a its.toArray from p') fun h' he hit hk => wpAny_pyIter_enum he ?_
  have I2 : Inv X pins σ H1 { s1 with heap := h' } := I1.kept (t' := s1.toks) hk
  refine ⟨s1.heap.objs.size + 1, [s1.heap.objs.size + 1, s1.heap.objs.size], _, _, H1, rfl, I2, turnE (Nat.succ_ne_self _), ⟨⟨.none, he⟩, hit⟩, fun b hb => ?_, q⟩
  have le : s1.heap.objs.size ≤ b := by
    rcases in2 hb with z | z <;> rw [z] <;> first | exact Nat.le_refl _ | exact Nat.le_add_right _ _
  exact I1.fpOk le (I1.hok.fresh le)
theorem walk_enumT {K : PySem.W.Frag} {a : Addr} {xs : List V} : Walk (IteT K a) xs.length (fun H => SqT K H a xs) (YPair (fun i => some (.int (i : Nat))) (fun i => xs[i]?)) := by
  refine ⟨fun i _ hi q => ⟨xs, xs[i], q, by simp [hi]⟩, fun _ q => ⟨xs, q, rfl⟩, fun i H v H' _ q y => ?_⟩
  obtain ⟨T, x, h1, h2, h3, h4⟩ := y
  exact ⟨T, .int (i : Nat), x, h1, h2, h3, rfl, h4 xs q⟩
/-! ### own classes -/
section
variable (P : Program) (w : World) (K : PySem.W.Frag) (mg : Str → Option Value) (base : Heap)
/-- the method m of the class at C keeps the promise -/
structure Met (k : Nat) (C : Addr) (m : Str) (ps : List Str) (sp : Sp) : Prop where
  ex : ∃ (f : Addr) (fd : FuncData), FnOk P w K mg base CX0 k f fd ps sp ∧ Meth K C m f ∧ L2.Binds K fd ps []
/-- the class's __init__ does -/
structure Ini (k : Nat) (C : Addr) (ps : List Str) (sp : Sp) : Prop where
  ex : ∃ (f : Addr) (fd : FuncData), FnOk P w K mg base CX0 k f fd ps sp ∧ Mk K C f ∧ L2.Binds K fd ps []
end
section
variable {X : Cx} {k : Nat} {C : Addr} {m x : Str} {ps : List Str} {sp : Sp} {apos p pos : Pos} {o e : Expr} {es : List Expr} {to : TE} {t : TA}
theorem pe_ini (O : Ini X.prog X.w X.K X.mg X.base k C ps sp) (hr : Room (k + 1) X.A) (hg : Gl X x) (hm : X.mg x = some (.ref C)) (ha : PA X (e :: es) t) (hdb : (x == ("__debug__" : Str)) = false := by decide)
    (he : starEach (e :: es) X.env = (false, eval e X.env) :: starEach es X.env := by rfl) (hpl : (backTo pos (starEach es X.env)).any (·.1) = false := by rfl) : PE X (.Call (.Name x p) (e :: es) [] pos) (tMake C sp [] E0 t) := by
  obtain ⟨f, fd, F, M, hb⟩ := O.ex
  exact pe_make M F hr hg hm hb .nil pass0 ha hdb he hpl
theorem pe_met {pl : Sem Bool} (O : Met X.prog X.w X.K X.mg X.base k C m ps sp) (c : Cls X.K C) (hr : Room k X.A) (ho : PE X o to) (ha : PA X (e :: es) t)
    (hst : starEach (e :: es) X.env = (false, eval e X.env) :: starEach es X.env := by rfl) (hpl : (backTo pos (starEach es X.env)).any (·.1) = false := by rfl)
    (ht : eval (.Call (.Attribute o m apos) (e :: es) [] pos) X.env = (do
      let ov ← eval o X.env
      standAt apos.atName
      let (f, first) ← holding [ov] (getMethod ov m pl)
      callWith pos f first (backTo pos (starEach (e :: es) X.env)) (backToKw pos (keywordEach [] X.env))) := by rfl) : PE X (.Call (.Attribute o m apos) (e :: es) [] pos) (tMeth C m sp [] E0 to t) := by
  obtain ⟨f, fd, F, M, hb⟩ := O.ex
  exact pe_meth ho c M F hr hb .nil pass0 ha hst hpl ht
theorem kpe_fld (K : PySem.W.Frag) {f : Str} (ho : PE X o to) (hb : attributeBase o f X.env (eval o X.env) = eval o X.env := by rfl) (ek : X.K = K := by rfl) : PE X (.Attribute o f pos) (tFld K to f) := by
  subst ek
  exact pe_fld ho hb
end
end Ly

set_option Elab.async false
set_option linter.all false
set_option maxRecDepth 100000
set_option maxHeartbeats 4000000
/-! tuple * int for 0 and 1 too; items of a list or a tuple, whichever it be -/
namespace Ly
open PySem PySem.Spec PyProof.Rows L2
theorem tuple_mul0 (l : Addr) (items : Array Value) (n : Nat) (dd : Option Addr) (sl : Array (Option Value)) (u : Tok) (hi : items.isEmpty = false) :
    Meets (Builtin.«tuple.__mul__» ⟨[.ref l, .int 0 u], []⟩) (fun _ R s => s.heap.get? l = some { cls := .type "tuple", dict := dd, data := .seq items n, slots := sl } ∧
      R (.ok (.ret (Value.ref s.heap.objs.size))) { s with heap := s.heap.push { cls := Value.type "tuple", data := Data.seq #[] }, toks := s.toks }) :=
  .of_wp fun prog w A R s h => by
    obtain ⟨hp, g, d, tk, os⟩ := s
    obtain ⟨hl, h⟩ := h
    have f1 := AutoSeq1.idx_int
    wp_walk using wpAny_loadPart' hl
    repeat (first
      | (refine wpAny_ite_false (decide_eq_false (by rw [hi]; decide)) ?_; wp_walk using wpAny_loadPart' hl)
      | (refine wpAny_ite_true (decide_eq_true (by rw [hi]; decide)) ?_; wp_walk using wpAny_loadPart' hl)
      | (refine wpAny_ite_false (decide_eq_false (by decide)) ?_; wp_walk using wpAny_loadPart' hl)
      | (refine wpAny_ite_true (decide_eq_true (by decide)) ?_; wp_walk using wpAny_loadPart' hl))
    exact ⟨_, rfl, h⟩
theorem tuple_mul1 (l : Addr) (items : Array Value) (n : Nat) (dd : Option Addr) (sl : Array (Option Value)) (u : Tok) (hi : items.isEmpty = false) :
    Meets (Builtin.«tuple.__mul__» ⟨[.ref l, .int 1 u], []⟩) (fun _ R s => s.heap.get? l = some { cls := .type "tuple", dict := dd, data := .seq items n, slots := sl } ∧
      R (.ok (.ret (Value.ref l))) s) :=
  .of_wp fun prog w A R s h => by
    obtain ⟨hp, g, d, tk, os⟩ := s
    obtain ⟨hl, h⟩ := h
    have f1 := AutoSeq1.idx_int
    wp_walk using wpAny_loadPart' hl
    repeat (first
      | (refine wpAny_ite_false (decide_eq_false (by rw [hi]; decide)) ?_; wp_walk using wpAny_loadPart' hl)
      | (refine wpAny_ite_true (decide_eq_true (by rw [hi]; decide)) ?_; wp_walk using wpAny_loadPart' hl)
      | (refine wpAny_ite_false (decide_eq_false (by decide)) ?_; wp_walk using wpAny_loadPart' hl)
      | (refine wpAny_ite_true (decide_eq_true (by decide)) ?_; wp_walk using wpAny_loadPart' hl))
    exact ⟨_, rfl, h⟩
def rRepTA (K : PySem.W.Frag) : R2 := fun x y H Q => ∃ l k xs, x = .ref l ∧ y = .int k ∧ SqT K H l xs ∧ xs ≠ [] ∧ 0 ≤ k ∧ k ≤ 1000 ∧ xs.length ≤ 1000 ∧ (k = 1 → Q (.ref l) H) ∧ (k ≠ 1 → ∀ p, H p = none → Q (.ref p) (upd H p (.tup (List.replicate k.toNat xs).flatten)))
section
variable {X : Cx}
theorem op_repTA : OpR X (binaryOp .Mult) (rRepTA X.K) := by
  intro pins s σ H x y v u Q I rx ry h
  obtain ⟨l, k, xs, rfl, rfl, hT, hne, h1, h2, hz, q1, q2⟩ := h
  by_cases k2 : 2 ≤ k
  · exact op_repT pins s σ H _ _ v u Q I rx ry ⟨l, k, xs, rfl, rfl, hT, hne, k2, h2, hz, q2 (by omega)⟩
  cases rx
  obtain ⟨t, rfl⟩ := ry
  obtain ⟨its, r, ⟨⟨cls, dd, data, sl⟩, ho, hc, n, hd⟩, hs⟩ := I.tuple hT
  simp only at hc hd
  subst hc hd
  have hle : its.length = xs.length := r.length.symm
  have hn : its ≠ [] := fun e => hne (by
    rw [e] at hle
    exact List.eq_nil_of_length_eq_zero hle.symm)
  have hi : its.toArray.isEmpty = false := by
    cases its with
    | nil => exact absurd rfl hn
    | cons a b => rfl
  have hk : k = 0 ∨ k = 1 := by omega
  rcases hk with rfl | rfl
  · refine wpAny_binaryOp_repeat_ref (T := "tuple") (U := "int") (by decide) ⟨_, ho, rfl⟩ (fun s' => typeIs_int s' 0 t) noFill_tuple_mul F.fills_int_mul F.slot_int_rmul repeat_tuple F.slot_int_index.lookup
      (call_meets F.slot_int_rmul (typeIs_int s 0 t) F.entry_int_rmul (F.args_int_rmul_2 _ _) (int_rmul_tuple 0 t l its.toArray n dd sl)
        ⟨ho, rfl, ⟨_, ho, rfl⟩, call_meets F.slot_tuple_mul ⟨_, ho, rfl⟩ F.entry_tuple_mul (F.args_tuple_mul_2 _ _) (tuple_mul0 l its.toArray n dd sl t hi) ⟨ho, ?_⟩⟩)
    refine ⟨.ref s.heap.objs.size, _, I.laid (t' := s.toks) (o := .tup []) (fun b ob q => Heap.get?_push_of_some _ q) (Nat.le_refl _) ?_, rfl, q2 (by decide) _ (I.hok.fresh (Nat.le_refl _))⟩
    exact ⟨Nat.zero_le _, [], .nil, IsTup.new _ _⟩
  · exact wpAny_binaryOp_repeat_ref (T := "tuple") (U := "int") (by decide) ⟨_, ho, rfl⟩ (fun s' => typeIs_int s' 1 t) noFill_tuple_mul F.fills_int_mul F.slot_int_rmul repeat_tuple F.slot_int_index.lookup
      (call_meets F.slot_int_rmul (typeIs_int s 1 t) F.entry_int_rmul (F.args_int_rmul_2 _ _) (int_rmul_tuple 1 t l its.toArray n dd sl)
        ⟨ho, rfl, ⟨_, ho, rfl⟩, call_meets F.slot_tuple_mul ⟨_, ho, rfl⟩ F.entry_tuple_mul (F.args_tuple_mul_2 _ _) (tuple_mul1 l its.toArray n dd sl t hi) ⟨ho, ⟨.ref l, H, I, rfl, q1 rfl⟩⟩⟩)
/-! ### a list or a tuple -/
def rIxA (K : PySem.W.Frag) : R2 := fun x y H Q => ∃ p xs i v, x = .ref p ∧ y = .int i ∧ (SqL K H p xs ∨ SqT K H p xs) ∧ atI xs i = some v ∧ Q v H
theorem kix_any (K : PySem.W.Frag) (e : X.K = K := by rfl) : IxR X (rIxA K) := by
  subst e
  intro value slice pins s σ H x y v u Q I rx ry h hs
  obtain ⟨p, xs, i, z, e1, e2, hq, he, q⟩ := h
  rcases hq with hq | hq
  · exact ix_list value slice pins s σ H x y v u Q I rx ry ⟨p, xs, i, z, e1, e2, hq, he, q⟩ hs
  · exact ix_tup value slice pins s σ H x y v u Q I rx ry ⟨p, xs, i, z, e1, e2, hq, he, q⟩ hs
def iAny (K : PySem.W.Frag) (tl : TE) : TI := fun σ H R => tl σ H fun x H1 => ∃ a, x = .ref a ∧ (((∃ xs, SqL K H1 a xs) ∧ R (Itl K a) H1) ∨ ((∃ xs, SqT K H1 a xs) ∧ R (Itt K a) H1))
theorem kpi_any (K : PySem.W.Frag) {tg l : Expr} {tl : TE} (hl : PE X l tl) (e : X.K = K := by rfl) : PI X tg l (iAny K tl) := by
  subst e
  refine ⟨fun pins s σ H R I h => ?_⟩
  refine thn (hl.run pins s σ H _ I h) fun v s1 ⟨x, H1, I1, r1, q1⟩ => ?_
  obtain ⟨a, e, q⟩ := q1
  subst e
  cases r1
  rcases q with ⟨⟨xs, hq⟩, q⟩ | ⟨⟨xs, hq⟩, q⟩
  · obtain ⟨its, rv, p, hz⟩ := I1.list hq
    refine wpAny_pyIter_list p.isList ?_
    refine ⟨s1.heap.objs.size, [s1.heap.objs.size], _, _, H1, rfl, I1.kept (t' := s1.toks) fun b o e => Heap.get?_push_of_some _ e, turn_list a _, ⟨_, Heap.get?_push_size _ rfl, rfl, rfl⟩, fun b hb => ?_, q⟩
    have e : b = s1.heap.objs.size := by simpa using hb
    subst e
    exact I1.fpOk (Nat.le_refl _) (I1.hok.fresh (Nat.le_refl _))
  · obtain ⟨its, rv, p, hz⟩ := I1.tuple hq
    refine wpAny_pyIter_tuple (show s1.heap.IsTuple a its.toArray from p) ?_
    refine ⟨s1.heap.objs.size, [s1.heap.objs.size], _, _, H1, rfl, I1.kept (t' := s1.toks) fun b o e => Heap.get?_push_of_some _ e, turn_tuple a _, ⟨_, Heap.get?_push_size _ rfl, rfl, rfl⟩, fun b hb => ?_, q⟩
    have e : b = s1.heap.objs.size := by simpa using hb
    subst e
    exact I1.fpOk (Nat.le_refl _) (I1.hok.fresh (Nat.le_refl _))
theorem kop_repTA (K : PySem.W.Frag) (e : X.K = K := by rfl) : OpR X (binaryOp .Mult) (rRepTA K) := by subst e; exact op_repTA
theorem kop_catA (K : PySem.W.Frag) (e : X.K = K := by rfl) : OpR X (binaryOp .Add) (rCatA K) := by subst e; exact op_catA
theorem ksl_tupA (K : PySem.W.Frag) (e : X.K = K := by rfl) : SlR X (rSlA K) := by subst e; exact sl_tupA
theorem kop_notIn (K : PySem.W.Frag) (e : X.K = K := by rfl) : OpR X (compareOp .NotIn) (rIn K true) := by subst e; exact op_notIn_seq
end
end Ly

set_option Elab.async false
set_option linter.all false
set_option maxRecDepth 100000
/-! any data: none, bools, ints, texts, tuples and lists of such; what judges ask of it -/
namespace Ly
open PySem PySem.Spec PyProof.Rows L2 Mt
theorem rd_same' {H H' : Hp} {p : Addr} {o : HO} (h : Rd H p o) (s : Same H H') : Rd H' p o := by
  rcases h with h | ⟨u, h⟩
  · exact .inl (s _ _ h)
  · exact .inr ⟨u, s _ _ h⟩
section
variable {K : PySem.W.Frag} {H H' : Hp}
theorem sql_same' {p : Addr} {xs : List V} (h : SqL K H p xs) (s : Same H H') : SqL K H' p xs := h.imp (fun h => rd_same' h s) id
theorem sqt_same' {p : Addr} {xs : List V} (h : SqT K H p xs) (s : Same H H') : SqT K H' p xs := h.imp (fun h => rd_same' h s) id
mutual
theorem dp_same (s : Same H H') : ∀ (d : PyData) {v : V}, Dp K H v d → Dp K H' v d
  | .none, _, h => by cases h; exact .non
  | .bool _, _, h => by cases h; exact .bl _
  | .int _, _, h => by cases h; exact .int _
  | .str _, _, h => by cases h; exact .str _
  | .tuple ds, _, h => by cases h with | tup e r => exact .tup (sqt_same' e s) (dpAll_same s ds r)
  | .list ds, _, h => by cases h with | lst e r => exact .lst (sql_same' e s) (dpAll_same s ds r)
  | .dict _, _, h => by cases h
theorem dpAll_same (s : Same H H') : ∀ (ds : List PyData) {vs : List V}, DpAll K H vs ds → DpAll K H' vs ds
  | [], _, h => by cases h; exact .nil
  | d :: ds, _, h => by cases h with | cons a r => exact .cons (dp_same s d a) (dpAll_same s ds r)
end
theorem dpAll_len : ∀ {vs : List V} {ds : List PyData}, DpAll K H vs ds → vs.length = ds.length
  | [], ds, h => by cases h; rfl
  | _ :: _, _, h => by cases h with | cons _ r => rw [List.length_cons, List.length_cons, dpAll_len r]
theorem dpAll_get : ∀ {vs : List V} {ds : List PyData} {i : Nat} {d : PyData}, DpAll K H vs ds → ds[i]? = some d → ∃ v, vs[i]? = some v ∧ Dp K H v d
  | _, _, 0, _, .cons a _, e => by
    simp at e; subst e; exact ⟨_, rfl, a⟩
  | _, _, i + 1, _, .cons _ r, e => by
    obtain ⟨v, h1, h2⟩ := dpAll_get (i := i) r (by simpa using e)
    exact ⟨v, by simpa using h1, h2⟩
  | _, _, _, _, .nil, e => by simp at e
theorem dpAll_getV : ∀ {vs : List V} {ds : List PyData} {i : Nat} {v : V}, DpAll K H vs ds → vs[i]? = some v → ∃ d, ds[i]? = some d ∧ Dp K H v d
  | _, _, 0, _, .cons a _, e => by
    simp at e; subst e; exact ⟨_, rfl, a⟩
  | _, _, i + 1, _, .cons _ r, e => by
    obtain ⟨v, h1, h2⟩ := dpAll_getV (i := i) r (by simpa using e)
    exact ⟨v, by simpa using h1, h2⟩
  | _, _, _, _, .nil, e => by simp at e
/-- the name of a thing's type -/
def tyName : PyData → String
  | .none => "NoneType"
  | .bool _ => "bool"
  | .int _ => "int"
  | .str _ => "str"
  | .tuple _ => "tuple"
  | .list _ => "list"
  | .dict _ => "dict"
theorem sqt_ty {a : Addr} {xs : List V} (h : SqT K H a xs) : TyX K H (.ref a) (.type "tuple") := by
  rcases h with (h | ⟨o, h⟩) | ⟨o, its, n, hk, hc, _⟩
  · exact .base (.tup h)
  · exact .fTuple h
  · exact .kTuple hk hc
theorem sql_ty {a : Addr} {xs : List V} (h : SqL K H a xs) : TyX K H (.ref a) (.type "list") := by
  rcases h with (h | ⟨o, h⟩) | ⟨o, its, n, hk, hc, _⟩
  · exact .base (.lst h)
  · exact .base (.frz h)
  · exact .kList hk hc
theorem dp_ty {d : PyData} {v : V} (h : Dp K H v d) : TyX K H v (.type (tyName d)) := by
  cases h with
  | non => exact .base .non
  | bl b => exact .base (.bl b)
  | int i => exact .base (.int i)
  | str x => exact .base (.str x)
  | tup e _ => exact sqt_ty e
  | lst e _ => exact sql_ty e
def jIntB : PyData → Bool
  | .int _ => true
  | .bool _ => true
  | _ => false
def jBool : PyData → Bool
  | .bool _ => true
  | _ => false
def jTup : PyData → Bool
  | .tuple _ => true
  | _ => false
def jStr : PyData → Bool
  | .str _ => true
  | _ => false
theorem kit_int : ∀ d : PyData, kitB (tyName d) "int" = some (jIntB d)
  | .none => show kitB "NoneType" "int" = some false from by decide +kernel
  | .bool _ => show kitB "bool" "int" = some true from by decide +kernel
  | .int _ => show kitB "int" "int" = some true from by decide +kernel
  | .str _ => show kitB "str" "int" = some false from by decide +kernel
  | .tuple _ => show kitB "tuple" "int" = some false from by decide +kernel
  | .list _ => show kitB "list" "int" = some false from by decide +kernel
  | .dict _ => show kitB "dict" "int" = some false from by decide +kernel
theorem kit_bool : ∀ d : PyData, kitB (tyName d) "bool" = some (jBool d)
  | .none => show kitB "NoneType" "bool" = some false from by decide +kernel
  | .bool _ => show kitB "bool" "bool" = some true from by decide +kernel
  | .int _ => show kitB "int" "bool" = some false from by decide +kernel
  | .str _ => show kitB "str" "bool" = some false from by decide +kernel
  | .tuple _ => show kitB "tuple" "bool" = some false from by decide +kernel
  | .list _ => show kitB "list" "bool" = some false from by decide +kernel
  | .dict _ => show kitB "dict" "bool" = some false from by decide +kernel
theorem kit_tup : ∀ d : PyData, kitB (tyName d) "tuple" = some (jTup d)
  | .none => show kitB "NoneType" "tuple" = some false from by decide +kernel
  | .bool _ => show kitB "bool" "tuple" = some false from by decide +kernel
  | .int _ => show kitB "int" "tuple" = some false from by decide +kernel
  | .str _ => show kitB "str" "tuple" = some false from by decide +kernel
  | .tuple _ => show kitB "tuple" "tuple" = some true from by decide +kernel
  | .list _ => show kitB "list" "tuple" = some false from by decide +kernel
  | .dict _ => show kitB "dict" "tuple" = some false from by decide +kernel
theorem kit_str : ∀ d : PyData, kitB (tyName d) "str" = some (jStr d)
  | .none => show kitB "NoneType" "str" = some false from by decide +kernel
  | .bool _ => show kitB "bool" "str" = some false from by decide +kernel
  | .int _ => show kitB "int" "str" = some false from by decide +kernel
  | .str _ => show kitB "str" "str" = some true from by decide +kernel
  | .tuple _ => show kitB "tuple" "str" = some false from by decide +kernel
  | .list _ => show kitB "list" "str" = some false from by decide +kernel
  | .dict _ => show kitB "dict" "str" = some false from by decide +kernel
end
end Ly

set_option Elab.async false
set_option linter.all false
set_option maxRecDepth 100000
/-! dict comprehensions over any walk; the sum of a tuple of ints -/
namespace Ly
open PySem PySem.Spec PyProof.Rows L2
theorem dc_all {J : It} {n : Nat} {G : Hp → Prop} {Y : Nat → Hp → V → Hp → Prop} (w : Walk J n G Y) {g : TG} {tk tv : TE} {vs : List Nat} {σ : L2.St} {H1 : Hp} {D : Addr} {Qd : Hp → Prop} (Pv : Nat → Hp → Prop) (h0 : Pv 0 (upd H1 D (.dK []))) (hG : ∀ i H, i ≤ n → Pv i H → G H)
    (hs : ∀ i x H H', i < n → Pv i H → Y i H x H' → g x (wipe σ vs) H' fun σ2 H2 => wipe σ2 vs = wipe σ vs ∧ tk σ2 H2 fun y H4 => tv σ2 H4 fun z H5 => ∃ kvs k, y = kV k ∧ H5 D = some (.dK kvs) ∧ kvs.length < sizeLine ∧ Pv (i + 1) (upd H5 D (.dK (putK kvs k z))))
    (hd : ∀ H, Pv n H → Qd H) :
    ∃ W : Nat → Nat → Hp → Prop, (∃ m, W 0 m (upd H1 D (.dK []))) ∧ ∀ i m H, W i m H →
      (J.stop i H ∧ Qd H) ∨ (J.go i H ∧ ∃ Nx : Hp → Prop, (∀ H', Nx H' → ∃ m', m' < m ∧ W (i + 1) m' H') ∧ ∀ x H', J.yld i H x H' → g x (wipe σ vs) H' fun σ2 H2 => wipe σ2 vs = wipe σ vs ∧ tYes σ2 H2 fun b H3 =>
        if b = true then tk σ2 H3 fun y H4 => tv σ2 H4 fun z H5 => ∃ kvs k, y = kV k ∧ H5 D = some (.dK kvs) ∧ kvs.length < sizeLine ∧ Nx (upd H5 D (.dK (putK kvs k z))) else Nx H3) := by
  refine ⟨fun i m H => m = n - i ∧ i ≤ n ∧ Pv i H, ⟨n, by simp, Nat.zero_le _, h0⟩, ?_⟩
  rintro i m H ⟨rfl, hi, p⟩
  have q := hG i H hi p
  by_cases hlt : i < n
  · refine .inr ⟨w.goes i H hlt q, Pv (i + 1), fun H' p' => ⟨n - (i + 1), by omega, rfl, hlt, p'⟩, fun x H' y => ?_⟩
    have h := hs i x H H' hlt p (w.yields i H x H' hlt q y)
    refine Eq.mp (congrArg (g x (wipe σ vs) H') ?_) h
    funext σ2 H2
    simp only [tYes, if_true]
  · have e : i = n := by omega
    subst e
    exact .inl ⟨w.stops H q, hd H p⟩
theorem toks_of : ∀ {ns : List Int} {us : List Value}, Vals (ns.map V.int) us → ∃ ps : List (Int × Tok), us = ps.map (fun p => Value.int p.1 p.2) ∧ ps.map (·.1) = ns
  | [], _, .nil => ⟨[], rfl, rfl⟩
  | n :: ns, _, .cons r t => by
    obtain ⟨k, rfl⟩ := r
    obtain ⟨ps, e1, e2⟩ := toks_of t
    exact ⟨(n, k) :: ps, by rw [e1]; rfl, by rw [← e2]; rfl⟩
def rSumT (K : PySem.W.Frag) : List V → Hp → VK → Prop := fun vs H Q => ∃ (a : Addr) (ns : List Int), vs = [V.ref a] ∧ SqT K H a (ns.map V.int) ∧ Q (.int ns.sum) H
theorem cr_sumT {X : Cx} (K : PySem.W.Frag) (hc : X.calm = true := by rfl) (eK : X.K = K := by rfl) : CallR X (.builtin "sum") (rSumT K) := by
  subst eK
  intro pins s σ H vs us Q I r h
  obtain ⟨a, ns, rfl, hs, q⟩ := h
  obtain ⟨its, rv, ht, _⟩ := I.tuple hs
  rw [Vals.ref1 r]
  obtain ⟨ps, e1, e2⟩ := toks_of rv
  have e3 : its.toArray = intItems ps.toArray := by
    rw [e1]; simp [intItems]
  have e4 : preSum (numAt ps.toArray) ps.toArray.size = ns.sum := by
    rw [preSum_eq, List.take_of_length_le (by simp)]
    show (ps.map (·.1)).sum = _
    rw [e2]
  refine PySem.W.ktm_sumG (xs := ps.toArray) (I.ok.hd hc) (by rw [← e3]; exact ht) fun h' tk t' hk => ?_
  rw [e4]
  exact ⟨.int _, H, I.kept hk, ⟨t', rfl⟩, q⟩
theorem kop_inS {X : Cx} (K : PySem.W.Frag) (eK : X.K = K := by rfl) : OpR X (compareOp .In) (rIn K false) := by subst eK; exact op_in_seq
/-- one sign of a text -/
def sgn (c : Nat) : Str := ⟨#[c]⟩
end Ly

set_option Elab.async false
set_option linter.all false
set_option maxRecDepth 100000
/-! len(set(xs)) of a list of unlike texts -/
namespace Ly
open PySem PySem.Spec PyProof.Rows L2
/-- one of the first i texts -/
def among (ys : List Str) (i : Nat) (z : Str) : Bool := (ys.take i).any (· == z)
theorem among_step {ys : List Str} {i : Nat} {x : Str} (h : ys[i]? = some x) (z : Str) : (among ys i z || decide (z = x)) = among ys (i + 1) z := by
  unfold among
  rw [List.take_add_one, h, List.any_append]
  congr 1
  show decide (z = x) = (x == z || false)
  by_cases e : z = x
  · subst e; simp
  · rw [decide_eq_false e, Bool.or_false]
    exact (beq_eq_false_iff_ne.mpr fun q => e q.symm).symm
theorem among_not {ys : List Str} {i : Nat} {x : Str} (nd : ys.Nodup) (h : ys[i]? = some x) : among ys i x = false := by
  unfold among
  rw [List.any_eq_false]
  intro y hy e
  obtain ⟨j, hj⟩ := List.mem_iff_getElem?.mp hy
  have hji : j < i := by
    have := (List.getElem?_eq_some_iff.mp hj).1
    rw [List.length_take] at this
    omega
  rw [List.getElem?_take, if_pos hji] at hj
  have exy : y = x := by simpa using e
  subst exy
  obtain ⟨hi, e1⟩ := List.getElem?_eq_some_iff.mp h
  obtain ⟨hj', e2⟩ := List.getElem?_eq_some_iff.mp hj
  have := List.pairwise_iff_getElem.mp nd j i hj' hi hji
  exact this (e2.trans e1.symm)
section
variable {prog : Program} {w : World} {A : Around} {R : Result → Shared → Prop} {it : Addr} {fp wr : List Addr} {G : Array GenState → Array GenState → Prop} {n : Nat} {P : Nat → Value → Prop} {St : Nat → Shared → Prop}
theorem fillTexts (W : WalksS prog w A.in1 it fp wr G n P St) (D : Addr) (nD : D ∉ fp) (ys : List Str) (ly : ys.length = n) (nd : ys.Nodup) (few : n ≤ 1000) (vals : ∀ i v, P i v → ∃ t, v = .str (ys.getD i Str.empty) t)
    (fin : ∀ s', Moved (D :: wr) G s0 s' → s'.heap.SetOf (PySem.strKind prog w) D (among ys n) n → R (.ok (.ret .none)) s') :
    ∀ (left i : Nat) (s : Shared), i + left = n → St i s → Moved (D :: wr) G s0 s → s.heap.SetOf (PySem.strKind prog w) D (among ys i) i → codeAny (model prog w) A (.builtin "set.update.loop" ⟨[.ref D, .ref it], []⟩) R s
  | 0, i, s, hl, st, mv, so => by
    obtain rfl : i = n := by omega
    refine codeAny_builtin PyProof.Rows.F.entry_set_update_loop ?_
    rw [Around.under_plainId PyProof.Rows.F.plain_set_update_loop _]
    show wpAny _ A.in1 (pyNext (.ref it) >>= _) _ _ s
    refine wpAny_bind (W.done s _ _ st fun s2 m2 => ?_)
    show wpAny _ A.in1 (ret Value.none) _ _ s2
    refine wpAny_pure (fin s2 (Moved.trans W.gtrans mv (m2.mono fun b hb => List.mem_cons_of_mem _ hb)) ?_)
    obtain ⟨ob, es, ep, tb, ho, more⟩ := so
    exact ⟨ob, es, ep, tb, m2.heap D _ (fun h => nD (W.sub _ h)) ho, more⟩
  | left + 1, i, s, hl, st, mv, so => by
    have hi : i < n := by omega
    have hx : ys[i]? = some (ys.getD i Str.empty) := by
      rw [List.getD_eq_getElem?_getD, List.getElem?_eq_getElem (by omega)]; rfl
    refine codeAny_builtin PyProof.Rows.F.entry_set_update_loop ?_
    rw [Around.under_plainId PyProof.Rows.F.plain_set_update_loop _]
    show wpAny _ A.in1 (pyNext (.ref it) >>= _) _ _ s
    refine wpAny_bind (W.item i s _ _ hi st fun v s2 pv st2 m2 => ?_)
    obtain ⟨t, rfl⟩ := vals i v pv
    have so2 : s2.heap.SetOf (PySem.strKind prog w) D (among ys i) i := by
      obtain ⟨ob, es, ep, tb, ho, more⟩ := so
      exact ⟨ob, es, ep, tb, m2.heap D _ (fun h => nD (W.sub _ h)) ho, more⟩
    show wpAny _ A.in1 (holding [Value.str (ys.getD i Str.empty) t] (setAdd D (.str (ys.getD i Str.empty) t)) >>= _) _ _ s2
    refine wpAny_bind (wpAny_holding ?_)
    unfold setAdd
    refine wpAny_holding (wpAny_bind ((PySem.strKind prog w).pyHash (k := ys.getD i Str.empty) (strKind_is _ _ _ _) ?_))
    refine wpAny_setAddHashed_of (knd := PySem.strKind prog w) (s := { s2 with toks := s2.toks + 1 }) (strKind_is _ _ _ _) rfl so2 (by unfold scanBound; omega) fun h3 but so3 => ?_
    rw [among_not nd hx, if_neg Bool.false_ne_true] at so3
    have so4 := SetOf_congr so3 (among_step hx) rfl
    have mv2 := Moved.trans W.gtrans mv (m2.mono (wr' := D :: wr) fun b hb => List.mem_cons_of_mem _ hb)
    have mv3 : Moved (D :: wr) G s0 { s2 with heap := h3, toks := s2.toks + 1 } := mv2.then_heap (Nat.le_succ _) fun b o hb e => by
      rw [but.2 b fun q => hb (by rw [q]; exact List.mem_cons_self)]; exact e
    refine wpAny_pure ⟨plainId_quiet PyProof.Rows.F.plain_set_update_loop _, fillTexts W D nD ys ly nd few vals fin left (i + 1) _ (by omega) (W.frame _ s2 _ _ st2 (Nat.le_succ _) fun b hb o e => ?_) mv3 so4⟩
    rw [but.2 b fun q => nD (by rw [← q]; exact hb)]; exact e
end
theorem texts_at : ∀ {us : List Value} {ys : List Str}, StrsAre us ys → ∀ (i : Nat) (v : Value), us[i]? = some v → ∃ t, v = .str (ys.getD i Str.empty) t
  | _, _, .nil, i, v, h => by simp at h
  | _, _, .cons n t hr, 0, v, h => ⟨t, by have := Option.some.inj h; exact this.symm⟩
  | _, _, .cons n t hr, i + 1, v, h => texts_at hr i v h
section
variable {prog : Program} {w : World} {A : Around} {E : Value → Shared → Prop} {s : Shared}
set_option maxHeartbeats 3200000 in
theorem call_set_texts {l : Addr} {us : Array Value} {ys : List Str} {Q : Value → Shared → Prop} (hh : A.handled = none) (hl : s.heap.IsList l us) (hi : PyProof.Rows.StrsAre us.toList ys) (nd : ys.Nodup) (few : ys.length ≤ 1000)
    (h : ∀ (h2 : Heap) (t2 : Nat), h2.SetOf (PySem.strKind prog w) s.heap.objs.size (among ys us.size) us.size → (∀ b o, b < s.heap.objs.size → s.heap.get? b = some o → h2.get? b = some o) → Q (.ref s.heap.objs.size) { s with heap := h2, toks := t2 }) :
    wpAny (model prog w) A (call (.type "set") [.ref l]) Q E s := by
  obtain ⟨k1, k2, h3⟩ := PySem.F.called_set.mro
  have h4 := PySem.F.called_set.made
  have h5 := PySem.F.called_set.sub
  refine wpAny_call (codeAny_of_tree ?_)
  show wpAny _ _ (callAny (.type "set") _) _ _ _
  refine wpAny_pure ⟨Code.quiet_builtin _ (by decide +kernel), codeAny_builtin PySem.F.entry_type_call ?_⟩
  rw [Around.under_plain (weight_type_call_type "set" [.ref l] []) rfl]
  have h6 := PySem.F.called_set.notType
  have h7 := PySem.F.called_set.canCreate
  have h8 := PySem.F.typeCall_set_1 (.ref l)
  repeat (any_goals (first | assumption | wp_step))
  refine codeAny_mono (code_set_new_1 (.ref l) (E := E) (Q₁ := fun v s1 => ∃ led : Bool, v = .ref s.heap.objs.size ∧ s1 = { s with heap := s.heap.push { cls := .type "set", dict := none, data := .set #[] 0 (.fresh 0 0 led) } }) fun led => ⟨led, rfl, rfl⟩) fun r s1 hr => ?_
  match r, hr with
  | .error e, hr => exact hr
  | .ok .next, hr => exact hr.elim
  | .ok .brk, hr => exact hr.elim
  | .ok .cont, hr => exact hr.elim
  | .ok (.ret v), hr =>
    obtain ⟨led, rfl, rfl⟩ := hr
    have at0 : (s.heap.push { cls := .type "set", dict := none, data := .set #[] 0 (.fresh 0 0 led) }).get? s.heap.objs.size = some { cls := .type "set", dict := none, data := .set #[] 0 (.fresh 0 0 led) } := Heap.get?_push_size _ rfl
    have ty0 : Shared.TypeIs { s with heap := s.heap.push { cls := .type "set", dict := none, data := .set #[] 0 (.fresh 0 0 led) } } (.ref s.heap.objs.size) "set" := ⟨_, at0, rfl⟩
    have i1 := PySem.F.called_set.init.lookup
    have i2 := PySem.F.called_set.init.bind (.ref s.heap.objs.size)
    repeat (any_goals (first | assumption | wp_step))
    refine codeAny_mono (codeAny_call_builtin (R := wants (fun r s2 => r = .none ∧ ∃ h2 t2, s2 = { s with heap := h2, toks := t2 } ∧ h2.SetOf (PySem.strKind prog w) s.heap.objs.size (among ys us.size) us.size ∧ ∀ b o, b < s.heap.objs.size → s.heap.get? b = some o → h2.get? b = some o) E) PySem.F.called_set.init.plain PySem.F.entry_set_init (check_set_init_1 ty0 ?_)) fun r2 s2 hr2 => ?_
    · obtain ⟨ol, hol, hcl, nl, hdl⟩ := hl
      obtain ⟨ocls, odict, odata, oslots⟩ := ol
      simp only at hcl hdl
      subst hcl
      subst hdl
      have at1 : (s.heap.push { cls := .type "set", dict := none, data := .set #[] 0 (.fresh 0 0 led) }).get? l = some { cls := .type "list", dict := odict, data := .seq us nl, slots := oslots } := Heap.get?_push_of_some _ hol
      have n1 := PySem.F.sub_list_set
      have n2 := PySem.F.sub_list_frozenset
      have n3 : (Value.type "list" == Value.type "dict") = false := by decide
      have l1 : (s.heap.push { cls := .type "set", dict := none, data := .set #[] 0 (.fresh 0 0 led) }).IsList l us := ⟨_, at1, rfl, nl, rfl⟩
      unfold Builtin.«set.__init__» noKeywords Builtin.Frozenset.updateFrom
      generalize hPI : pyIter = PI
      wp_walk
      subst hPI
      refine wpAny_pyIter_list l1 (wpAny_bind (wpAny_runValue ?_))
      have ll : l < s.heap.objs.size := Heap.lt_size hol
      have h9 : A.in1.in1.in1.handled = none := by simp [hh]
      have e0 : (s.heap.push { cls := .type "set", dict := none, data := .set #[] 0 (.fresh 0 0 led) }).objs.size = s.heap.objs.size + 1 := Heap.size_push ..
      have nI : l ≠ (s.heap.push { cls := .type "set", dict := none, data := .set #[] 0 (.fresh 0 0 led) }).objs.size := by
        rw [e0]; exact Nat.ne_of_lt (Nat.lt_succ_of_lt ll)
      have nS : s.heap.objs.size ∉ [(s.heap.push { cls := .type "set", dict := none, data := .set #[] 0 (.fresh 0 0 led) }).objs.size, l] := by
        rw [e0]
        intro z
        rcases List.mem_cons.mp z with z | z
        · exact absurd z (Nat.ne_of_lt (Nat.lt_succ_self _))
        · exact absurd (List.mem_singleton.mp z) (Nat.ne_of_gt ll)
      have ly : ys.length = us.size := by rw [← StrsAre.len_eq hi, Array.length_toList]
      refine fillTexts ((Walks.list h9 _ l nI us).toS) s.heap.objs.size nS ys ly nd (by omega) (fun i v hv => texts_at hi i v (by rw [Array.getElem?_toList]; exact hv)) ?fin us.size 0 _ (by omega) ⟨⟨_, Heap.get?_push_size _ rfl, rfl, rfl⟩, (l1.push _)⟩ (Moved.refl (hg := fun _ => rfl) ..) ?st
      case st =>
        have at2 : ((s.heap.push { cls := .type "set", dict := none, data := .set #[] 0 (.fresh 0 0 led) }).push { cls := .type "list_iterator", data := .fields #[.ref l, .int 0 0] }).get? s.heap.objs.size = some { cls := .type "set", dict := none, data := .set #[] 0 (.fresh 0 0 led) } := Heap.get?_push_of_some _ at0
        exact SetOf_congr ((setObjOf_fresh (knd := PySem.strKind prog w) led).setOf at2 (by unfold scanBound; omega)) (fun _ => rfl) rfl
      case fin =>
        intro s' hm hS'
        obtain ⟨h2, g2, d2, t2, o2⟩ := s'
        have eg : g2 = s.gens := hm.gens
        have ed : d2 = s.drawn := hm.drawn
        have eo : o2 = s.os := hm.os
        subst eg ed eo
        show wpAny _ _ _ _ _ _
        refine wpAny_pure ?_
        show wpAny _ _ (ret Value.none) _ _ _
        refine wpAny_pure ⟨rfl, h2, t2, rfl, hS', fun b o hb e => hm.heap b o (fun z => ?_) (Heap.get?_push_of_some _ (Heap.get?_push_of_some _ e))⟩
        rcases List.mem_cons.mp z with z | z
        · exact absurd z (Nat.ne_of_lt hb)
        · have z2 := List.mem_singleton.mp z
          rw [e0] at z2
          exact absurd z2 (Nat.ne_of_lt (Nat.lt_succ_of_lt hb))
    · match r2, hr2 with
      | .error e, hr2 => exact hr2
      | .ok .next, hr2 => exact hr2.elim
      | .ok .brk, hr2 => exact hr2.elim
      | .ok .cont, hr2 => exact hr2.elim
      | .ok (.ret r), hr2 =>
        obtain ⟨rfl, h2, t2, rfl, so, kp⟩ := hr2
        repeat (any_goals (first | assumption | wp_step))
        exact h _ _ so kp
end
/-- len(set(xs)) of unlike texts -/
def tLenSetT (K : PySem.W.Frag) (ta : TE) : TE := fun σ H Q => ta σ H fun x H1 => ∃ (l : Addr) (ys : List Str), x = .ref l ∧ SqL K H1 l (ys.map V.str) ∧ ys.Nodup ∧ ys.length ≤ 1000 ∧ Q (.int (ys.length : Nat)) H1
theorem pe_lenSetT {X : Cx} (K : PySem.W.Frag) {a : Expr} {ta : TE} {p p2 q pos : Pos} (hg : Gl X "len") (hm : X.mg "len" = none) (hg2 : Gl X "set") (hm2 : X.mg "set" = none) (ha : PE X a ta) (hc : X.calm = true := by rfl)
    (na : starEach [a] X.env = (false, eval a X.env) :: starEach [] X.env := by rfl) (eK : X.K = K := by rfl) : PE X (.Call (.Name "len" p) [.Call (.Name "set" p2) [a] [] q] [] pos) (tLenSetT K ta) := by
  subst eK
  refine ⟨fun pins s σ H Q I h => Call_ (ld_blt I hg hm boot_len (callWith_builtin1 (args_cons (Call_ (ld_blt I hg2 hm2 boot_set ?_)) rfl) rfl rfl))⟩
  refine callWith_type1 (args_cons (thn (ha.run pins s σ H _ I h) fun v s1 ⟨x, H1, I1, r1, l, ys, ex, hq, nd, few, q1⟩ => args_nil ?_) na) na rfl
  subst ex
  cases r1
  obtain ⟨its, r, pl, hz⟩ := I1.list hq
  have e1 : its.toArray.size = ys.length := by rw [List.size_toArray, ← r.length, List.length_map]
  refine call_set_texts (I1.ok.hd hc) pl.isList (by simpa using strsAre_of r) nd few fun h2 tk so hk => args_nil ?_
  obtain ⟨o, es, ep, t, ho, hex, hd, _, _, _, hf, hn⟩ := so
  have I2 : Inv X pins σ H1 { s1 with heap := h2, toks := tk } := I1.kept fun b o e => hk b o (Heap.lt_size e) e
  exact call_len_set ho hex hd hf (by rw [hn] <;> omega) ⟨.int ys.length, H1, I2.tok _, ⟨_, by rw [hn, e1]⟩, q1⟩
end Ly

set_option Elab.async false
set_option linter.all false
set_option maxRecDepth 100000
/-! len(set(xs)) of any list of texts: the number of unlike ones -/
namespace Ly
open PySem PySem.Spec PyProof.Rows L2
/-- how many unlike ones there are among the first i texts -/
def dist (ys : List Str) : Nat → Nat
  | 0 => 0
  | i + 1 => if among ys i (ys.getD i Str.empty) = true then dist ys i else dist ys i + 1
theorem dist_le (ys : List Str) : ∀ i, dist ys i ≤ i
  | 0 => Nat.le_refl _
  | i + 1 => by
    have := dist_le ys i
    unfold dist
    split <;> omega
theorem among_iff {ys : List Str} {i : Nat} {x : Str} : among ys i x = true ↔ x ∈ ys.take i := by
  unfold among
  rw [List.any_eq_true]
  constructor
  · rintro ⟨y, hy, e⟩
    have : y = x := by simpa using e
    rw [← this]; exact hy
  · intro h
    exact ⟨x, h, by simp⟩
theorem dist_nd (ys : List Str) : ∀ i, i ≤ ys.length → (dist ys i = i ↔ (ys.take i).Nodup)
  | 0, _ => by simp [dist]
  | i + 1, hi => by
    have ih := dist_nd ys i (by omega)
    have le := dist_le ys i
    have hx : ys[i]? = some (ys.getD i Str.empty) := by
      rw [List.getD_eq_getElem?_getD, List.getElem?_eq_getElem (by omega)]; rfl
    have et : ys.take (i + 1) = ys.take i ++ [ys.getD i Str.empty] := by rw [List.take_add_one, hx]; rfl
    rw [et, List.nodup_append]
    unfold dist
    by_cases h : among ys i (ys.getD i Str.empty) = true
    · rw [if_pos h]
      refine ⟨fun z => by omega, fun z => ?_⟩
      exact absurd rfl (z.2.2 _ (among_iff.mp h) _ (List.mem_singleton.mpr rfl))
    · rw [if_neg h]
      refine ⟨fun z => ⟨ih.mp (by omega), List.pairwise_singleton _ _, fun a ha b hb e => ?_⟩, fun z => by have := ih.mpr z.1; omega⟩
      rw [List.mem_singleton.mp hb] at e
      exact h (among_iff.mpr (by rw [← e]; exact ha))
/-- all are unlike -/
theorem dist_all (ys : List Str) : decide (((dist ys ys.length : Nat) : Int) = (ys.length : Nat)) = decide ys.Nodup := by
  have := dist_nd ys ys.length (Nat.le_refl _)
  rw [List.take_of_length_le (Nat.le_refl _)] at this
  exact decide_eq_decide.mpr ⟨fun h => this.mp (by omega), fun h => by rw [this.mpr h]⟩
section
variable {prog : Program} {w : World} {A : Around} {R : Result → Shared → Prop} {it : Addr} {fp wr : List Addr} {G : Array GenState → Array GenState → Prop} {n : Nat} {P : Nat → Value → Prop} {St : Nat → Shared → Prop}
theorem fillTextsG (W : WalksS prog w A.in1 it fp wr G n P St) (D : Addr) (nD : D ∉ fp) (ys : List Str) (ly : ys.length = n) (few : n ≤ 1000) (vals : ∀ i v, P i v → ∃ t, v = .str (ys.getD i Str.empty) t)
    (fin : ∀ s', Moved (D :: wr) G s0 s' → s'.heap.SetOf (PySem.strKind prog w) D (among ys n) (dist ys n) → R (.ok (.ret .none)) s') :
    ∀ (left i : Nat) (s : Shared), i + left = n → St i s → Moved (D :: wr) G s0 s → s.heap.SetOf (PySem.strKind prog w) D (among ys i) (dist ys i) → codeAny (model prog w) A (.builtin "set.update.loop" ⟨[.ref D, .ref it], []⟩) R s
  | 0, i, s, hl, st, mv, so => by
    obtain rfl : i = n := by omega
    refine codeAny_builtin PyProof.Rows.F.entry_set_update_loop ?_
    rw [Around.under_plainId PyProof.Rows.F.plain_set_update_loop _]
    show wpAny _ A.in1 (pyNext (.ref it) >>= _) _ _ s
    refine wpAny_bind (W.done s _ _ st fun s2 m2 => ?_)
    show wpAny _ A.in1 (ret Value.none) _ _ s2
    refine wpAny_pure (fin s2 (Moved.trans W.gtrans mv (m2.mono fun b hb => List.mem_cons_of_mem _ hb)) ?_)
    obtain ⟨ob, es, ep, tb, ho, more⟩ := so
    exact ⟨ob, es, ep, tb, m2.heap D _ (fun h => nD (W.sub _ h)) ho, more⟩
  | left + 1, i, s, hl, st, mv, so => by
    have hi : i < n := by omega
    have hx : ys[i]? = some (ys.getD i Str.empty) := by
      rw [List.getD_eq_getElem?_getD, List.getElem?_eq_getElem (by omega)]; rfl
    refine codeAny_builtin PyProof.Rows.F.entry_set_update_loop ?_
    rw [Around.under_plainId PyProof.Rows.F.plain_set_update_loop _]
    show wpAny _ A.in1 (pyNext (.ref it) >>= _) _ _ s
    refine wpAny_bind (W.item i s _ _ hi st fun v s2 pv st2 m2 => ?_)
    obtain ⟨t, rfl⟩ := vals i v pv
    have so2 : s2.heap.SetOf (PySem.strKind prog w) D (among ys i) (dist ys i) := by
      obtain ⟨ob, es, ep, tb, ho, more⟩ := so
      exact ⟨ob, es, ep, tb, m2.heap D _ (fun h => nD (W.sub _ h)) ho, more⟩
    show wpAny _ A.in1 (holding [Value.str (ys.getD i Str.empty) t] (setAdd D (.str (ys.getD i Str.empty) t)) >>= _) _ _ s2
    refine wpAny_bind (wpAny_holding ?_)
    unfold setAdd
    refine wpAny_holding (wpAny_bind ((PySem.strKind prog w).pyHash (k := ys.getD i Str.empty) (strKind_is _ _ _ _) ?_))
    refine wpAny_setAddHashed_of (knd := PySem.strKind prog w) (s := { s2 with toks := s2.toks + 1 }) (strKind_is _ _ _ _) rfl so2 (by have := dist_le ys i; unfold scanBound; omega) fun h3 but so3 => ?_
    have so4 := SetOf_congr so3 (among_step hx) (show _ = dist ys (i + 1) from rfl)
    have mv2 := Moved.trans W.gtrans mv (m2.mono (wr' := D :: wr) fun b hb => List.mem_cons_of_mem _ hb)
    have mv3 : Moved (D :: wr) G s0 { s2 with heap := h3, toks := s2.toks + 1 } := mv2.then_heap (Nat.le_succ _) fun b o hb e => by
      rw [but.2 b fun q => hb (by rw [q]; exact List.mem_cons_self)]; exact e
    refine wpAny_pure ⟨plainId_quiet PyProof.Rows.F.plain_set_update_loop _, fillTextsG W D nD ys ly few vals fin left (i + 1) _ (by omega) (W.frame _ s2 _ _ st2 (Nat.le_succ _) fun b hb o e => ?_) mv3 so4⟩
    rw [but.2 b fun q => nD (by rw [← q]; exact hb)]; exact e
end
section
variable {prog : Program} {w : World} {A : Around} {E : Value → Shared → Prop} {s : Shared}
set_option maxHeartbeats 3200000 in
theorem call_set_textsG {l : Addr} {us : Array Value} {ys : List Str} {Q : Value → Shared → Prop} (hh : A.handled = none) (hl : s.heap.IsList l us) (hi : PyProof.Rows.StrsAre us.toList ys) (few : ys.length ≤ 1000)
    (h : ∀ (h2 : Heap) (t2 : Nat), h2.SetOf (PySem.strKind prog w) s.heap.objs.size (among ys us.size) (dist ys us.size) → (∀ b o, b < s.heap.objs.size → s.heap.get? b = some o → h2.get? b = some o) → Q (.ref s.heap.objs.size) { s with heap := h2, toks := t2 }) :
    wpAny (model prog w) A (call (.type "set") [.ref l]) Q E s := by
  obtain ⟨k1, k2, h3⟩ := PySem.F.called_set.mro
  have h4 := PySem.F.called_set.made
  have h5 := PySem.F.called_set.sub
  refine wpAny_call (codeAny_of_tree ?_)
  show wpAny _ _ (callAny (.type "set") _) _ _ _
  refine wpAny_pure ⟨Code.quiet_builtin _ (by decide +kernel), codeAny_builtin PySem.F.entry_type_call ?_⟩
  rw [Around.under_plain (weight_type_call_type "set" [.ref l] []) rfl]
  have h6 := PySem.F.called_set.notType
  have h7 := PySem.F.called_set.canCreate
  have h8 := PySem.F.typeCall_set_1 (.ref l)
  repeat (any_goals (first | assumption | wp_step))
  refine codeAny_mono (code_set_new_1 (.ref l) (E := E) (Q₁ := fun v s1 => ∃ led : Bool, v = .ref s.heap.objs.size ∧ s1 = { s with heap := s.heap.push { cls := .type "set", dict := none, data := .set #[] 0 (.fresh 0 0 led) } }) fun led => ⟨led, rfl, rfl⟩) fun r s1 hr => ?_
  match r, hr with
  | .error e, hr => exact hr
  | .ok .next, hr => exact hr.elim
  | .ok .brk, hr => exact hr.elim
  | .ok .cont, hr => exact hr.elim
  | .ok (.ret v), hr =>
    obtain ⟨led, rfl, rfl⟩ := hr
    have at0 : (s.heap.push { cls := .type "set", dict := none, data := .set #[] 0 (.fresh 0 0 led) }).get? s.heap.objs.size = some { cls := .type "set", dict := none, data := .set #[] 0 (.fresh 0 0 led) } := Heap.get?_push_size _ rfl
    have ty0 : Shared.TypeIs { s with heap := s.heap.push { cls := .type "set", dict := none, data := .set #[] 0 (.fresh 0 0 led) } } (.ref s.heap.objs.size) "set" := ⟨_, at0, rfl⟩
    have i1 := PySem.F.called_set.init.lookup
    have i2 := PySem.F.called_set.init.bind (.ref s.heap.objs.size)
    repeat (any_goals (first | assumption | wp_step))
    refine codeAny_mono (codeAny_call_builtin (R := wants (fun r s2 => r = .none ∧ ∃ h2 t2, s2 = { s with heap := h2, toks := t2 } ∧ h2.SetOf (PySem.strKind prog w) s.heap.objs.size (among ys us.size) (dist ys us.size) ∧ ∀ b o, b < s.heap.objs.size → s.heap.get? b = some o → h2.get? b = some o) E) PySem.F.called_set.init.plain PySem.F.entry_set_init (check_set_init_1 ty0 ?_)) fun r2 s2 hr2 => ?_
    · obtain ⟨ol, hol, hcl, nl, hdl⟩ := hl
      obtain ⟨ocls, odict, odata, oslots⟩ := ol
      simp only at hcl hdl
      subst hcl
      subst hdl
      have at1 : (s.heap.push { cls := .type "set", dict := none, data := .set #[] 0 (.fresh 0 0 led) }).get? l = some { cls := .type "list", dict := odict, data := .seq us nl, slots := oslots } := Heap.get?_push_of_some _ hol
      have n1 := PySem.F.sub_list_set
      have n2 := PySem.F.sub_list_frozenset
      have n3 : (Value.type "list" == Value.type "dict") = false := by decide
      have l1 : (s.heap.push { cls := .type "set", dict := none, data := .set #[] 0 (.fresh 0 0 led) }).IsList l us := ⟨_, at1, rfl, nl, rfl⟩
      unfold Builtin.«set.__init__» noKeywords Builtin.Frozenset.updateFrom
      generalize hPI : pyIter = PI
      wp_walk
      subst hPI
      refine wpAny_pyIter_list l1 (wpAny_bind (wpAny_runValue ?_))
      have ll : l < s.heap.objs.size := Heap.lt_size hol
      have h9 : A.in1.in1.in1.handled = none := by simp [hh]
      have e0 : (s.heap.push { cls := .type "set", dict := none, data := .set #[] 0 (.fresh 0 0 led) }).objs.size = s.heap.objs.size + 1 := Heap.size_push ..
      have nI : l ≠ (s.heap.push { cls := .type "set", dict := none, data := .set #[] 0 (.fresh 0 0 led) }).objs.size := by
        rw [e0]; exact Nat.ne_of_lt (Nat.lt_succ_of_lt ll)
      have nS : s.heap.objs.size ∉ [(s.heap.push { cls := .type "set", dict := none, data := .set #[] 0 (.fresh 0 0 led) }).objs.size, l] := by
        rw [e0]
        intro z
        rcases List.mem_cons.mp z with z | z
        · exact absurd z (Nat.ne_of_lt (Nat.lt_succ_self _))
        · exact absurd (List.mem_singleton.mp z) (Nat.ne_of_gt ll)
      have ly : ys.length = us.size := by rw [← StrsAre.len_eq hi, Array.length_toList]
      refine fillTextsG ((Walks.list h9 _ l nI us).toS) s.heap.objs.size nS ys ly (by omega) (fun i v hv => texts_at hi i v (by rw [Array.getElem?_toList]; exact hv)) ?fin us.size 0 _ (by omega) ⟨⟨_, Heap.get?_push_size _ rfl, rfl, rfl⟩, (l1.push _)⟩ (Moved.refl (hg := fun _ => rfl) ..) ?st
      case st =>
        have at2 : ((s.heap.push { cls := .type "set", dict := none, data := .set #[] 0 (.fresh 0 0 led) }).push { cls := .type "list_iterator", data := .fields #[.ref l, .int 0 0] }).get? s.heap.objs.size = some { cls := .type "set", dict := none, data := .set #[] 0 (.fresh 0 0 led) } := Heap.get?_push_of_some _ at0
        exact SetOf_congr ((setObjOf_fresh (knd := PySem.strKind prog w) led).setOf at2 (by unfold scanBound; omega)) (fun _ => rfl) rfl
      case fin =>
        intro s' hm hS'
        obtain ⟨h2, g2, d2, t2, o2⟩ := s'
        have eg : g2 = s.gens := hm.gens
        have ed : d2 = s.drawn := hm.drawn
        have eo : o2 = s.os := hm.os
        subst eg ed eo
        show wpAny _ _ _ _ _ _
        refine wpAny_pure ?_
        show wpAny _ _ (ret Value.none) _ _ _
        refine wpAny_pure ⟨rfl, h2, t2, rfl, hS', fun b o hb e => hm.heap b o (fun z => ?_) (Heap.get?_push_of_some _ (Heap.get?_push_of_some _ e))⟩
        rcases List.mem_cons.mp z with z | z
        · exact absurd z (Nat.ne_of_lt hb)
        · have z2 := List.mem_singleton.mp z
          rw [e0] at z2
          exact absurd z2 (Nat.ne_of_lt (Nat.lt_succ_of_lt hb))
    · match r2, hr2 with
      | .error e, hr2 => exact hr2
      | .ok .next, hr2 => exact hr2.elim
      | .ok .brk, hr2 => exact hr2.elim
      | .ok .cont, hr2 => exact hr2.elim
      | .ok (.ret r), hr2 =>
        obtain ⟨rfl, h2, t2, rfl, so, kp⟩ := hr2
        repeat (any_goals (first | assumption | wp_step))
        exact h _ _ so kp
end
/-- len(set(xs)) of unlike texts -/
def tLenSetG (K : PySem.W.Frag) (ta : TE) : TE := fun σ H Q => ta σ H fun x H1 => ∃ (l : Addr) (ys : List Str), x = .ref l ∧ SqL K H1 l (ys.map V.str) ∧ ys.length ≤ 1000 ∧ Q (.int (dist ys ys.length : Nat)) H1
theorem pe_lenSetG {X : Cx} (K : PySem.W.Frag) {a : Expr} {ta : TE} {p p2 q pos : Pos} (hg : Gl X "len") (hm : X.mg "len" = none) (hg2 : Gl X "set") (hm2 : X.mg "set" = none) (ha : PE X a ta) (hc : X.calm = true := by rfl)
    (na : starEach [a] X.env = (false, eval a X.env) :: starEach [] X.env := by rfl) (eK : X.K = K := by rfl) : PE X (.Call (.Name "len" p) [.Call (.Name "set" p2) [a] [] q] [] pos) (tLenSetG K ta) := by
  subst eK
  refine ⟨fun pins s σ H Q I h => Call_ (ld_blt I hg hm boot_len (callWith_builtin1 (args_cons (Call_ (ld_blt I hg2 hm2 boot_set ?_)) rfl) rfl rfl))⟩
  refine callWith_type1 (args_cons (thn (ha.run pins s σ H _ I h) fun v s1 ⟨x, H1, I1, r1, l, ys, ex, hq, few, q1⟩ => args_nil ?_) na) na rfl
  subst ex
  cases r1
  obtain ⟨its, r, pl, hz⟩ := I1.list hq
  have e1 : its.toArray.size = ys.length := by rw [List.size_toArray, ← r.length, List.length_map]
  refine call_set_textsG (I1.ok.hd hc) pl.isList (by simpa using strsAre_of r) few fun h2 tk so hk => args_nil ?_
  obtain ⟨o, es, ep, t, ho, hex, hd, _, _, _, hf, hn⟩ := so
  have I2 : Inv X pins σ H1 { s1 with heap := h2, toks := tk } := I1.kept fun b o e => hk b o (Heap.lt_size e) e
  exact call_len_set ho hex hd hf (by rw [hn]; have := dist_le ys its.toArray.size; omega) ⟨.int (dist ys ys.length), H1, I2.tok _, ⟨_, by rw [hn, e1]⟩, q1⟩
end Ly

set_option Elab.async false
set_option linter.all false
set_option maxRecDepth 100000
/-! data whose lists lie where S says; what keeps them -/
namespace Ly
open PySem PySem.Spec PyProof.Rows L2 Mt
mutual
inductive Da (K : PySem.W.Frag) (S : Addr → Prop) (H : Hp) : V → PyData → Prop
  | non : Da K S H .non .none
  | bl (b : Bool) : Da K S H (.bl b) (.bool b)
  | int (i : Int) : Da K S H (.int i) (.int i)
  | str (x : Str) : Da K S H (.str x) (.str x)
  | tup {a : Addr} {xs : List V} {ds : List PyData} : ITup K H a xs → DaAll K S H xs ds → Da K S H (.ref a) (.tuple ds)
  | lst {a : Addr} {xs : List V} {ds : List PyData} : S a → H a = some (.lst xs) → DaAll K S H xs ds → Da K S H (.ref a) (.list ds)
inductive DaAll (K : PySem.W.Frag) (S : Addr → Prop) (H : Hp) : List V → List PyData → Prop
  | nil : DaAll K S H [] []
  | cons {v : V} {vs : List V} {d : PyData} {ds : List PyData} : Da K S H v d → DaAll K S H vs ds → DaAll K S H (v :: vs) (d :: ds)
end
/-- tuples stay, and the lists at S -/
def Fr (S : Addr → Prop) (H H' : Hp) : Prop := TK H H' ∧ ∀ a xs, S a → H a = some (.lst xs) → H' a = some (.lst xs)
theorem fr_same {S : Addr → Prop} {H H' : Hp} (s : Same H H') : Fr S H H' := ⟨tk_same s, fun a xs _ h => s a _ h⟩
theorem Fr.trans {S : Addr → Prop} {H H1 H2 : Hp} (a : Fr S H H1) (b : Fr S H1 H2) : Fr S H H2 := ⟨a.1.trans b.1, fun c xs s h => b.2 c xs s (a.2 c xs s h)⟩
section
variable {K : PySem.W.Frag} {S : Addr → Prop} {H H' : Hp}
mutual
theorem Da.mono (t : Fr S H H') : ∀ (d : PyData) {v : V}, Da K S H v d → Da K S H' v d
  | .none, _, h => by cases h; exact .non
  | .bool _, _, h => by cases h; exact .bl _
  | .int _, _, h => by cases h; exact .int _
  | .str _, _, h => by cases h; exact .str _
  | .tuple ds, _, h => by cases h with | tup e r => exact .tup (e.mono t.1) (DaAll.mono t ds r)
  | .list ds, _, h => by cases h with | lst s e r => exact .lst s (t.2 _ _ s e) (DaAll.mono t ds r)
  | .dict _, _, h => by cases h
theorem DaAll.mono (t : Fr S H H') : ∀ (ds : List PyData) {vs : List V}, DaAll K S H vs ds → DaAll K S H' vs ds
  | [], _, h => by cases h; exact .nil
  | d :: ds, _, h => by cases h with | cons a r => exact .cons (Da.mono t d a) (DaAll.mono t ds r)
end
mutual
theorem Da.dp : ∀ (d : PyData) {v : V}, Da K S H v d → Dp K H v d
  | .none, _, h => by cases h; exact .non
  | .bool _, _, h => by cases h; exact .bl _
  | .int _, _, h => by cases h; exact .int _
  | .str _, _, h => by cases h; exact .str _
  | .tuple ds, _, h => by cases h with | tup e r => exact .tup e.sq (DaAll.dp ds r)
  | .list ds, _, h => by cases h with | lst s e r => exact .lst (.of e) (DaAll.dp ds r)
  | .dict _, _, h => by cases h
theorem DaAll.dp : ∀ (ds : List PyData) {vs : List V}, DaAll K S H vs ds → DpAll K H vs ds
  | [], _, h => by cases h; exact .nil
  | d :: ds, _, h => by cases h with | cons a r => exact .cons (Da.dp d a) (DaAll.dp ds r)
end

mutual
def noL : PyData → Bool
  | .tuple ds => noLs ds
  | .list _ => false
  | .dict _ => false
  | _ => true
def noLs : List PyData → Bool
  | [] => true
  | d :: ds => noL d && noLs ds
end
mutual
theorem Da.im : ∀ (d : PyData) {v : V}, noL d = true → Da K S H v d → Im K H v d
  | .none, _, _, h => by cases h; exact .non
  | .bool _, _, _, h => by cases h; exact .bl _
  | .int _, _, _, h => by cases h; exact .int _
  | .str _, _, _, h => by cases h; exact .str _
  | .tuple ds, _, n, h => by cases h with | tup e r => exact .tup e (DaAll.im ds (by simpa [noL] using n) r)
  | .list ds, _, n, _ => by simp [noL] at n
  | .dict _, _, n, _ => by simp [noL] at n
theorem DaAll.im : ∀ (ds : List PyData) {vs : List V}, noLs ds = true → DaAll K S H vs ds → ImAll K H vs ds
  | [], _, _, h => by cases h; exact .nil
  | d :: ds, _, n, h => by
    have n' : noL d = true ∧ noLs ds = true := by simpa [noLs] using n
    cases h with | cons a r => exact .cons (Da.im d n'.1 a) (DaAll.im ds n'.2 r)
end
mutual
theorem Im.da : ∀ (d : PyData) {v : V}, Im K H v d → Da K S H v d
  | .none, _, h => by cases h; exact .non
  | .bool _, _, h => by cases h; exact .bl _
  | .int _, _, h => by cases h; exact .int _
  | .str _, _, h => by cases h; exact .str _
  | .tuple ds, _, h => by cases h with | tup e r => exact .tup e (ImAll.da ds r)
  | .list _, _, h => by cases h
  | .dict _, _, h => by cases h
theorem ImAll.da : ∀ (ds : List PyData) {vs : List V}, ImAll K H vs ds → DaAll K S H vs ds
  | [], _, h => by cases h; exact .nil
  | d :: ds, _, h => by cases h with | cons a r => exact .cons (Im.da d a) (ImAll.da ds r)
end
theorem DaAll.len : ∀ {vs : List V} {ds : List PyData}, DaAll K S H vs ds → vs.length = ds.length
  | [], ds, h => by cases h; rfl
  | _ :: _, _, h => by cases h with | cons _ r => rw [List.length_cons, List.length_cons, DaAll.len r]
theorem DaAll.get : ∀ {vs : List V} {ds : List PyData} {i : Nat} {d : PyData}, DaAll K S H vs ds → ds[i]? = some d → ∃ v, vs[i]? = some v ∧ Da K S H v d
  | _, _, 0, _, .cons a _, e => by
    simp at e; subst e; exact ⟨_, rfl, a⟩
  | _, _, i + 1, _, .cons _ r, e => by
    obtain ⟨v, h1, h2⟩ := DaAll.get (i := i) r (by simpa using e)
    exact ⟨v, by simpa using h1, h2⟩
  | _, _, _, _, .nil, e => by simp at e
theorem DaAll.getV : ∀ {vs : List V} {ds : List PyData} {i : Nat} {v : V}, DaAll K S H vs ds → vs[i]? = some v → ∃ d, ds[i]? = some d ∧ Da K S H v d
  | _, _, 0, _, .cons a _, e => by
    simp at e; subst e; exact ⟨_, rfl, a⟩
  | _, _, i + 1, _, .cons _ r, e => by
    obtain ⟨v, h1, h2⟩ := DaAll.getV (i := i) r (by simpa using e)
    exact ⟨v, by simpa using h1, h2⟩
  | _, _, _, _, .nil, e => by simp at e
theorem DaAll.app : ∀ {xs ys : List V} {ds es : List PyData}, DaAll K S H xs ds → DaAll K S H ys es → DaAll K S H (xs ++ ys) (ds ++ es)
  | _, _, _, _, .nil, b => b
  | _, _, _, _, .cons h r, b => .cons h (DaAll.app r b)
theorem DaAll.take : ∀ {xs : List V} {ds : List PyData} (n : Nat), DaAll K S H xs ds → DaAll K S H (xs.take n) (ds.take n)
  | _, _, 0, _ => by rw [List.take_zero, List.take_zero]; exact .nil
  | _, _, n + 1, .nil => by rw [List.take_nil, List.take_nil]; exact .nil
  | _, _, n + 1, .cons h r => by rw [List.take_succ_cons, List.take_succ_cons]; exact .cons h (DaAll.take n r)
theorem DaAll.drop : ∀ {xs : List V} {ds : List PyData} (n : Nat), DaAll K S H xs ds → DaAll K S H (xs.drop n) (ds.drop n)
  | _, _, 0, h => by rw [List.drop_zero, List.drop_zero]; exact h
  | _, _, n + 1, .nil => by rw [List.drop_nil, List.drop_nil]; exact .nil
  | _, _, n + 1, .cons h r => by rw [List.drop_succ_cons, List.drop_succ_cons]; exact DaAll.drop n r
theorem DaAll.rev : ∀ {xs : List V} {ds : List PyData}, DaAll K S H xs ds → DaAll K S H xs.reverse ds.reverse
  | _, _, .nil => .nil
  | _, _, .cons h r => by rw [List.reverse_cons, List.reverse_cons]; exact DaAll.app (DaAll.rev r) (.cons h .nil)
end
end Ly

set_option Elab.async false
set_option linter.all false
set_option maxRecDepth 100000
/-! defs that are run where no repr is under way, and repr of data within them -/
namespace Ly
open PySem PySem.Spec PyProof.Rows L2
/-- no repr is under way around -/
def Calm (A : Around) : Prop := A.guards = some []
theorem calm_caller : Calm callerA := rfl
theorem Calm.deeper {A : Around} (h : Calm A) (env : Env) : Calm (A.deeper env) := h
/-- a promise kept wherever no repr is under way -/
structure Kept (P : Program) (w : World) (K : PySem.W.Frag) (mg : Str → Option Value) (base : Heap) (k : Nat) (f : Addr) (fd : FuncData) (ps : List Str) (sp : Sp) : Prop where
  len : ∀ vs H Q E, sp vs H Q E → vs.length = ps.length
  run : ∀ (A : Around) (outer : List Env) (s : Shared) (H : Hp) (args : Args) (us : List Value) (vs : List V) (Q : VK) (E : XK), Room k A → Calm A → Env0 P w K mg base A outer s H → BindsTo s fd args (ps.zip us) → Vals vs us → sp vs H Q E →
    codeAny (model P w) A (.call (.ref f) args) (CR CX0 outer P w H s Q E) s
section
variable {P : Program} {w : World} {K : PySem.W.Frag} {mg : Str → Option Value} {base : Heap} {k : Nat} {sp : Sp}
theorem kept_of {x : Str} {st : Stmt} {f : Addr} {fd : FuncData} {N ps : List Str} (F : Fun K x x st f fd) (S : FnScope N ps (defScope st)) (len : ∀ vs H Q E, sp vs H Q E → vs.length = ps.length)
    (body : ∀ (cdv : Value) (A : Around) (outer : List Env) (s : Shared) (H : Hp) (vs : List V) (Q : VK) (E : XK), Room k (A.deeper (envOfC x (defScope st) s.heap.objs.size f cdv)) → Calm (A.deeper (envOfC x (defScope st) s.heap.objs.size f cdv)) → sp vs H Q E →
      ∃ t, PSs (cxOf CX0 P w K mg base N x (defScope st) f cdv A outer s H E).nox (defBody st) t ∧ t { nx := fun _ H' => Q .non H', rt := Q } (start N vs) H) : Kept P w K mg base (k + 1) f fd ps sp := by
  obtain ⟨oc, od, kV, doc, pm, an, cdv, ct, osl, rfl, lk, code⟩ := F.ex
  constructor
  · exact len
  · intro A outer s H args us vs Q E hr calm e0 bind rel hsp
    obtain ⟨t, ht, hq⟩ := body cdv A outer s H vs Q E (hr.deeper _) (calm.deeper _) hsp
    have kept : K.In s.heap := e0.mod.kin.keeps fun b o e => (e0.bs b o e).1
    have nolim : s.heap.NoLimit := e0.mod.nolimit.keeps fun b o e => (e0.bs b o e).1
    have kinds : ∀ y ∈ ps.zip us, (defScope st).names.lookup y.1 = some .local ∨ ((defScope st).names.lookup y.1 = some .cell ∧ ((cellsFrom (s.heap.objs.size + 1) (defScope st).names []).lookup y.1).isSome = true) := by
      intro y hy
      rcases S.par y.1 (List.of_mem_zip (a := y.1) (b := y.2) hy).1 with h | h
      · exact .inl h
      · exact .inr ⟨h, PySem.W.cellsFrom_some _ _ _ (.inl h)⟩
    refine codeAny_call_function hr.depth (kept _ _ lk) rfl S.co S.gen rfl (PySem.W.codeRec_of kept code) (bind _ _ _ _ (wpAny_newFunctionEnv_cells S.kind kinds fun env he s1 ent => ?_))
    subst he
    refine ⟨nolim.keeps ent.toInCall.keep, codeAny_func ?_⟩
    have I : Inv (cxOf CX0 P w K mg base N x (defScope st) f cdv A outer s H E) [] (start N vs) H s1 := inv_start S hr.hd e0 (len _ _ _ _ hsp) rel ent
    refine wpAny_mono (ht.nox.run [] s1 (start N vs) H _ I hq) (fun fl s' hs => ?_) fun e s' hs => hs
    match fl, hs with
    | .ret u, ⟨v, σ', H', J, rv, q⟩ => exact ⟨v, H', J.os, J.bare, J.base, J.hok, rv, q⟩
    | .next, ⟨σ', H', J, q⟩ => exact ⟨V.non, H', J.os, J.bare, J.base, J.hok, rfl, q⟩
    | .brk, ⟨_, _, _, q⟩ => exact False.elim q
    | .cont, ⟨_, _, _, q⟩ => exact False.elim q
/-- such a def by its name -/
structure DefG (P : Program) (w : World) (K : PySem.W.Frag) (mg : Str → Option Value) (base : Heap) (k : Nat) (x : Str) (st : Stmt) (ps : List Str) (sp : Sp) : Prop where
  ex : ∃ (f : Addr) (fd : FuncData), Kept P w K mg base k f fd ps sp ∧ mg x = some (.ref f) ∧ PySem.W.keepIn K (.ref f) = true ∧ L2.Binds K fd ps [] ∧ Fun K x x st f fd
theorem Here.toDefG {x : Str} {st : Stmt} {ps : List Str} (z : Here K mg x st) (ok : ∀ {f : Addr} {fd : FuncData}, Fun K x x st f fd → Kept P w K mg base k f fd ps sp)
    (b : ∀ (kV doc pm : Value) (an : Option Addr) (cdv ct : Value) (us : List Value), us.length = ps.length → bindArgs (PySem.W.fnOf x x (defArgs st) (defBody st) (defScope st) .none kV doc pm an cdv ct) ⟨us, []⟩ = pure (ps.zip us)) : DefG P w K mg base k x st ps sp := by
  obtain ⟨f, fd, hm, F⟩ := z
  exact ⟨f, fd, ok F, hm, F.kp, F.binds b, F⟩
end
section
variable {X : Cx} {k : Nat} {x : Str} {st : Stmt} {ps : List Str} {sp : Sp} {p pos : Pos} {e : Expr} {es : List Expr} {t : TA}
theorem pe_defG (O : DefG X.prog X.w X.K X.mg X.base k x st ps sp) (hr : Room k X.A) (calm : Calm X.A) (hg : Gl X x) (ha : PA X (e :: es) t) (hdb : (x == ("__debug__" : Str)) = false := by decide)
    (he : starEach (e :: es) X.env = (false, eval e X.env) :: starEach es X.env := by rfl) (hpl : (backTo pos (starEach es X.env)).any (·.1) = false := by rfl) :
    PE X (.Call (.Name x p) (e :: es) [] pos) (tCall sp [] E0 t) := by
  obtain ⟨f, fd, F, hm, hk, hb, _⟩ := O.ex
  refine ⟨fun pins s σ H Q I h => wpAny_Call_Name_kw (ld_glob I hg hm (PySem.W.callWith_K (h₀ := X.base) I.ok.mod.kin hk (thn (ha.run pos pins s σ H _ I h) ?_) he hpl) hdb)⟩
  rintro us s1 ⟨vs, H1, I1, r, q⟩
  have q' : sp vs H1 Q E0 := by
    have : vs ++ [] = vs := List.append_nil vs
    rw [← this]; exact q
  have hl : us.length = ps.length := by rw [← r.length]; exact F.len _ _ _ _ q'
  refine ⟨I1.kIn, wpAny_call (codeAny_mono (F.run X.A X.stack s1 H1 ⟨us, []⟩ us vs Q E0 hr calm I1.env0 (by simpa using hb s1 us I1.kIn (by simpa using hl)) r q') fun r' s' hq => ?_)⟩
  match r', hq with
  | .error e, hq => exact pass0 pins σ H1 s1 e s' I1 hq
  | .ok (.ret u), hq => exact I1.after hq
end
/-! ### repr of data -/
def rRepr (K : PySem.W.Frag) : List V → Hp → VK → Prop := fun vs H Q => ∃ (a : Addr) (d : PyData), vs = [.ref a] ∧ Dp K H (.ref a) d ∧ d.showable = true ∧ d.hasDict = false ∧ d.shown.length ≤ sizeLine ∧ d.depth ≤ 15 ∧ Q (.str d.shown) H
theorem kcr_repr {X : Cx} (K : PySem.W.Frag) (calm : Calm X.A) (hu : X.A.units + 20 < cLine) (eK : X.K = K := by rfl) : CallR X (.builtin "repr") (rRepr K) := by
  subst eK
  intro pins s σ H vs us Q I r q
  obtain ⟨a, d, rfl, hd, sh, nd, sz, dp, q⟩ := q
  rw [Vals.ref1 r]
  obtain ⟨as, rd⟩ := Dp.reads I d (.ref a) (.ref a) hd rfl
  exact repr_of_reads' rd sh (fun e => by rw [nd] at e; cases e) calm (by omega) (fun _ _ e => e) (fun h' u tk hk => ⟨.str d.shown, H, I.kept hk, ⟨u, rfl⟩, q⟩) sz
/-! ### the law's end -/
section
variable {P : Program} {w : World} {K : PySem.W.Frag} {mg mb : Str → Option Value} {k : Nat} {fa a : Addr} {fd : FuncData} {x : Str} {sp : Sp} {s₁ : Shared} {vs : List Value} {ns : List Int}
/-- a script that is tracked, or one of the module's own -/
structure Ent (P : Program) (w : World) (K : PySem.W.Frag) (a : Addr) (s₁ : Shared) (H : Hp) : Prop where
  only : Only H
  ok : HOk P w H s₁.heap
  at' : ∀ b, H b ≠ none → b = a
  own : H a ≠ none → K.lookup a = none
theorem ent_run {H : Hp} (N : Ent P w K a s₁ H) (KX : K.In s₁.heap) (hns : s₁.heap.Ns mainGlobals mg) (hb : s₁.heap.Ns builtinsNs mb) (hbb : ∀ x : Str, x ≠ "__name__" → mb x = bootBuiltins x) (hlim : s₁.heap.NoLimit) (hg : s₁.gens = #[])
    (ha : s₁.heap.get? a = some { cls := .type "list", data := .seq vs.toArray }) (hr : Room k callerA)
    (F : ∀ base : Heap, K.In base → base.Ns mainGlobals mg → Kept P w K mg base k fa fd [x] sp) (hbind : ∀ (s : Shared) (u : Value), BindsTo s fd ⟨[u], []⟩ [(x, u)])
    (hsp : sp [.ref a] H (fun v _ => v = .bl true) fun _ _ _ => False) :
    codeAny (model P w) callerA (.call (.ref fa) ⟨[.ref a], []⟩) (fun r s' => r = .ok (.ret (.bool true)) ∧ OldK s₁.heap s'.heap ∧ s'.os = s₁.os ∧ AllBare s'.gens) s₁ := by
  -- what is no script is seen in the heap without it
  have low : ∀ {b : Addr} {o : Obj}, s₁.heap.get? b = some o → (b = a → H a = none) → (hidT s₁.heap H).get? b = some o := fun {b o} e n => hidT_get e (Classical.byContradiction fun z => by
    have ba := N.at' b z
    rw [ba] at z
    exact z (n ba))
  have dict : ∀ {b : Addr} {m : Str → Option Value}, s₁.heap.Ns b m → (hidT s₁.heap H).Ns b m := by
    rintro b m ⟨o, es, ep, e, d, r⟩
    refine ⟨o, es, ep, low e fun z => ?_, d, r⟩
    rw [z, ha] at e
    obtain rfl := Option.some.inj e
    cases d
  have kin : K.In (hidT s₁.heap H) := fun b o e => low (KX b o e) fun z => Classical.byContradiction fun n => by
    rw [z, N.own n] at e
    cases e
  have hM : Mod K mg (hidT s₁.heap H) := by
    obtain ⟨mc, c1, c2⟩ := hlim
    exact ⟨kin, dict hns, ⟨mb, dict hb, hbb⟩, ⟨mc, dict c1, c2⟩⟩
  have e0 : Env0 P w K mg (hidT s₁.heap H) callerA [] s₁ H := by
    refine ⟨rfl, hM, fun b o e => of_hidT e, Nat.le_of_eq (hidT_size _ _), trivial, fun b hb => ?_, N.ok, .of_eq hg⟩
    exact nomatch (show b ∈ ([] : List Addr) from hb)
  refine codeAny_mono ((F _ kin (dict hns)).run callerA [] s₁ H ⟨[.ref a], []⟩ [.ref a] [.ref a] _ _ hr calm_caller e0 (hbind s₁ (.ref a)) (.cons rfl .nil) hsp) fun r s' h => ?_
  match r, h with
  | .error e, h => exact False.elim h
  | .ok .next, h => exact False.elim h
  | .ok .brk, h => exact False.elim h
  | .ok .cont, h => exact False.elim h
  | .ok (.ret u), ⟨v, H', os, bare, un, ok', rv, (qv : v = .bl true)⟩ =>
    subst qv
    obtain rfl : u = Value.bool true := rv
    refine ⟨rfl, OldK.of_keep fun b o e => ?_, os, bare⟩
    by_cases hb' : H b = none
    · exact un.keep b o e hb' (by intro z; exact nomatch (show b ∈ ([] : List Addr) from z)) (by simp)
    · rcases N.only b with z | ⟨ob, xs, z⟩
      · exact absurd z hb'
      · obtain ⟨e1, _⟩ := N.ok b _ z
        obtain ⟨e2, _⟩ := ok' b _ (un.frzs b ob _ z)
        rw [e] at e1
        obtain rfl := Option.some.inj e1
        exact e2
theorem law_kept (KX : K.In s₁.heap) (hns : s₁.heap.Ns mainGlobals mg) (hb : s₁.heap.Ns builtinsNs mb) (hbb : ∀ x : Str, x ≠ "__name__" → mb x = bootBuiltins x) (hlim : s₁.heap.NoLimit) (hg : s₁.gens = #[])
    (ha : s₁.heap.get? a = some { cls := .type "list", data := .seq vs.toArray }) (hi : IntsAre vs ns) (hl : ns.length ≤ sizeLine) (hr : Room k callerA)
    (F : ∀ base : Heap, K.In base → base.Ns mainGlobals mg → Kept P w K mg base k fa fd [x] sp) (hbind : ∀ (s : Shared) (u : Value), BindsTo s fd ⟨[u], []⟩ [(x, u)])
    (hsp : ∀ H : Hp, Only H → SqL K H a (ns.map V.int) → sp [.ref a] H (fun v _ => v = .bl true) fun _ _ _ => False) :
    codeAny (model P w) callerA (.call (.ref fa) ⟨[.ref a], []⟩) (fun r s' => r = .ok (.ret (.bool true)) ∧ OldK s₁.heap s'.heap ∧ s'.os = s₁.os ∧ AllBare s'.gens) s₁ := by
  have rv := vals_ints hi
  have go : ∀ {H : Hp}, Ent P w K a s₁ H → SqL K H a (ns.map V.int) → codeAny (model P w) callerA (.call (.ref fa) ⟨[.ref a], []⟩) (fun r s' => r = .ok (.ret (.bool true)) ∧ OldK s₁.heap s'.heap ∧ s'.os = s₁.os ∧ AllBare s'.gens) s₁ :=
    fun N hS => ent_run N KX hns hb hbb hlim hg ha hr F hbind (hsp _ N.only hS)
  by_cases own : K.lookup a = none
  · -- tracked, and held as it is
    generalize hz : (HO.frz { cls := .type "list", data := .seq vs.toArray } (.lst (ns.map V.int))) = z
    have here : (upd (fun _ => none) a z) a = some z := upd_same
    refine go (H := upd (fun _ => none) a z) ⟨fun b => ?_, fun b u e => ?_, fun b n => ?_, fun _ => own⟩ (.inl (.inr ⟨{ cls := .type "list", data := .seq vs.toArray }, by rw [here, ← hz]⟩))
    · by_cases e : b = a
      · exact .inr ⟨_, _, by rw [e, here, ← hz]⟩
      · exact .inl (upd_ne e)
    · by_cases eb : b = a
      · subst eb
        rw [here, ← hz] at e
        obtain rfl := Option.some.inj e
        exact ⟨ha, by rw [List.length_map]; exact hl, vs, _, rv, ha⟩
      · rw [upd_ne eb] at e
        cases e
    · exact Classical.byContradiction fun e => n (upd_ne e)
  · obtain ⟨o, ho⟩ := Option.ne_none_iff_exists'.mp own
    have e := KX a o ho
    rw [ha] at e
    obtain rfl := Option.some.inj e
    refine go (H := fun _ => none) ⟨fun _ => .inl rfl, (fun b u e => by cases e), fun b n => absurd rfl n, fun n => absurd rfl n⟩ (.inr ⟨_, vs.toArray, _, ho, rfl, rfl, rfl, by rw [List.size_toArray, hi.length]; exact hl, by simpa using rv⟩)
end
theorem walk_kept {l : PySem.W.OpenLaw} {n k : Nat} {q : Program} {loose : List Str} {XP : (Str → Option Value) → Heap → Prop} {YP : World → Heap → Prop} {d : DefRec} {K : Params → PySem.W.Frag} {sp : World → Sp} {x : Str}
    (hn : l.most = some n) (hn2 : n ≤ sizeLine) (hdf : d.params.defaults = []) (hr : Room k callerA) (hY : ∀ (w : World) (h : Heap), YP w h → (K w.params).In h)
    (F : ∀ (w : World) (mg : Str → Option Value) (fa : Addr) (h : Heap), (K w.params).In h → h.Ns mainGlobals mg → mg d.name = some (.ref fa) →
      ∃ fd : FuncData, (∀ (s : Shared) (u : Value), BindsTo s fd ⟨[u], []⟩ [(x, u)]) ∧ ∀ base : Heap, (K w.params).In base → base.Ns mainGlobals mg → Kept l.prog w (K w.params) mg base k fa fd [x] (sp w))
    (hsp : ∀ (w : World) (H : Hp) (a : Addr) (ns : List Int), ns.length ≤ n → (∀ z ∈ ns, Builtin.Int.intBits z ≤ 1048576) → Only H → SqL (K w.params) H a (ns.map V.int) → sp w [.ref a] H (fun v _ => v = .bl true) fun _ _ _ => False) :
    PySem.W.WalkO q loose XP YP l.row.toRowW d [] (fun f vs => PySem.call f vs) := by
  refine Att.attach_callB hn hdf fun w s₀ s₁ mg mb fa o pm cd doc a vs ns G Y _ _ _ hmg hobj hints hlen hbits hg => ?_
  have KX := hY w _ Y
  obtain ⟨fd, hb, hF⟩ := F w mg fa _ KX G.T.g hmg
  exact law_kept KX G.T.g G.T.b G.T.builtins G.T.nolimit hg hobj hints (Nat.le_trans hlen hn2) hr hF hb fun H hO hS => hsp w H a ns hlen hbits hO hS
end Ly

set_option Elab.async false
set_option linter.all false
set_option maxRecDepth 100000
/-! odd data: as Da, with empty dicts; its repr -/
namespace Ly
open PySem PySem.Spec PyProof.Rows L2 Mt
/-- an integer that is not too great -/
def SmI (i : Int) : Prop := i.natAbs < 2 ^ 1900
instance (i : Int) : Decidable (SmI i) := inferInstanceAs (Decidable (i.natAbs < 2 ^ 1900))
mutual
inductive Od (K : PySem.W.Frag) (S : Addr → Prop) (H : Hp) : V → PyData → Prop
  | non : Od K S H .non .none
  | bl (b : Bool) : Od K S H (.bl b) (.bool b)
  | int (i : Int) : SmI i → Od K S H (.int i) (.int i)
  | str (x : Str) : x.length ≤ 100000 → Od K S H (.str x) (.str x)
  | tup {a : Addr} {xs : List V} {ds : List PyData} : ITup K H a xs → OdAll K S H xs ds → Od K S H (.ref a) (.tuple ds)
  | lst {a : Addr} {xs : List V} {ds : List PyData} : S a → sysModules < a → H a = some (.lst xs) → OdAll K S H xs ds → Od K S H (.ref a) (.list ds)
  | dic {a : Addr} : S a → H a = some (.dK []) → Od K S H (.ref a) (.dict [])
inductive OdAll (K : PySem.W.Frag) (S : Addr → Prop) (H : Hp) : List V → List PyData → Prop
  | nil : OdAll K S H [] []
  | cons {v : V} {vs : List V} {d : PyData} {ds : List PyData} : Od K S H v d → OdAll K S H vs ds → OdAll K S H (v :: vs) (d :: ds)
end
/-- tuples stay, and all that stands at S -/
def Fo (S : Addr → Prop) (H H' : Hp) : Prop := TK H H' ∧ ∀ a o, S a → H a = some o → H' a = some o
theorem fo_same {S : Addr → Prop} {H H' : Hp} (s : Same H H') : Fo S H H' := ⟨tk_same s, fun a o _ h => s a o h⟩
theorem Fo.rfl' {S : Addr → Prop} {H : Hp} : Fo S H H := ⟨TK.rfl H, fun _ _ _ h => h⟩
theorem Fo.trans {S : Addr → Prop} {H H1 H2 : Hp} (a : Fo S H H1) (b : Fo S H1 H2) : Fo S H H2 := ⟨a.1.trans b.1, fun c o s h => b.2 c o s (a.2 c o s h)⟩
section
variable {K : PySem.W.Frag} {S : Addr → Prop} {H H' : Hp}
mutual
theorem Od.mono (t : Fo S H H') : ∀ {v : V} {d : PyData}, Od K S H v d → Od K S H' v d
  | _, _, .non => .non
  | _, _, .bl b => .bl b
  | _, _, .int i l => .int i l
  | _, _, .str x l => .str x l
  | _, _, .tup e r => .tup (e.mono t.1) (OdAll.mono t r)
  | _, _, .lst s b e r => .lst s b (t.2 _ _ s e) (OdAll.mono t r)
  | _, _, .dic s e => .dic s (t.2 _ _ s e)
theorem OdAll.mono (t : Fo S H H') : ∀ {vs : List V} {ds : List PyData}, OdAll K S H vs ds → OdAll K S H' vs ds
  | _, _, .nil => .nil
  | _, _, .cons a r => .cons (Od.mono t a) (OdAll.mono t r)
end
theorem OdAll.len : ∀ {vs : List V} {ds : List PyData}, OdAll K S H vs ds → vs.length = ds.length
  | _, _, .nil => rfl
  | _, _, .cons _ r => by rw [List.length_cons, List.length_cons, OdAll.len r]
theorem OdAll.get : ∀ {vs : List V} {ds : List PyData} {i : Nat} {d : PyData}, OdAll K S H vs ds → ds[i]? = some d → ∃ v, vs[i]? = some v ∧ Od K S H v d
  | _, _, 0, _, .cons a _, e => by
    simp at e; subst e; exact ⟨_, rfl, a⟩
  | _, _, i + 1, _, .cons _ r, e => by
    obtain ⟨v, h1, h2⟩ := OdAll.get (i := i) r (by simpa using e)
    exact ⟨v, by simpa using h1, h2⟩
  | _, _, _, _, .nil, e => by simp at e
theorem OdAll.getV : ∀ {vs : List V} {ds : List PyData} {i : Nat} {v : V}, OdAll K S H vs ds → vs[i]? = some v → ∃ d, ds[i]? = some d ∧ Od K S H v d
  | _, _, 0, _, .cons a _, e => by
    simp at e; subst e; exact ⟨_, rfl, a⟩
  | _, _, i + 1, _, .cons _ r, e => by
    obtain ⟨v, h1, h2⟩ := OdAll.getV (i := i) r (by simpa using e)
    exact ⟨v, by simpa using h1, h2⟩
  | _, _, _, _, .nil, e => by simp at e
theorem OdAll.app : ∀ {xs ys : List V} {ds es : List PyData}, OdAll K S H xs ds → OdAll K S H ys es → OdAll K S H (xs ++ ys) (ds ++ es)
  | _, _, _, _, .nil, b => b
  | _, _, _, _, .cons h r, b => .cons h (OdAll.app r b)
theorem OdAll.snoc {xs : List V} {ds : List PyData} {v : V} {d : PyData} (h : OdAll K S H xs ds) (a : Od K S H v d) : OdAll K S H (xs ++ [v]) (ds ++ [d]) := h.app (.cons a .nil)
theorem OdAll.take : ∀ {xs : List V} {ds : List PyData} (n : Nat), OdAll K S H xs ds → OdAll K S H (xs.take n) (ds.take n)
  | _, _, 0, _ => by rw [List.take_zero, List.take_zero]; exact .nil
  | _, _, n + 1, .nil => by rw [List.take_nil, List.take_nil]; exact .nil
  | _, _, n + 1, .cons h r => by rw [List.take_succ_cons, List.take_succ_cons]; exact .cons h (OdAll.take n r)
theorem OdAll.drop : ∀ {xs : List V} {ds : List PyData} (n : Nat), OdAll K S H xs ds → OdAll K S H (xs.drop n) (ds.drop n)
  | _, _, 0, h => by rw [List.drop_zero, List.drop_zero]; exact h
  | _, _, n + 1, .nil => by rw [List.drop_nil, List.drop_nil]; exact .nil
  | _, _, n + 1, .cons h r => by rw [List.drop_succ_cons, List.drop_succ_cons]; exact OdAll.drop n r
theorem OdAll.rev : ∀ {xs : List V} {ds : List PyData}, OdAll K S H xs ds → OdAll K S H xs.reverse ds.reverse
  | _, _, .nil => .nil
  | _, _, .cons h r => by rw [List.reverse_cons, List.reverse_cons]; exact OdAll.app (OdAll.rev r) (.cons h .nil)
mutual
/-- its texts are short -/
def shS : PyData → Bool
  | .str x => decide (x.length ≤ 100000)
  | .int i => decide (SmI i)
  | .tuple ds => shSs ds
  | _ => true
def shSs : List PyData → Bool
  | [] => true
  | d :: ds => shS d && shSs ds
end
mutual
theorem Im.od : ∀ (d : PyData) {v : V}, shS d = true → Im K H v d → Od K S H v d
  | .none, _, _, h => by cases h; exact .non
  | .bool _, _, _, h => by cases h; exact .bl _
  | .int _, _, n, h => by cases h; exact .int _ (by simpa [shS] using n)
  | .str _, _, n, h => by cases h; exact .str _ (by simpa [shS] using n)
  | .tuple ds, _, n, h => by cases h with | tup e r => exact .tup e (ImAll.od ds (by simpa [shS] using n) r)
  | .list _, _, _, h => by cases h
  | .dict _, _, _, h => by cases h
theorem ImAll.od : ∀ (ds : List PyData) {vs : List V}, shSs ds = true → ImAll K H vs ds → OdAll K S H vs ds
  | [], _, _, h => by cases h; exact .nil
  | d :: ds, _, n, h => by
    have n' : shS d = true ∧ shSs ds = true := by simpa [shSs] using n
    cases h with | cons a r => exact .cons (Im.od d n'.1 a) (ImAll.od ds n'.2 r)
end
mutual
theorem Od.im : ∀ (d : PyData) {v : V}, noL d = true → Od K S H v d → Im K H v d
  | .none, _, _, h => by cases h; exact .non
  | .bool _, _, _, h => by cases h; exact .bl _
  | .int _, _, _, h => by cases h; exact .int _
  | .str _, _, _, h => by cases h; exact .str _
  | .tuple ds, _, n, h => by cases h with | tup e r => exact .tup e (OdAll.im ds (by simpa [noL] using n) r)
  | .list ds, _, n, _ => by simp [noL] at n
  | .dict _, _, n, _ => by simp [noL] at n
theorem OdAll.im : ∀ (ds : List PyData) {vs : List V}, noLs ds = true → OdAll K S H vs ds → ImAll K H vs ds
  | [], _, _, h => by cases h; exact .nil
  | d :: ds, _, n, h => by
    have n' : noL d = true ∧ noLs ds = true := by simpa [noLs] using n
    cases h with | cons a r => exact .cons (Od.im d n'.1 a) (OdAll.im ds n'.2 r)
end
/-- its type -/
theorem od_ty {d : PyData} {v : V} (h : Od K S H v d) : TyX K H v (.type (tyName d)) := by
  cases h with
  | non => exact .base .non
  | bl b => exact .base (.bl b)
  | int i _ => exact .base (.int i)
  | str x _ => exact .base (.str x)
  | tup e _ => exact sqt_ty e.sq
  | lst _ _ e _ => exact .base (.lst e)
  | dic _ e => exact .base (.dK e)
theorem Od.tuple_inv {v : V} {ds : List PyData} (h : Od K S H v (.tuple ds)) : ∃ a xs, v = .ref a ∧ ITup K H a xs ∧ OdAll K S H xs ds := by
  cases h with | tup e r => exact ⟨_, _, rfl, e, r⟩
theorem Od.int_inv {v : V} {i : Int} (h : Od K S H v (.int i)) : v = .int i := by cases h; rfl
theorem Od.str_inv {v : V} {i : Str} (h : Od K S H v (.str i)) : v = .str i := by cases h; rfl
theorem OdAll.cons_inv {vs : List V} {d : PyData} {ds : List PyData} (h : OdAll K S H vs (d :: ds)) : ∃ v r, vs = v :: r ∧ Od K S H v d ∧ OdAll K S H r ds := by
  cases h with | cons a r => exact ⟨_, _, rfl, a, r⟩
theorem OdAll.nil_inv {vs : List V} (h : OdAll K S H vs []) : vs = [] := by cases h; rfl
end
/-! ### repr of it -/
section
variable {X : Cx} {pins : List (Addr × Obj)} {σ : L2.St} {H : Hp} {s : Shared} {S : Addr → Prop}
mutual
theorem Od.reads (I : Inv X pins σ H s) : ∀ {v : V} {d : PyData} (u : Value), Od X.K S H v d → RelV v u → ∃ as, Reads s.heap u d as ∧ sysModules ∉ as
  | _, _, _, .non, r => by cases r; exact ⟨_, .none, List.not_mem_nil⟩
  | _, _, _, .bl b, r => by cases r; exact ⟨_, .bool b, List.not_mem_nil⟩
  | _, _, _, .int i _, r => by obtain ⟨t, rfl⟩ := r; exact ⟨_, .int i t, List.not_mem_nil⟩
  | _, _, _, .str x _, r => by obtain ⟨t, rfl⟩ := r; exact ⟨_, .str x t, List.not_mem_nil⟩
  | _, _, _, .tup e h, r => by
    cases r
    obtain ⟨its, rv, ⟨o, ho, hc, n, hd⟩, _⟩ := I.tuple e.sq
    obtain ⟨as, hr, ns⟩ := OdAll.reads I its h rv
    exact ⟨_, .tuple ho hc hd hr, ns⟩
  | _, _, _, .lst _ b e h, r => by
    cases r
    obtain ⟨its, rv, ⟨o, n, ho, hc, _, hd⟩, _⟩ := I.list (.of e)
    obtain ⟨as, hr, ns⟩ := OdAll.reads I its h rv
    refine ⟨_, .list ho hc hd hr, fun z => ?_⟩
    rcases List.mem_cons.mp z with z | z
    · exact Nat.ne_of_lt b z
    · exact ns z
  | _, _, _, .dic (a := a) _ e, r => by
    cases r
    obtain ⟨_, hS, vs, kv, o, es, ep, ho, hx, hd, _, he⟩ := dk_of I.hok e
    cases kv
    have e0 : es.toList = [] := by
      have he1 := he.1
      generalize es.toList = l at he1
      cases he1
      rfl
    refine ⟨_, .dict (kvs := []) ho hx.1 hd (by rw [e0]; exact .nil) (by rw [e0]; exact .nil), fun z => ?_⟩
    have := beq_eq_false_iff_ne.mp hS
    simp only [List.cons_append, List.nil_append, List.mem_singleton] at z
    exact this z.symm
theorem OdAll.reads (I : Inv X pins σ H s) : ∀ {vs : List V} {ds : List PyData} (us : List Value), OdAll X.K S H vs ds → Vals vs us → ∃ as, ReadsAll s.heap us ds as ∧ sysModules ∉ as
  | _, _, _, .nil, r => by cases r; exact ⟨_, .nil, List.not_mem_nil⟩
  | _, _, _, .cons a h, r => by
    cases r with
    | cons r1 r2 =>
      obtain ⟨as, q1, n1⟩ := Od.reads I _ a r1
      obtain ⟨bs, q2, n2⟩ := OdAll.reads I _ h r2
      exact ⟨_, .cons q1 q2, fun z => (List.mem_append.mp z).elim n1 n2⟩
end
end
/-- repr of data of any kind: x, a text, an int, or what stands at an address -/
def rReprO (K : PySem.W.Frag) : List V → Hp → VK → Prop := fun vs H Q => ∃ (S : Addr → Prop) (a : Addr) (d : PyData), vs = [.ref a] ∧ Od K S H (.ref a) d ∧ d.showable = true ∧ d.shown.length ≤ sizeLine ∧ d.depth ≤ 15 ∧ Q (.str d.shown) H
theorem kcr_reprO {X : Cx} (K : PySem.W.Frag) (calm : Calm X.A) (hu : X.A.units + 20 < cLine) (eK : X.K = K := by rfl) : CallR X (.builtin "repr") (rReprO K) := by
  subst eK
  intro pins s σ H vs us Q I r q
  obtain ⟨S, a, d, rfl, hd, sh, sz, dp, q⟩ := q
  rw [Vals.ref1 r]
  obtain ⟨as, rd, ns⟩ := Od.reads I (.ref a) hd rfl
  exact repr_of_reads' rd sh (fun _ => ns) calm (by omega) (fun _ _ e => e) (fun h' u tk hk => ⟨.str d.shown, H, I.kept hk, ⟨u, rfl⟩, q⟩) sz
/-! ### new lists, behind the module's own objects -/
section
variable {X : Cx} {es : List Expr} {pos : Pos} {t : TA}
def tLstB (t : TA) : TE := fun σ H Q => t σ H fun xs H1 => xs.length ≤ sizeLine ∧ ∀ p, H1 p = none → sysModules < p → Q (.ref p) (upd H1 p (.lst xs))
theorem pe_lstB (h : PA X es t) : PE X (.List es pos) (tLstB t) := by
  refine ⟨fun pins s σ H Q I hq => ?_⟩
  refine wpAny_List_spliced (thn (h.run pos pins s σ H _ I hq) fun us s1 ⟨xs, H1, I1, r, z, q⟩ => ⟨by rw [← r.length]; exact z, ?_⟩)
  exact ⟨.ref s1.heap.objs.size, _, I1.laid (t' := s1.toks) (fun b u e => Heap.get?_push_of_some _ e) (Nat.le_refl _) (show ObjOk X.prog X.w _ _ _ (.lst xs) from ⟨z, us, 0, r, Heap.get?_push_size _ rfl⟩), rfl, q _ (I1.hok.fresh (Nat.le_refl _)) I1.big⟩
def rListB (K : PySem.W.Frag) : List V → Hp → VK → Prop := fun vs H Q => ∃ p ys, vs = [.ref p] ∧ SqT K H p ys ∧ ∀ l, H l = none → sysModules < l → Q (.ref l) (upd H l (.lst ys))
theorem kcall_listB {X : Cx} (K : PySem.W.Frag) (eK : X.K = K := by rfl) : CallR X (.type "list") (rListB K) := by
  subst eK
  intro pins s σ H xs us Q I r h
  obtain ⟨p, ys, rfl, hq, q⟩ := h
  rw [Vals.ref1 r]
  obtain ⟨its, r', ⟨o, ho, hc, n, hd⟩, hz⟩ := I.tuple hq
  have hlen := r'.length
  exact call_list_seq p (.inr rfl) ho hc hd (fun h' c' kp e => ⟨.ref s.heap.objs.size, _, I.laid (t' := s.toks) kp (Nat.le_refl _) (show ObjOk X.prog X.w _ h' _ (.lst ys) from ⟨hz, its, c', r', e⟩), rfl, q _ (I.hok.fresh (Nat.le_refl _)) I.big⟩) (by simp only [List.size_toArray] <;> omega)
end
end Ly

set_option Elab.async false
set_option linter.all false
set_option maxRecDepth 100000
/-! several except clauses, with and without a name; defs that raise, by name -/
namespace Ly
open PySem PySem.Spec PyProof.Rows L2
abbrev Clause := Value × Option Nat × (Addr → Value → Option Addr → TS)
/-- what a clause's suite is read with -/
def endsAs (i : Nat) (D : Ends) : Ends := { nx := fun σ' H' => D.nx (σ'.set i none) H', rt := D.rt, bk := fun σ' H' => D.bk (σ'.set i none) H', ct := fun σ' H' => D.ct (σ'.set i none) H' }
def wL (K : PySem.W.Frag) (Wout : WX) (D : Ends) : List Clause → WX
  | [] => Wout
  | (c, none, ts) :: r => fun cls d σ H => ∃ b, PySem.W.exmOne K cls c = some b ∧ (b = true → ∀ a, H a = none → ts a cls d D σ H) ∧ (b = false → wL K Wout D r cls d σ H)
  | (c, some i, ts) :: r => fun cls d σ H => ∃ b, PySem.W.exmOne K cls c = some b ∧ (b = true → ∀ a, H a = none → ts a cls d (endsAs i D) (σ.set i (some (.ref a))) H) ∧ (b = false → wL K Wout D r cls d σ H)
inductive HdL (X : Cx) : List ExceptHandler → List Clause → Prop
  | nil : HdL X [] []
  | cons {x : Str} {c : Value} {ts : Addr → Value → Option Addr → TS} {b₀ : Stmt} {suite : List Stmt} {np pos' : Pos} {hds : List ExceptHandler} {l : List Clause} (hc : Names X x c)
      (hsu : ∀ (a : Addr) (oe : Obj) (cls : Value) (d : Option Addr) (pn : List (Addr × Obj)), Zc cls d oe → (∃ vs, oe.data = .fields vs) → PSs (X.suite a ((a, oe) :: pn)) (b₀ :: suite) (ts a cls d)) (r : HdL X hds l) :
      HdL X (.ExceptHandler (some (.Name x np)) none (b₀ :: suite) pos' :: hds) ((c, none, ts) :: l)
  | as {x n : Str} {i : Nat} {c : Value} {ts : Addr → Value → Option Addr → TS} {b₀ : Stmt} {suite : List Stmt} {np pos' : Pos} {hds : List ExceptHandler} {l : List Clause} (hN : X.N.Nodup) (hi : X.N[i]? = some n) (hln : X.env.kindOf n = some .local) (hc : Names X x c)
      (hsu : ∀ (a : Addr) (oe : Obj) (cls : Value) (d : Option Addr) (pn : List (Addr × Obj)), Zc cls d oe → (∃ vs, oe.data = .fields vs) → PSs (X.suite a ((a, oe) :: pn)) (b₀ :: suite) (ts a cls d)) (r : HdL X hds l) :
      HdL X (.ExceptHandler (some (.Name x np)) (some n) (b₀ :: suite) pos' :: hds) ((c, some i, ts) :: l)
section
variable {X : Cx} {body : List Stmt} {h₀ : ExceptHandler} {hds : List ExceptHandler} {l : List Clause} {pos : Pos} {tb : WX → TS} {Wout : WX}
theorem ps_try_list (hs : X.stack = X.env :: X.outer) (hf : X.env.frame = some X.env.locals) (tk : Takes X Wout)
    (hb : ∀ (W : WX) (pn : List (Addr × Obj)) (xe : Value → Shared → Prop), Takes (X.tr pn xe) W → PassesOwn (model X.prog X.w) X.A X.env xe → PSs (X.tr pn xe) body (tb W))
    (hh : HdL X (h₀ :: hds) l) : PS X (.Try body (h₀ :: hds) [] [] pos) (fun D σ H => tb (wL X.K Wout D l) D σ H) := by
  refine ⟨fun pins s σ H D I h => ?_⟩
  have ok := I.ok
  have hfr : X.A.frames = some (X.env :: X.outer) := by rw [ok.frames, hs]
  refine wpAny_Try_except ?_
  refine wpAny_mono ((hb (wL X.K Wout D l) (X.pn ++ pins) (fun e s₁ => wpAny (model X.prog X.w) X.A (noteFrame e X.env) (fun _ s₂ => wpAny (model X.prog X.w) X.A (setFlight e none) (fun _ s₃ =>
    wpAny (model X.prog X.w) X.A (handleBy e X.env (h₀ :: hds)) (SP X pins D) X.xe s₃) X.xe s₂) X.xe s₁) (fun u s' xx => ?_) PassesOwn.looking).run [] s σ H D (I.toTry _) h) (fun f s1 hsp => ?_) (fun e s1 he => he)
  · obtain ⟨a, B, sI, pins', σ', H', cls, d, rfl, J', nb, up, sky, na, os, ag, w⟩ := xx
    have J : Inv X pins σ' H' sI := J'.ofTry ok
    have sky' : Sky B (X.env :: X.outer) a (Zc cls d) X.env.locals s'.heap := by rw [← hs]; exact sky
    show wpAny (model X.prog X.w) X.A (noteFrame (.ref a) X.env) _ _ _
    refine Sky.land Zc.steady hfr hf sky' fun h3 fl3 up3 => ?_
    have J3 : Inv X pins σ' H' { s' with heap := h3 } := J.landed nb fl3.1 (up.trans up3) os ag
    obtain ⟨oe3, vs3, he3, hz3, hd3⟩ := fl3.there
    have notFr : ∀ {h : Heap} {o : Obj} {vs : Array Value}, h.FunFrames B (X.env :: X.outer) → h.get? a = some o → o.data = .fields vs → a ∉ frs (X.env :: X.outer) := fun {h o vs} ff e dd hm => by
      obtain ⟨_, o', e', hnf⟩ := ff.mem hm
      rw [e] at e'; cases e'
      exact hnf _ dd
    have nfr := notFr fl3.2.2.1 he3 hd3
    have nL : a ≠ X.env.locals := fun z => nfr (List.mem_filterMap.mpr ⟨X.env, List.mem_cons_self, by rw [hf, z]⟩)
    have nF : a ∉ X.fs := fun hm => by
      obtain ⟨e, he, q⟩ := List.mem_filterMap.mp hm
      exact nfr (List.mem_filterMap.mpr ⟨e, List.mem_cons_of_mem _ he, q⟩)
    have S3 := J3.suite he3 hd3 na nL nF
    have LT : PySem.W.Looks (model X.prog X.w) h3 (typeOf (.ref a)) cls := fun A Q E s k q => wpAny_typeOf_ref (k _ _ he3) (by rw [hz3.1]; exact q)
    have test : ∀ {x : Str} {c : Value} {np : Pos} {Q : Value → Shared → Prop} {E : Value → Shared → Prop}, Names X x c → Q c { s' with heap := h3 } → wpAny (model X.prog X.w) (X.A.mark (some (.ref a))) (eval (.Name x np) X.env) Q E { s' with heap := h3 } := fun {x c np Q E} hc q => by
      obtain ⟨hg, hdbg, hm | ⟨hm, hv, hnn⟩⟩ := hc
      · exact ld_glob (X := X.suite a ((a, oe3) :: (X.pn ++ pins))) S3 hg hm q hdbg
      · exact ld_blt (X := X.suite a ((a, oe3) :: (X.pn ++ pins))) S3 hg hm hv q hnn hdbg
    have go : ∀ {hds' : List ExceptHandler} {l' : List Clause}, HdL X hds' l' → wL X.K Wout D l' cls d σ' H' →
        wpAny (model X.prog X.w) X.A (handleBy (.ref a) X.env hds') (SP X pins D) X.xe { s' with heap := h3 } := by
      intro hds' l' hk
      induction hk with
      | nil =>
        intro w
        refine wpAny_handleBy_nil ?_
        obtain ⟨k1, k2, k3, oe, vs, T, oT, ts', he, hz, hd, h1, hr⟩ := id fl3
        unfold PySem.passOn
        refine wpAny_bind (wpAny_field he hd h1 ?_)
        rw [if_neg (show ¬ ((Value.ref T == Value.none) = true) from by simp)]
        have fin : wpAny (model X.prog X.w) X.A (setFlight (.ref a) X.env.frame) (fun _ s4 => wpAny (model X.prog X.w) X.A (throw (.ref a) : Sem Flow) (SP X pins D) X.xe s4) X.xe { s' with heap := h3 } := by
          rw [hf]
          refine HandSPX.setFlight_upZ fl3 fun h4 hh4 up4 => wpAny_throw (tk _ _ ?_)
          exact ⟨a, B, sI, pins, σ', H', cls, d, rfl, J, nb, (up.trans up3).trans up4, .inr (.inr (by rw [hs]; exact hh4)), na, os, ag, w⟩
        first
          | exact wpAny_bind (wpAny_pure (wpAny_bind fin))
          | exact wpAny_bind fin
      | @cons x c ts b₀ suite np pos' hds2 l2 hc hsu r ih =>
        intro w
        obtain ⟨b, hb1, hyes, hno⟩ := w
        refine wpAny_handleBy_cons (codeAny_handlers_test ?_) (by intro q; cases q)
        have LM := PySem.W.exm_one (M := model X.prog X.w) (J3.kIn) LT hb1
        refine test hc (LM.here ?_)
        cases b with
        | true =>
          refine codeAny_handlers_suite ?_
          refine HandSPX.lands_againZ fl3 fun h4 fl4 up4 => ?_
          have J4 : Inv X pins σ' H' { s' with heap := h4 } := J.landed nb fl4.1 ((up.trans up3).trans up4) os ag
          obtain ⟨oe4, vs4, he4, hz4, hd4⟩ := fl4.there
          have S4 := J4.suite he4 hd4 na nL nF
          refine wpAny_mono ((hsu a oe4 cls d (X.pn ++ pins) hz4 ⟨_, hd4⟩).run [] _ _ H' _ S4 (hyes rfl a na)) (fun f s6 hsp => ?_) (fun _ _ z => False.elim z)
          cases f with
          | next =>
            obtain ⟨σ6, H6, S6, q6⟩ := hsp
            exact ⟨_, _, S6.unsuite ok, q6⟩
          | brk =>
            obtain ⟨σ6, H6, S6, q6⟩ := hsp
            exact ⟨_, _, S6.unsuite ok, q6⟩
          | cont =>
            obtain ⟨σ6, H6, S6, q6⟩ := hsp
            exact ⟨_, _, S6.unsuite ok, q6⟩
          | ret u =>
            obtain ⟨v6, σ6, H6, S6, r6, q6⟩ := hsp
            exact ⟨_, _, _, S6.unsuite ok, r6, q6⟩
        | false =>
          show wpAny _ X.A (handleBy (.ref a) X.env hds2) _ _ _
          exact ih (hno rfl)
      | @as x n i c ts b₀ suite np pos' hds2 l2 hN hi hln hc hsu r ih =>
        intro w
        obtain ⟨b, hb1, hyes, hno⟩ := w
        have hloc : Loc X.env.scope n := .inl hln
        refine wpAny_handleBy_cons (codeAny_handlers_test ?_) (by intro q; cases q)
        have LM := PySem.W.exm_one (M := model X.prog X.w) (J3.kIn) LT hb1
        refine test hc (LM.here ?_)
        cases b with
        | true =>
          refine codeAny_handlers_suite_as ?_
          refine HandSPX.lands_againZ fl3 fun h4 fl4 up4 => ?_
          have J4 : Inv X pins σ' H' { s' with heap := h4 } := J.landed nb fl4.1 ((up.trans up3).trans up4) os ag
          obtain ⟨oe4, vs4, he4, hz4, hd4⟩ := fl4.there
          have S4 := J4.suite he4 hd4 na nL nF
          refine store_ok (X := X.suite a ((a, oe4) :: (X.pn ++ pins))) (v := .ref a) S4 hN hi hloc rfl (fun s5 S5 => ?_) (.inr hln)
          refine wpAny_mono ((hsu a oe4 cls d (X.pn ++ pins) hz4 ⟨_, hd4⟩).run [] s5 _ H' _ S5 (hyes rfl a na)) (fun f s6 hsp => ?_) (fun _ _ z => False.elim z)
          have end_ : ∀ {σ6 : L2.St} {H6 : Hp} {Q : Shared → Prop}, Inv (X.suite a ((a, oe4) :: (X.pn ++ pins))) [] σ6 H6 s6 → (∀ s7, Inv X pins (σ6.set i none) H6 s7 → Q s7) →
              wpAny (model X.prog X.w) X.A (do bindName X.env n .none; unbindBehindTheSuite X.env n pos') (fun _ s7 => Q s7) X.xe s6 := fun {σ6 H6 Q} S6 hq => gone_ok (S6.unsuite ok) hN hi hln hq
          cases f with
          | next =>
            obtain ⟨σ6, H6, S6, q6⟩ := hsp
            exact end_ S6 fun s7 J7 => ⟨_, _, J7, q6⟩
          | brk =>
            obtain ⟨σ6, H6, S6, q6⟩ := hsp
            exact end_ S6 fun s7 J7 => ⟨_, _, J7, q6⟩
          | cont =>
            obtain ⟨σ6, H6, S6, q6⟩ := hsp
            exact end_ S6 fun s7 J7 => ⟨_, _, J7, q6⟩
          | ret u =>
            obtain ⟨v6, σ6, H6, S6, r6, q6⟩ := hsp
            exact end_ S6 fun s7 J7 => ⟨_, _, _, J7, r6, q6⟩
        | false =>
          show wpAny _ X.A (handleBy (.ref a) X.env hds2) _ _ _
          exact ih (hno rfl)
    exact go hh w
  · cases f with
    | next =>
      obtain ⟨σ', H', J', q⟩ := hsp
      exact wpAny_execs_nil ⟨σ', H', J'.ofTry ok, q⟩
    | brk =>
      obtain ⟨σ', H', J', q⟩ := hsp
      exact ⟨σ', H', J'.ofTry ok, q⟩
    | cont =>
      obtain ⟨σ', H', J', q⟩ := hsp
      exact ⟨σ', H', J'.ofTry ok, q⟩
    | ret u =>
      obtain ⟨v, σ', H', J', r, q⟩ := hsp
      exact ⟨v, σ', H', J'.ofTry ok, r, q⟩
end
/-! ### defs that raise, by their names -/
section
variable (P : Program) (w : World) (K : PySem.W.Frag) (mg : Str → Option Value) (base : Heap)
structure DefX (k : Nat) (x : Str) (st : Stmt) (ps : List Str) (sp : Sp) : Prop where
  ex : ∃ (f : Addr) (fd : FuncData), FnOk P w K mg base (L2.CX P w) k f fd ps sp ∧ mg x = some (.ref f) ∧ PySem.W.keepIn K (.ref f) = true ∧ L2.Binds K fd ps [] ∧ Fun K x x st f fd
end
section
variable {X : Cx} {k : Nat} {x : Str} {st : Stmt} {ps : List Str} {sp : Sp} {p pos : Pos} {e : Expr} {es : List Expr} {t : TA} {W : WX}
theorem pe_defX (O : DefX X.prog X.w X.K X.mg X.base k x st ps sp) (tk : Takes X W) (hr : Room k X.A) (hg : Gl X x) (ha : PA X (e :: es) t) (hdb : (x == ("__debug__" : Str)) = false := by decide)
    (he : starEach (e :: es) X.env = (false, eval e X.env) :: starEach es X.env := by rfl) (hpl : (backTo pos (starEach es X.env)).any (·.1) = false := by rfl) :
    PE X (.Call (.Name x p) (e :: es) [] pos) (tCallS sp (WE W) t) := by
  obtain ⟨f, fd, F, hm, hk, hb, _⟩ := O.ex
  exact pe_callS F hr hg hm hk hb (fun σ => passAt tk σ) ha hdb he hpl
end
section
variable {P : Program} {w : World} {K : PySem.W.Frag} {mg : Str → Option Value} {base : Heap}
theorem Here.toDefX {x : Str} {st : Stmt} {k : Nat} {ps : List Str} {sp : Sp} (z : Here K mg x st) (ok : ∀ {f : Addr} {fd : FuncData}, Fun K x x st f fd → FnOk P w K mg base (L2.CX P w) k f fd ps sp)
    (b : ∀ (kV doc pm : Value) (an : Option Addr) (cdv ct : Value) (us : List Value), us.length = ps.length → bindArgs (PySem.W.fnOf x x (defArgs st) (defBody st) (defScope st) .none kV doc pm an cdv ct) ⟨us, []⟩ = pure (ps.zip us)) : DefX P w K mg base k x st ps sp := by
  obtain ⟨f, fd, hm, F⟩ := z
  exact ⟨f, fd, ok F, hm, F.kp, F.binds b, F⟩
end
section
variable {K : PySem.W.Frag}
/-- isinstance of the error that the suite holds -/
def rIsX (K : PySem.W.Frag) (cls : Value) (d : Option Addr) (a : Addr) : List V → Hp → VK → Prop := fun xs H Q => ∃ (D : Addr) (c : V) (cv : Value) (b : Bool), cls = .ref D ∧ d = none ∧ ExcC K D ∧ xs = [.ref a, c] ∧ (∀ u, RelV c u → u = cv) ∧ PySem.W.kitOne K (.ref D) cv = some b ∧ Q (.bl b) H
theorem call_isX {X : Cx} {a : Addr} {cls : Value} {d : Option Addr} {oe : Obj} {pn : List (Addr × Obj)} (hz : Zc cls d oe) (hf : ∃ vs, oe.data = .fields vs) : CallR (X.suite a ((a, oe) :: pn)) (.builtin "isinstance") (rIsX X.K cls d a) := by
  intro pins s σ H xs us Q I r h
  obtain ⟨D, c, cv, b, rfl, rfl, E, h⟩ := h
  exact call_isE E hz hf pins s σ H xs us Q I r ⟨c, cv, b, h⟩
end
end Ly

set_option Elab.async false
set_option linter.all false
set_option maxRecDepth 100000
/-! a text against an object of any kind: equal, or in a list of texts -/
namespace Ly
open PySem PySem.Spec PyProof.Rows L2 Mt
theorem str_eq_declines_dict (b : Str) (u : Tok) (l : Addr) (o : Obj) (es : Array DictEntry) (ep : Nat) (hd : o.data = .dict es ep) (hc : o.cls = .type "dict") :
    Meets (Builtin.«str.__eq__» ⟨[.str b u, .ref l], []⟩) (fun _ R s => s.heap.get? l = some o ∧ R (.ok (.ret .notImplemented)) s) :=
  .of_wp fun prog w A R s h => by
    obtain ⟨cls, dd, data, sl⟩ := o
    simp only at hd hc
    subst hd hc
    obtain ⟨hp, g, d, tk, os⟩ := s
    obtain ⟨hl, h⟩ := h
    wp_walk using wpAny_loadPart' hl, wpAny_load hl
    exact ⟨_, rfl, h⟩
section
variable {A : Around} {s : Shared} {prog : Program} {w : World}
theorem dict_eq_declines_str {l : Addr} (b : Str) (u : Tok) (hT : s.TypeIs (.ref l) "dict") {E : Value → Shared → Prop} {Q : Value → Shared → Prop} (h : Q .notImplemented s) :
    wpAny (model prog w) A (call (.builtin "dict.__eq__") [.ref l, .str b u]) Q E s := by
  refine wpAny_call_entry PySem.F.slot_dict_eq_refl hT PySem.F.entry_dict_eq ?_ (PySem.F.args_dict_eq_2 _ _)
  show wpAny _ _ (Builtin.Dict.dictSlotArgs "__eq__" ⟨[.ref l, .str b u], []⟩ >>= _) _ _ s
  refine wpAny_bind ?_
  unfold Builtin.Dict.dictSlotArgs
  refine wpAny_bind (wpAny_notOrdered_dict hT ?_)
  show wpAny _ _ (pure (Value.ref l, Value.str b u)) _ _ s
  refine wpAny_pure ?_
  refine wpAny_bind (wpAny_isInstance (typeIs_str s b u) PySem.F.sub_str_dict ?_)
  simp only [Bool.not_false, if_true]
  refine wpAny_bind (wpAny_rule (wpAny_bind (wpAny_pure ?_)))
  exact wpAny_pure ⟨_, rfl, h⟩
theorem RcAt.str_dict {l : Addr} {o : Obj} {es : Array DictEntry} {ep : Nat} (b : Str) (u : Tok) (ho : s.heap.get? l = some o) (hd : o.data = .dict es ep) (hc : o.cls = .type "dict") (hu : A.units < cLine) : SeqAt.RcAt A s (.str b u) (.ref l) false := fun prog w E Q h => by
  have hT : s.TypeIs (.ref l) "dict" := ⟨_, ho, hc⟩
  exact SeqAt.rc_eq_decline_or (k := false) (typeIs_str s b u) hT (by decide) PySem.F.sub_dict_str PySem.F.slot_str_eq PySem.F.slot_dict_eq_refl
    (fun _ hq => call_meets PySem.F.slot_str_eq (typeIs_str s b u) PySem.F.entry_str_eq (PySem.F.args_str_eq_2 _ _) (str_eq_declines_dict b u l o es ep hd hc) ⟨ho, hq⟩)
    (fun _ hq => dict_eq_declines_str b u hT hq)
    (fun _ hq => wpAny_of_eq (rfl : isSame (.str b u) (.ref l) = pure false) hq) (.inr hu) h
theorem EqAt.str_dict {l : Addr} {o : Obj} {es : Array DictEntry} {ep : Nat} (b : Str) (u : Tok) (ho : s.heap.get? l = some o) (hd : o.data = .dict es ep) (hc : o.cls = .type "dict") (hu : A.units < cLine) : SeqAt.EqAt A s (.str b u) (.ref l) false := fun prog w E Q h => by
  unfold eqBool
  refine wpAny_holding ?_
  refine wpAny_ite_split (fun hab => absurd (eq_of_beq hab) nofun) (fun _ => ?_)
  exact wpAny_bind (Ly.RcAt.str_dict b u ho hd hc hu prog w E _ (wpAny_truthy_bool h))
end
/-- an object of any kind; a text is told -/
inductive Odd (K : PySem.W.Frag) (H : Hp) : V → Option Str → Prop
  | non : Odd K H .non none
  | bl (b : Bool) : Odd K H (.bl b) none
  | int (i : Int) : Odd K H (.int i) none
  | str (z : Str) : Odd K H (.str z) (some z)
  | tup {a : Addr} {xs : List V} : SqT K H a xs → Odd K H (.ref a) none
  | lst {a : Addr} {xs : List V} : SqL K H a xs → Odd K H (.ref a) none
  | dic {a : Addr} {kvs : List (Key × V)} : H a = some (.dK kvs) → Odd K H (.ref a) none
theorem Odd.same {K : PySem.W.Frag} {H H' : Hp} {v : V} {o : Option Str} (h : Odd K H v o) (s : Same H H') : Odd K H' v o := by
  cases h with
  | non => exact .non
  | bl b => exact .bl b
  | int i => exact .int i
  | str z => exact .str z
  | tup h => exact .tup (sqt_same' h s)
  | lst h => exact .lst (sql_same' h s)
  | dic h => exact .dic (s _ _ h)
section
variable {X : Cx} {pins : List (Addr × Obj)} {σ : L2.St} {H : Hp} {s : Shared} {A : Around}
theorem Odd.eqAt (I : Inv X pins σ H s) {v : V} {o : Option Str} (h : Odd X.K H v o) {u : Value} (r : RelV v u) (z : Str) (t : Tok) (hu : A.units < cLine) : SeqAt.EqAt A s (.str z t) u (decide (o = some z)) := by
  cases h with
  | non => cases r; exact SeqAt.EqAt.str_none z t
  | bl b => cases r; exact SeqAt.EqAt.str_bool z t b
  | int i => obtain ⟨t', rfl⟩ := r; exact SeqAt.EqAt.str_int z t i t'
  | str y =>
    obtain ⟨t', rfl⟩ := r
    have e : decide (some y = some z) = (z == y) := by
      by_cases h : z = y
      · subst h; simp
      · rw [decide_eq_false (fun e => h (Option.some.inj e).symm)]
        exact (beq_eq_false_iff_ne.mpr h).symm
    rw [e]
    exact SeqAt.EqAt.str_str z t y t'
  | tup hs =>
    cases r
    obtain ⟨its, rv, p, _⟩ := I.tuple hs
    exact SeqAt.EqAt.str_tuple z t p hu
  | lst hs =>
    cases r
    obtain ⟨its, rv, p, _⟩ := I.list hs
    exact SeqAt.EqAt.str_list z t p.isList hu
  | @dic a kvs hs =>
    cases r
    obtain ⟨_, _, vs, _, o', es, ep, ho, hx, hd, _⟩ := (show ObjOk X.prog X.w H s.heap a (.dK kvs) from I.hok a _ hs)
    exact Ly.EqAt.str_dict z t ho hd hx.1 hu
theorem Odd.rcAt (I : Inv X pins σ H s) {v : V} {o : Option Str} (h : Odd X.K H v o) {u : Value} (r : RelV v u) (z : Str) (t : Tok) (hu : A.units < cLine) : SeqAt.RcAt A s (.str z t) u (decide (o = some z)) := by
  cases h with
  | non => cases r; exact SeqAt.RcAt.str_none z t
  | bl b => cases r; exact SeqAt.RcAt.str_bool z t b
  | int i => obtain ⟨t', rfl⟩ := r; exact SeqAt.RcAt.str_int z t i t'
  | str y =>
    obtain ⟨t', rfl⟩ := r
    have e : decide (some y = some z) = (z == y) := by
      by_cases h : z = y
      · subst h; simp
      · rw [decide_eq_false (fun e => h (Option.some.inj e).symm)]
        exact (beq_eq_false_iff_ne.mpr h).symm
    rw [e]
    exact SeqAt.RcAt.str_str z t y t'
  | tup hs =>
    cases r
    obtain ⟨its, rv, p, _⟩ := I.tuple hs
    exact SeqAt.RcAt.str_tuple z t p hu
  | lst hs =>
    cases r
    obtain ⟨its, rv, p, _⟩ := I.list hs
    exact SeqAt.RcAt.str_list z t p.isList hu
  | @dic a kvs hs =>
    cases r
    obtain ⟨_, _, vs, _, o', es, ep, ho, hx, hd, _⟩ := (show ObjOk X.prog X.w H s.heap a (.dK kvs) from I.hok a _ hs)
    exact Ly.RcAt.str_dict z t ho hd hx.1 hu
end
/-- a text == an object -/
def rEqO (K : PySem.W.Frag) : R2 := fun x y H Q => ∃ z o, x = .str z ∧ Odd K H y o ∧ Q (.bl (decide (o = some z))) H
theorem kop_eqO {X : Cx} (K : PySem.W.Frag) (hu : X.A.units + 1 < cLine) (eK : X.K = K := by rfl) : OpR X (compareOp .Eq) (rEqO K) := by
  subst eK
  intro pins s σ H x y v u Q I rx ry h
  obtain ⟨z, o, rfl, ho, q⟩ := h
  obtain ⟨t, rfl⟩ := rx
  exact ho.rcAt I ry z t (by omega) _ _ _ _ ⟨.bl _, H, I, rfl, q⟩
/-- an object not in a list of texts -/
def rNotInO (K : PySem.W.Frag) : R2 := fun x y H Q => ∃ p zs o, y = .ref p ∧ SqL K H p (List.map V.str zs) ∧ Odd K H x o ∧ Q (.bl (!zs.any fun z => decide (o = some z))) H
theorem kop_notInO {X : Cx} (K : PySem.W.Frag) (hu : X.A.units + 1 < cLine) (eK : X.K = K := by rfl) : OpR X (compareOp .NotIn) (rNotInO K) := by
  subst eK
  intro pins s σ H x y v u Q I rx ry h
  obtain ⟨p, zs, o, rfl, hq, ho, q⟩ := h
  cases ry
  obtain ⟨its, r, pl, hz⟩ := I.list hq
  refine SeqAt.notIn_listAt (fun w => match w with | .str z _ => decide (o = some z) | _ => false) pl.isList (fun w hw => ?_) ⟨.bl _, H, I, rfl, ?_⟩
  · have hw' : w ∈ its := by simpa using hw
    have : ∀ {xs : List Str} {us : List Value}, Vals (xs.map V.str) us → ∀ w ∈ us, ∃ z t, w = .str z t := fun {xs} => by
      induction xs with
      | nil => intro us h w hw; cases h; cases hw
      | cons z xs ih =>
        intro us h w hw
        cases h with
        | cons h1 h2 =>
          rcases List.mem_cons.mp hw with rfl | hw
          · obtain ⟨t, rfl⟩ := h1
            exact ⟨z, t, rfl⟩
          · exact ih h2 w hw
    obtain ⟨z, t, rfl⟩ := this r w hw'
    exact ho.eqAt I rx z t (by show X.A.units + 1 < cLine; omega)
  · have : ∀ {xs : List Str} {us : List Value}, Vals (xs.map V.str) us → us.any (fun w => match w with | .str z _ => decide (o = some z) | _ => false) = xs.any fun z => decide (o = some z) := fun {xs} => by
      induction xs with
      | nil => intro us h; cases h; rfl
      | cons z xs ih =>
        intro us h
        cases h with
        | cons h1 h2 =>
          obtain ⟨t, rfl⟩ := h1
          rw [List.any_cons, List.any_cons, ih h2]
    rw [show its.toArray.any (fun w => match w with | .str z _ => decide (o = some z) | _ => false) = its.any (fun w => match w with | .str z _ => decide (o = some z) | _ => false) by simp, this r]
    exact q
end Ly

set_option Elab.async false
set_option linter.all false
set_option maxRecDepth 100000
/-! dicts whose keys are tuples of tuples; `<` of data; sorted of such a dict -/
namespace Ly
open PySem PySem.Spec PyProof.Rows L2
/-! ### keys as data -/
mutual
def kD : NestedKey → PyData
  | .none => .none
  | .num i => .int i
  | .text x => .str x
  | .tup ks => .tuple (kDs ks)
def kDs : List NestedKey → List PyData
  | [] => []
  | k :: ks => kD k :: kDs ks
end
section
variable {X : Cx} {pins : List (Addr × Obj)} {σ : L2.St} {H : Hp} {s : Shared}
mutual
theorem nest_is (I : Inv X pins σ H s) : ∀ (k : NestedKey) {v : V} {u : Value}, Im X.K H v (kD k) → RelV v u → NestedIs s.heap k u
  | .none, _, _, h, r => by
    unfold kD at h
    cases h; cases r; exact .none
  | .num i, _, _, h, r => by
    unfold kD at h
    cases h; obtain ⟨t, rfl⟩ := r; exact .int _ _
  | .text x, _, _, h, r => by
    unfold kD at h
    cases h; obtain ⟨t, rfl⟩ := r; exact .text _ _
  | .tup ks, _, _, h, r => by
    unfold kD at h
    cases h with
    | tup e a =>
      cases r
      obtain ⟨its, rv, ⟨o, ho, hc, n, hd⟩, _⟩ := I.tuple e.sq
      exact .tup ho hc hd (nest_all I ks a rv)
theorem nest_all (I : Inv X pins σ H s) : ∀ (ks : List NestedKey) {vs : List V} {us : List Value}, ImAll X.K H vs (kDs ks) → Vals vs us → NestedAll s.heap ks us
  | [], _, _, h, r => by
    unfold kDs at h
    cases h; cases r; exact .nil
  | k :: ks, _, _, h, r => by
    unfold kDs at h
    cases h with
    | cons a b =>
      cases r with
      | cons ra rb => exact .cons (nest_is I k a ra) (nest_all I ks b rb)
end
end
/-- what the dict at a holds: keys, their tuples' places, the values' places -/
abbrev NK := NestedKey × Addr × Addr
def rawN (x : NK) : NestedKey × Addr × Value := (x.1, x.2.1, .ref x.2.2)
def dN (P : Program) (w : World) (a : Addr) (xs : List NK) : HO := .ext fun h => xs.length ≤ sizeLine ∧ (a == sysModules) = false ∧
  ∃ o es ep, h.get? a = some o ∧ o.ExactDict ∧ o.data = .dict es ep ∧ es.toList = (xs.map rawN).map (entryOfKey (nestedKind P w)) ∧ (xs.map (·.1)).Nodup
/-- the keys stand -/
def KeysIm (K : PySem.W.Frag) (H : Hp) (xs : List NK) : Prop := ∀ x ∈ xs, Im K H (.ref x.2.1) (kD x.1) ∧ x.1.depth ≤ 8
theorem KeysIm.mono {K : PySem.W.Frag} {H H' : Hp} {xs : List NK} (h : KeysIm K H xs) (t : TK H H') : KeysIm K H' xs := fun x hx => ⟨Im.mono t _ (h x hx).1, (h x hx).2⟩
def valN (xs : List NK) (k : NestedKey) : Option Addr := (xs.find? fun x => decide (x.1 = k)).map (·.2.2)
def putN (xs : List NK) (k : NestedKey) (b v : Addr) : List NK := if (valN xs k).isSome then xs.map (fun x => if x.1 = k then (x.1, x.2.1, v) else x) else xs ++ [(k, b, v)]
theorem atKey_raw (k : NestedKey) : ∀ xs : List NK, (atKey (xs.map rawN) k).map (·.2) = (valN xs k).map Value.ref
  | [] => rfl
  | x :: xs => by
    have ih := atKey_raw k xs
    unfold atKey valN at *
    rw [List.map_cons, List.find?_cons, List.find?_cons]
    by_cases h : x.1 = k
    · have h2 : (rawN x).1 = k := h
      rw [decide_eq_true h, decide_eq_true h2]; rfl
    · have h2 : ¬ (rawN x).1 = k := h
      rw [decide_eq_false h, decide_eq_false h2]; exact ih
theorem isSome_raw (xs : List NK) (k : NestedKey) : (atKey (xs.map rawN) k).isSome = (valN xs k).isSome := by
  have := atKey_raw k xs
  cases h1 : atKey (xs.map rawN) k <;> cases h2 : valN xs k <;> rw [h1, h2] at this <;> simp at this ⊢
theorem put_raw (xs : List NK) (k : NestedKey) (b v : Addr) : (putN xs k b v).map rawN = storedH (xs.map rawN) k b (.ref v) := by
  unfold putN storedH
  rw [isSome_raw]
  by_cases h : (valN xs k).isSome = true
  · rw [if_pos h, if_pos h, List.map_map, List.map_map]
    refine List.map_congr_left fun x _ => ?_
    show rawN (if x.1 = k then (x.1, x.2.1, v) else x) = putAt k (.ref v) (rawN x)
    unfold putAt
    by_cases e : x.1 = k
    · rw [if_pos e, if_pos (show (rawN x).1 = k from e)]; rfl
    · rw [if_neg e, if_neg (show ¬ (rawN x).1 = k from e)]
  · rw [if_neg h, if_neg h, List.map_append]; rfl
theorem putN_length (xs : List NK) (k : NestedKey) (b v : Addr) : (putN xs k b v).length ≤ xs.length + 1 := by
  unfold putN
  split
  · rw [List.length_map]; omega
  · rw [List.length_append]; exact Nat.le_refl _
theorem putN_keys {K : PySem.W.Frag} {H : Hp} {xs : List NK} {k : NestedKey} {b v : Addr} (h : KeysIm K H xs) (hb : Im K H (.ref b) (kD k)) (d : k.depth ≤ 8) : KeysIm K H (putN xs k b v) := by
  intro x hx
  unfold putN at hx
  split at hx
  · obtain ⟨y, hy, rfl⟩ := List.mem_map.mp hx
    split
    · exact h y hy
    · exact h y hy
  · rcases List.mem_append.mp hx with hx | hx
    · exact h x hx
    · rw [List.mem_singleton.mp hx]; exact ⟨hb, d⟩
section
variable {X : Cx} {pins : List (Addr × Obj)} {σ : L2.St} {H : Hp} {s : Shared} {a : Addr} {xs : List NK} {A : Around} {E : Value → Shared → Prop}
theorem dN_of (I : Inv X pins σ H s) (e : H a = some (dN X.prog X.w a xs)) (ks : KeysIm X.K H xs) : xs.length ≤ sizeLine ∧ (a == sysModules) = false ∧ s.heap.DictOfH (nestedKind X.prog X.w) a (xs.map rawN) := by
  obtain ⟨⟨z, hd, o, es, ep, h1, h2, h3, h4, h5⟩, _, _⟩ := (show ObjOk X.prog X.w H s.heap a (dN X.prog X.w a xs) from I.hok a _ e)
  refine ⟨z, hd, o, es, ep, h1, h2, h3, h4, fun y hy => ?_, by rw [List.map_map]; exact h5⟩
  obtain ⟨x, hx, rfl⟩ := List.mem_map.mp hy
  obtain ⟨k1, k2⟩ := ks x hx
  exact ⟨nest_is I x.1 k1 rfl, k2⟩
theorem dN_ok {P : Program} {w : World} {H' : Hp} {h' : Heap} {ys : List NK} (z : ys.length ≤ sizeLine) (hd : (a == sysModules) = false) (d : h'.DictOfH (nestedKind P w) a (ys.map rawN)) : ObjOk P w H' h' a (dN P w a ys) := by
  obtain ⟨o, es, ep, h1, h2, h3, h4, h5, h6⟩ := d
  rw [List.map_map] at h6
  refine ⟨⟨z, hd, o, es, ep, h1, h2, h3, h4, h6⟩, ⟨o, h1⟩, fun g1 g2 q k => ?_⟩
  obtain ⟨z, hd, o, es, ep, h1, h2, h3, h4, h6⟩ := q
  exact ⟨z, hd, o, es, ep, k o h1, h2, h3, h4, h6⟩
end
/-! ### the rules -/
/-- {} for such keys -/
def tDNewN (P : Program) (w : World) : TE := fun _ H Q => ∀ p, H p = none → Q (.ref p) (upd H p (dN P w p []))
def rGetN (P : Program) (w : World) (K : PySem.W.Frag) (H : Hp) (a : Addr) (y : V) (xs : List NK) (k : NestedKey) (b : Addr) : Prop := H a = some (dN P w a xs) ∧ KeysIm K H xs ∧ y = .ref b ∧ Im K H (.ref b) (kD k) ∧ k.depth ≤ 8
/-- d[y] -/
def tNGet (X : Cx) (td ty : TE) : TE := fun σ H Q => td σ H fun x H1 => ty σ H1 fun y H2 => ∃ a xs k b v, x = .ref a ∧ rGetN X.prog X.w X.K H2 a y xs k b ∧ valN xs k = some v ∧ Q (.ref v) H2
/-- d.get(y, z) -/
def tNGet2 (X : Cx) (td ty tx : TE) : TE := fun σ H Q => td σ H fun x H1 => ∃ a xs, x = .ref a ∧ H1 a = some (dN X.prog X.w a xs) ∧ KeysIm X.K H1 xs ∧ ty σ H1 fun y H2 => tx σ H2 fun z H3 => ∃ k b, rGetN X.prog X.w X.K H3 a y xs k b ∧ Q (((valN xs k).map V.ref).getD z) H3
/-- d[y] = v -/
def sNPut (X : Cx) (td ty tv : TE) : TS := fun D σ H => tv σ H fun v H1 => td σ H1 fun x H2 => ty σ H2 fun y H3 => ∃ a xs k b c, x = .ref a ∧ v = .ref c ∧ rGetN X.prog X.w X.K H3 a y xs k b ∧ xs.length < sizeLine ∧ D.nx σ (upd H3 a (dN X.prog X.w a (putN xs k b c)))
section
variable {X : Cx} {o i e f value : Expr} {pos pos' tpos apos cpos : Pos} {td ty tv tx : TE}
theorem pe_dnewN : PE X (.Dict [] [] pos) (tDNewN X.prog X.w) := ⟨fun pins s σ H Q I h =>
  wpAny_Dict_empty ⟨.ref s.heap.objs.size, _, I.laid (a := s.heap.objs.size) (o := dN X.prog X.w s.heap.objs.size []) (t' := s.toks) (fun _ _ q => Heap.get?_push_of_some _ q) (Nat.le_refl _)
    (dN_ok (Nat.zero_le _) (beq_eq_false_iff_ne.mpr (Ne.symm (Nat.ne_of_lt I.big))) (Heap.DictOfH.new s.heap)), rfl, h _ (I.hok.fresh (Nat.le_refl _))⟩⟩
theorem pe_nget (hu : X.A.units + 10 < cLine) (ho : PE X o td) (hi : PE X i ty) (hs : NoSl i) : PE X (.Subscript o i pos) (tNGet X td ty) := by
  refine ⟨fun pins s σ H Q I h => ?_⟩
  refine subD_of PySem.F.slot_dict_getitem.lookup hs (thn (ho.run pins s σ H _ I h) fun u s1 ⟨x, H1, I1, rx, q1⟩ => thn (hi.run pins s1 σ H1 _ I1 q1) fun iv s2 ⟨y, H2, I2, ry, a, xs, k, b, v, ex, g, hv, q2⟩ => ?_)
  subst ex
  obtain rfl : u = Value.ref a := rx
  obtain ⟨e, ks, rfl, ib, dk⟩ := g
  obtain rfl : iv = Value.ref b := ry
  obtain ⟨z, hd, dd⟩ := dN_of I2 e ks
  refine ⟨dd.typeIs, ?_⟩
  have hw := atKey_raw k xs
  rw [hv] at hw
  obtain ⟨p, hp, hp2⟩ := Option.map_eq_some_iff.mp hw
  refine wpAny_getItem_heap (k := k) (by show X.A.in1.units + 8 < cLine; show X.A.units + 1 + 8 < cLine; omega) (show (nestedKind X.prog X.w).is s2.heap k b from ⟨nest_is I2 k ib rfl, dk⟩) dd hp ?_
  rw [hp2]
  exact ⟨.ref v, H2, I2.tok _, rfl, q2⟩
theorem pe_nget2 (hu : X.A.units + 10 < cLine) (ho : PE X o td) (he : PE X e ty) (hf : PE X f tx) (m : M2 X o "get" apos e f cpos) : PE X (.Call (.Attribute o "get" apos) [e, f] [] cpos) (tNGet2 X td ty tx) := by
  refine ⟨fun pins s σ H Q I h => ?_⟩
  refine wpAny_Call_method m.base m.few m.line PySem.F.plainAttrs_dict PySem.F.slot_dict_get PySem.F.type_dict_get (thn (ho.run pins s σ H _ I h) fun u s1 ⟨x, H1, I1, rx, a, xs, ex, e1, k1, q1⟩ => ?_)
  subst ex
  obtain rfl : u = Value.ref a := rx
  obtain ⟨z, hd, dd1⟩ := dN_of I1 e1 k1
  refine ⟨dd1.typeIs, fun b q => ?_, ?_⟩
  · cases q
    obtain ⟨ob, _, _, h1, h2, _⟩ := dd1
    exact ⟨ob, h1, h2.2.1⟩
  · rw [m.trees]
    refine Calls.callWith_builtin rfl (Calls.evalArgs_plain (Calls.spliced_cons (thn (he.run pins s1 σ H1 _ I1 q1) fun iv s2 ⟨y, H2, I2, ry, q2⟩ =>
      Calls.spliced_cons (thn (hf.run pins s2 σ H2 _ I2 q2) fun fv s3 ⟨z, H3, I3, rz, k, b, g, q3⟩ => Calls.spliced_nil ?_))))
    obtain ⟨e3, ks, rfl, ib, dk⟩ := g
    obtain rfl : iv = Value.ref b := ry
    obtain ⟨_, hd, dd⟩ := dN_of I3 e3 ks
    refine call_meetsIn PySem.F.slot_dict_get dd.typeIs PySem.F.entry_dict_get (PySem.F.args_dict_get_3 _ _ _) (meetsH_dict_get_default (nestedKind X.prog X.w) a b hd fv) ⟨by show X.A.units + 1 + 8 < cLine; omega, k, _, ⟨nest_is I3 k ib rfl, dk⟩, dd, _, H3, I3.tok _, ?_, q3⟩
    rw [atKey_raw]
    cases valN xs k with
    | none => exact rz
    | some v => exact rfl
theorem ps_nput (hu : X.A.units + 10 < cLine) (ho : PE X o td) (hi : PE X i ty) (hv : PE X value tv) (hs : swapsWith value (some (.Subscript o i pos')) pos.line X.env = pure false) :
    PS X (.Assign [.Subscript o i pos'] value pos) (sNPut X td ty tv) := by
  refine ⟨fun pins s σ H D I h => ?_⟩
  refine wpAny_Assign_Subscript (thn (hv.run pins s σ H _ I h) fun r s1 ⟨v, H1, I1, rv, q1⟩ => thn (ho.run pins s1 σ H1 _ I1 q1) fun u s2 ⟨x, H2, I2, rx, q2⟩ => thn (hi.run pins s2 σ H2 _ I2 q2) fun iv s3 ⟨y, H3, I3, ry, a, xs, k, b, c, ex, ev, g, hl, q3⟩ => ?_) hs
  subst ex ev
  obtain rfl : u = Value.ref a := rx
  obtain rfl : r = Value.ref c := rv
  obtain ⟨e, ks, rfl, ib, dk⟩ := g
  obtain rfl : iv = Value.ref b := ry
  obtain ⟨z, hd, dd⟩ := dN_of I3 e ks
  refine wpAny_setItem_heap (hsz := by rw [List.length_map]; exact z) (k := k) (by show X.A.units + 1 + 8 < cLine; omega) (show (nestedKind X.prog X.w).is s3.heap k b from ⟨nest_is I3 k ib rfl, dk⟩) dd fun h' dd' hs' => ⟨σ, _, ?_, q3⟩
  rw [← put_raw] at dd'
  have he : ∃ q, h'.get? a = some q := let ⟨q, _, _, hq, _⟩ := dd'; ⟨q, hq⟩
  exact d_write I3 (by rw [e]; exact True.intro) hs' he (dN_ok (by have := putN_length xs k b c; omega) hd dd')
end
/-! ### < of data -/
def rLtD (K : PySem.W.Frag) : R2 := fun x y H Q => ∃ d e, Dp K H x d ∧ Dp K H y e ∧ PySem.W.alike d e = true ∧ d ≠ .none ∧ d.depth ≤ 64 ∧ Q (.bl (PySem.W.dataLt d e)) H
theorem op_ltD {X : Cx} (K : PySem.W.Frag) (hu : X.A.units + 64 < cLine) (eK : X.K = K := by rfl) : OpR X (compareOp .Lt) (rLtD K) := by
  subst eK
  intro pins s σ H x y v u Q I rx ry h
  obtain ⟨d, e, hd, he, al, nn, dp, q⟩ := h
  obtain ⟨as, ra⟩ := Dp.reads I d x v hd rx
  obtain ⟨bs, rb⟩ := Dp.reads I e y u he ry
  exact PySem.W.lt_data ra rb al nn (by omega) ⟨.bl _, H, I, rfl, q⟩
/-! ### sorted of such a dict -/
section
variable {X : Cx} {pins : List (Addr × Obj)} {σ : L2.St} {H : Hp} {s : Shared}
mutual
theorem nest_reads (I : Inv X pins σ H s) : ∀ (k : NestedKey) {v : V} {u : Value}, Im X.K H v (kD k) → RelV v u → Reads s.heap u (kD k) []
  | .none, _, _, h, r => by
    unfold kD at h ⊢
    cases h; cases r; exact .none
  | .num i, _, _, h, r => by
    unfold kD at h ⊢
    cases h; obtain ⟨t, rfl⟩ := r; exact .int _ _
  | .text x, _, _, h, r => by
    unfold kD at h ⊢
    cases h; obtain ⟨t, rfl⟩ := r; exact .str _ _
  | .tup ks, _, _, h, r => by
    unfold kD at h ⊢
    cases h with
    | tup e a =>
      cases r
      obtain ⟨its, rv, ⟨o, ho, hc, n, hd⟩, _⟩ := I.tuple e.sq
      exact .tuple ho hc hd (nest_readsAll I ks a rv)
theorem nest_readsAll (I : Inv X pins σ H s) : ∀ (ks : List NestedKey) {vs : List V} {us : List Value}, ImAll X.K H vs (kDs ks) → Vals vs us → ReadsAll s.heap us (kDs ks) []
  | [], _, _, h, r => by
    unfold kDs at h ⊢
    cases h; cases r; exact .nil
  | k :: ks, _, _, h, r => by
    unfold kDs at h ⊢
    cases h with
    | cons a b =>
      cases r with
      | cons ra rb => exact .cons (as := []) (bs := []) (nest_reads I k a ra) (nest_readsAll I ks b rb)
end
end
theorem each_of {α β : Type} {R : α → β → Prop} : ∀ {as : List α} {bs : List β}, as.length = bs.length → (∀ (i : Nat) (a : α) (b : β), as[i]? = some a → bs[i]? = some b → R a b) → PySem.W.EachIs R as bs
  | [], [], _, _ => .nil
  | a :: as, b :: bs, l, h => .cons (h 0 a b rfl rfl) (each_of (by simpa using l) fun i x y e1 e2 => h (i + 1) x y (by simpa using e1) (by simpa using e2))
  | [], _ :: _, l, _ => by simp at l
  | _ :: _, [], l, _ => by simp at l
theorem each_vals : ∀ {us : List Value} {bs : List NK}, PySem.W.EachIs (fun (v : Value) (b : NK) => v = .ref b.2.1) us bs → Vals (bs.map fun x => V.ref x.2.1) us
  | _, _, .nil => .nil
  | _, _, .cons h r => .cons (by subst h; exact rfl) (each_vals r)
def rSortN (X : Cx) : List V → Hp → VK → Prop := fun vs H Q => ∃ a xs, vs = [.ref a] ∧ H a = some (dN X.prog X.w a xs) ∧ KeysIm X.K H xs ∧ PySem.W.AllAlike (xs.map fun x => kD x.1) ∧ PySem.W.Sortable (xs.map fun x => kD x.1) ∧ (∀ x ∈ xs, (kD x.1).depth ≤ 8) ∧
  ∀ p, H p = none → Q (.ref p) (upd H p (.lst ((xs.mergeSort (PySem.W.dataLe false fun x => kD x.1)).map fun x => V.ref x.2.1)))
theorem call_sortedN {X : Cx} (hcalm : X.calm = true) (hu : X.A.units + 20 < cLine) : CallR X (.builtin "sorted") (rSortN X) := by
  intro pins s σ H vs us Q I r q
  obtain ⟨a, xs, ex, e, ks, al, so, dp, q⟩ := q
  subst ex
  obtain ⟨u, eu, rx⟩ := vals1 r
  subst eu
  cases rx
  obtain ⟨z, lo, dd⟩ := dN_of I e ks
  obtain ⟨es, ep, hr, hsz, he⟩ := dd.raw
  rw [List.length_map] at hsz
  refine Calls.call_function_entry PyProof.Rows.kind_sorted PyProof.Rows.plain_sorted PyProof.Rows.entry_sorted (PyProof.Rows.args_sorted1 _) ?_
  unfold Builtin.«sorted»
  refine wpAny_bind (m := checkCount "sorted" 1 1 _) (wpAny_pure ?_)
  refine wpAny_bind (PySem.W.kdu_collect (A := X.A.in1) (PySem.KdlSrc.rawDict (es := es) (ep := ep) lo) (I.ok.hd hcalm) hr (by rw [hsz]; exact z) fun h' tk acc hk hacc => ?_)
  have hal : acc.toList.length = xs.length := by rw [Array.length_toList, hacc.1, hsz]
  have I1 : Inv X pins σ H { s with heap := h', toks := tk } := I.kept hk
  have E1 : PySem.W.EachIs (fun (v : Value) (b : NK) => v = .ref b.2.1 ∧ b ∈ xs) acc.toList xs := each_of hal fun i v b h1 h2 => by
    rw [Array.getElem?_toList] at h1
    obtain ⟨hi, e1⟩ := hacc.2 i v h1
    obtain ⟨y, hy, h3, _⟩ := he i hi
    rw [List.getElem?_map, h2] at hy
    have : rawN b = y := Option.some.inj hy
    subst this
    exact ⟨e1.trans h3, List.mem_of_getElem? h2⟩
  refine wpAny_bind (wpAny_newList ?_ (by rw [hal]; exact z))
  have hoL : (h'.push (seqObj "list" acc.toList.toArray 0)).get? h'.objs.size = some (seqObj "list" acc.toList.toArray 0) := Heap.get?_push_size _ rfl
  show wpAny _ _ _ _ _ { s with heap := h'.push (seqObj "list" acc.toList.toArray 0), toks := tk }
  have E2 : PySem.W.EachIs (fun (v : Value) (b : NK) => ∃ as, Reads (h'.push (seqObj "list" acc.toList.toArray 0)) v (kD b.1) as ∧ h'.objs.size ∉ as) acc.toList xs := E1.mono fun v b h => by
    obtain ⟨rfl, hb⟩ := h
    exact ⟨[], PyProof.Rows.Reads.keeps (fun c o k => Heap.get?_push_of_some _ k) (nest_reads I1 b.1 (ks b hb).1 rfl), by simp⟩
  refine wpAny_bind (wpAny_holding (PySem.W.list_sort_data (R := fun (v : Value) (b : NK) => v = .ref b.2.1) (enc := fun b => kD b.1) hoL (E1.mono fun _ _ h => h.1) E2 al so z (fun b hb => by have := dp b hb; show X.A.units + 1 + 1 + _ < _; omega) fun out ho eo => ?_))
  obtain ⟨e', he'⟩ := PyProof.Rows.sortedHeap_at (vs := acc.toList) (out := out.toArray) hoL
  have hlen : ((xs.mergeSort (PySem.W.dataLe false fun x => kD x.1)).map fun x => V.ref x.2.1).length ≤ sizeLine := by
    rw [List.length_map, List.length_mergeSort]; exact z
  refine wpAny_pure ⟨_, rfl, .ref h'.objs.size, upd H h'.objs.size (.lst ((xs.mergeSort (PySem.W.dataLe false fun x => kD x.1)).map fun x => V.ref x.2.1)), I1.laid (t' := tk) (fun b u e => ?_) (Nat.le_refl _)
    (show ObjOk X.prog X.w _ _ _ (.lst _) from ⟨hlen, out, e', each_vals eo, he'⟩), rfl, q _ (I1.hok.fresh (Nat.le_refl _))⟩
  have hb : b < h'.objs.size := Heap.lt_size e
  rw [PyProof.Rows.sortedHeap_old (Nat.ne_of_lt hb) (by rw [size_push']; exact Nat.lt_succ_of_lt hb)]
  exact Heap.get?_push_of_some _ e
end Ly

set_option Elab.async false
set_option linter.all false
set_option maxRecDepth 100000
/-! a list == [], a list != [], whatever it holds -/
namespace Ly
open PySem PySem.Spec PyProof.Rows L2
def rEqNil (K : PySem.W.Frag) : R2 := fun x y H Q => ∃ a b xs, x = .ref a ∧ y = .ref b ∧ SqL K H a xs ∧ SqL K H b [] ∧ Q (.bl (decide (xs = []))) H
def rNeNil (K : PySem.W.Frag) : R2 := fun x y H Q => ∃ a b xs, x = .ref a ∧ y = .ref b ∧ SqL K H a xs ∧ SqL K H b [] ∧ Q (.bl (!decide (xs = []))) H
theorem kop_eqNil {X : Cx} (K : PySem.W.Frag) (hu : X.A.units + 64 < cLine) (eK : X.K = K := by rfl) : OpR X (compareOp .Eq) (rEqNil K) := by
  subst eK
  intro pins s σ H x y v u Q I rx ry h
  obtain ⟨a, b, xs, rfl, rfl, ha, hb, q⟩ := h
  cases rx
  cases ry
  obtain ⟨its, rv, pa, _⟩ := I.list ha
  obtain ⟨its2, rv2, pb, _⟩ := I.list hb
  cases rv2
  have l1 := rv.length
  cases xs with
  | nil =>
    cases rv
    refine SeqAt.RcAt.lists (e := fun _ => true) pa.isList pb.isList rfl (by omega) (fun j h1 h2 => by simp at h1) _ _ _ _ ?_
    exact ⟨.bl true, H, I, rfl, by simpa using q⟩
  | cons x xs =>
    refine SeqAt.RcAt.lists_lengths pa.isList pb.isList ?_ (by omega) _ _ _ _ ⟨.bl false, H, I, rfl, by simpa using q⟩
    rw [List.length_cons] at l1
    rw [bne_iff_ne]
    intro z
    simp at z
    rw [z] at l1
    simp at l1
theorem kop_neNil {X : Cx} (K : PySem.W.Frag) (hu : X.A.units + 64 < cLine) (eK : X.K = K := by rfl) : OpR X (compareOp .NotEq) (rNeNil K) := by
  subst eK
  intro pins s σ H x y v u Q I rx ry h
  obtain ⟨a, b, xs, rfl, rfl, ha, hb, q⟩ := h
  cases rx
  cases ry
  obtain ⟨its, rv, pa, _⟩ := I.list ha
  obtain ⟨its2, rv2, pb, _⟩ := I.list hb
  cases rv2
  have l1 := rv.length
  cases xs with
  | nil =>
    cases rv
    refine SeqAt.RcNeAt.lists (e := fun _ => true) pa.isList pb.isList rfl (by omega) (fun j h1 h2 => by simp at h1) _ _ _ _ ?_
    exact ⟨.bl false, H, I, rfl, by simpa using q⟩
  | cons x xs =>
    refine SeqAt.RcNeAt.lists_lengths pa.isList pb.isList ?_ (by omega) _ _ _ _ ⟨.bl true, H, I, rfl, by simpa using q⟩
    rw [List.length_cons] at l1
    rw [bne_iff_ne]
    intro z
    simp at z
    rw [z] at l1
    simp at l1
def rLeD (K : PySem.W.Frag) : R2 := fun x y H Q => ∃ d e, Dp K H x d ∧ Dp K H y e ∧ PySem.W.alike d e = true ∧ d ≠ .none ∧ d.depth ≤ 64 ∧ Q (.bl (!PySem.W.dataLt e d)) H
theorem op_leD {X : Cx} (K : PySem.W.Frag) (hu : X.A.units + 64 < cLine) (eK : X.K = K := by rfl) : OpR X (compareOp .LtE) (rLeD K) := by
  subst eK
  intro pins s σ H x y v u Q I rx ry h
  obtain ⟨d, e, hd, he, al, nn, dp, q⟩ := h
  obtain ⟨as, ra⟩ := Dp.reads I d x v hd rx
  obtain ⟨bs, rb⟩ := Dp.reads I e y u he ry
  exact PySem.W.le_data ra rb al nn (by omega) ⟨.bl _, H, I, rfl, q⟩
end Ly

set_option Elab.async false
set_option linter.all false
set_option maxRecDepth 100000
/-! zip of three tuples -/
namespace Ly
open PySem PySem.Spec PyProof.Rows L2
/-- the tuples at a, b, c as they stand at each turn, their items in new triples -/
def ItzT3 (K : PySem.W.Frag) (a b c : Addr) : It where
  go := fun i H => ∃ xs ys zs x y z, SqT K H a xs ∧ SqT K H b ys ∧ SqT K H c zs ∧ xs[i]? = some x ∧ ys[i]? = some y ∧ zs[i]? = some z
  yld := fun i H v H' => ∃ T x y z, v = .ref T ∧ H T = none ∧ H' = upd H T (.tup [x, y, z]) ∧ (∀ l, SqT K H a l → l[i]? = some x) ∧ (∀ l, SqT K H b l → l[i]? = some y) ∧ ∀ l, SqT K H c l → l[i]? = some z
  stop := fun i H => ∃ xs ys zs : List V, SqT K H a xs ∧ SqT K H b ys ∧ SqT K H c zs ∧ i ≤ xs.length ∧ i ≤ ys.length ∧ i ≤ zs.length ∧ (i = xs.length ∨ i = ys.length ∨ i = zs.length)
theorem in6 {z a b c d e f : Addr} (h : z ∈ [a, b, c, d, e, f]) : z = a ∨ z = b ∨ z = c ∨ z = d ∨ z = e ∨ z = f := by simpa using h
theorem tup_ne {s : Shared} {a i : Addr} {its : Array Value} {n : Nat} (p : IsTup s.heap a its) (l : s.heap.IsTupleIter i a n) : a ≠ i := fun q => by
  obtain ⟨o, ho, c, _⟩ := l
  obtain ⟨o', ho', c', _⟩ := p
  rw [← q, ho'] at ho; cases ho
  rw [c'] at c; simp at c
theorem turnT3 {P : Program} {w : World} {K : PySem.W.Frag} {elts : List Expr} {kk : Nat} {tpos : Pos} {a b c z TI TO i1 i2 i3 : Addr} (S : ZipSep3 z TI TO i1 i2 i3 [i1, a] [i2, b] [i3, c]) :
    Turn P w K (.Tuple elts kk tpos) (ItzT3 K a b c) [z, TI, TO, i1, i2, i3] z (fun i h => IsZip h z TI TO .none ∧ IsTupOf3 h TI (.ref i1) (.ref i2) (.ref i3) ∧ (∃ x y w, IsTupOf3 h TO x y w) ∧ h.IsTupleIter i1 a i ∧ h.IsTupleIter i2 b i ∧ h.IsTupleIter i3 c i) := by
  have z1 := S.zi1
  have z2 := S.zi2
  have z3 := S.zi3
  have keep5 : ∀ {h h' : Heap} {q : Addr} {o : Obj}, (∀ c o, c ≠ z → c ≠ TO → c ≠ i1 → c ≠ i2 → c ≠ i3 → h.get? c = some o → h'.get? c = some o) → q ∉ [z, TI, TO, i1, i2, i3] → h.get? q = some o → h'.get? q = some o :=
    fun k hc q => k _ _ (fun e => hc (by simp [e])) (fun e => hc (by simp [e])) (fun e => hc (by simp [e])) (fun e => hc (by simp [e])) (fun e => hc (by simp [e])) q
  have size6 : ∀ {h : Heap} {i : Nat}, IsZip h z TI TO .none → IsTupOf3 h TI (.ref i1) (.ref i2) (.ref i3) → (∃ x y w, IsTupOf3 h TO x y w) → h.IsTupleIter i1 a i → h.IsTupleIter i2 b i → h.IsTupleIter i3 c i → ∀ q ∈ [z, TI, TO, i1, i2, i3], q < h.objs.size := by
    intro h i hz hT ⟨x, y, w, hO⟩ ⟨o1, e1, _⟩ ⟨o2, e2, _⟩ ⟨o3, e3, _⟩ c hc
    rcases in6 hc with q | q | q | q | q | q <;> subst q
    · exact Heap.lt_size hz
    · exact Heap.lt_size hT
    · exact Heap.lt_size hO
    · exact Heap.lt_size e1
    · exact Heap.lt_size e2
    · exact Heap.lt_size e3
  refine { mem := List.mem_cons_self .., obj := ?_, keep := ?_, item := ?_, done := ?_, self := fun A i s Q E st h => wpAny_pyIter_zip st.1 h }
  · rintro i h ⟨hz, hT, ⟨x, y, w, hO⟩, ⟨o1, e1, _, d1⟩, ⟨o2, e2, _, d2⟩, ⟨o3, e3, _, d3⟩⟩ c hc
    rcases in6 hc with q | q | q | q | q | q <;> subst q
    · exact ⟨_, hz, fun v q => nomatch q⟩
    · exact ⟨_, hT, fun v q => nomatch q⟩
    · exact ⟨_, hO, fun v q => nomatch q⟩
    · exact ⟨o1, e1, fun v q => by rw [d1] at q; cases q⟩
    · exact ⟨o2, e2, fun v q => by rw [d2] at q; cases q⟩
    · exact ⟨o3, e3, fun v q => by rw [d3] at q; cases q⟩
  · rintro i h h' ⟨hz, hT, ⟨x, y, w, hO⟩, l1, l2, l3⟩ k
    exact ⟨k z (by simp) _ hz, k TI (by simp) _ hT, ⟨x, y, w, k TO (by simp) _ hO⟩, l1.at fun o q => k i1 (by simp) o q, l2.at fun o q => k i2 (by simp) o q, l3.at fun o q => k i3 (by simp) o q⟩
  · intro X hP hw hK hc i pins s σ H E I hf st hg
    subst hP hw hK
    obtain ⟨hz, hT, hO, l1, l2, l3⟩ := st
    have lts := size6 hz hT hO l1 l2 l3
    obtain ⟨x0, y0, w0, hO⟩ := hO
    obtain ⟨xs, ys, zs, x, y, zz0, qx, qy, qz, hx, hy, hzz⟩ := hg
    obtain ⟨its, rv, p, _⟩ := I.tuple qx
    obtain ⟨its2, rv2, p2, _⟩ := I.tuple qy
    obtain ⟨its3, rv3, p3, _⟩ := I.tuple qz
    obtain ⟨u, hu, ru⟩ := rv.get hx
    obtain ⟨u2, hu2, ru2⟩ := rv2.get hy
    obtain ⟨u3, hu3, ru3⟩ := rv3.get hzz
    have hd : X.A.in1.handled = none := I.ok.hd hc
    have D1 := Draws.tuple (prog := X.prog) (w := X.w) hd i1 a (tup_ne p l1) its.toArray
    have D2 := Draws.tuple (prog := X.prog) (w := X.w) hd i2 b (tup_ne p2 l2) its2.toArray
    have D3 := Draws.tuple (prog := X.prog) (w := X.w) hd i3 c (tup_ne p3 l3) its3.toArray
    have s1 : i < its.toArray.size := by
      have := (List.getElem?_eq_some_iff.mp hu).1
      simpa using this
    have s2 : i < its2.toArray.size := by
      have := (List.getElem?_eq_some_iff.mp hu2).1
      simpa using this
    have s3 : i < its3.toArray.size := by
      have := (List.getElem?_eq_some_iff.mp hu3).1
      simpa using this
    refine wpAny_pyNext_zipD3_item S D1 D2 D3 hz hT hO ⟨l1, p⟩ ⟨l2, p2⟩ ⟨l3, p3⟩ s1 s2 s3 fun v1 v2 v3 h' tk e1 e2 e3 z' O' st1 st2 st3 hN hsz hk => ?_
    have ev1 : u = v1 := by
      have : its[i]? = some v1 := by simpa using e1
      rw [hu] at this; exact Option.some.inj this
    have ev2 : u2 = v2 := by
      have : its2[i]? = some v2 := by simpa using e2
      rw [hu2] at this; exact Option.some.inj this
    have ev3 : u3 = v3 := by
      have : its3[i]? = some v3 := by simpa using e3
      rw [hu3] at this; exact Option.some.inj this
    subst ev1 ev2 ev3
    refine ⟨_, rfl, wpAny_letOwnedTupleGo_zip (s := { s with heap := h', toks := tk }) z' fun h2 zz sb => ?_⟩
    have zlt : z < s.heap.objs.size := lts z (by simp)
    have trip : h2.get? s.heap.objs.size = some { cls := .type "tuple", data := .seq #[u, u2, u3] } := (sb.2 _ (Nat.ne_of_gt zlt)).trans hN
    have new : ObjOk X.prog X.w (upd H s.heap.objs.size (.tup [x, y, zz0])) h2 s.heap.objs.size (.tup [x, y, zz0]) := ⟨by show 3 ≤ sizeLine; decide, [u, u2, u3], .cons ru (.cons ru2 (.cons ru3 .nil)), ⟨_, trip, rfl, _, rfl⟩⟩
    have I2 : Inv X pins σ (upd H s.heap.objs.size (.tup [x, y, zz0])) { s with heap := h2, toks := tk } :=
      I.turnedNew (t' := tk) (ch := [z, TI, TO, i1, i2, i3]) (fun c o hb q => (sb.2 c (fun e => hb (by simp [e]))).trans (keep5 hk hb q)) hf (Nat.le_refl _) new
    refine ⟨.ref s.heap.objs.size, _, I2, rfl, ⟨_, x, y, zz0, rfl, I.hok.fresh (Nat.le_refl _), rfl, fun l hl => by rw [I.tuple_inj hl qx]; exact hx, fun l hl => by rw [I.tuple_inj hl qy]; exact hy, fun l hl => by rw [I.tuple_inj hl qz]; exact hzz⟩, ⟨zz, ?_, ⟨u, u2, u3, ?_⟩, ?_, ?_, ?_⟩, fun c hc => ?_⟩
    · exact (sb.2 _ S.TIz).trans (hk _ _ S.TIz S.TITO S.TIi1 S.TIi2 S.TIi3 hT)
    · exact (sb.2 _ S.TOz).trans O'
    · exact st1.1.at fun o q => (sb.2 _ z1.symm).trans q
    · exact st2.1.at fun o q => (sb.2 _ z2.symm).trans q
    · exact st3.1.at fun o q => (sb.2 _ z3.symm).trans q
    · rw [upd_ne (Nat.ne_of_lt (lts c hc))]
      exact (hf c hc).1
  · intro X hP hw hK hc i pins s σ H E I hf st hg
    subst hP hw hK
    obtain ⟨hz, hT, ⟨x0, y0, w0, hO⟩, l1, l2, l3⟩ := st
    obtain ⟨xs, ys, zs, qx, qy, qz, le1, le2, le3, hend⟩ := hg
    obtain ⟨its, rv, p, _⟩ := I.tuple qx
    obtain ⟨its2, rv2, p2, _⟩ := I.tuple qy
    obtain ⟨its3, rv3, p3, _⟩ := I.tuple qz
    have hd : X.A.in1.handled = none := I.ok.hd hc
    have e1 := rv.length
    have e2 := rv2.length
    have e3 := rv3.length
    refine wpAny_pyNext_zipD3_end S (Draws.tuple (prog := X.prog) (w := X.w) hd i1 a (tup_ne p l1) its.toArray) (Draws.tuple (prog := X.prog) (w := X.w) hd i2 b (tup_ne p2 l2) its2.toArray) (Draws.tuple (prog := X.prog) (w := X.w) hd i3 c (tup_ne p3 l3) its3.toArray) hz hT hO ⟨l1, p⟩ ⟨l2, p2⟩ ⟨l3, p3⟩ (by simp; omega) (by simp; omega) (by simp; omega) (by simp; omega) fun h' tk hk => ?_
    exact ⟨rfl, I.turnedL (t' := tk) (ch := [z, TI, TO, i1, i2, i3]) (fun c o hb q => keep5 hk hb q) hf⟩
def iZipT3 (K : PySem.W.Frag) (ta : TA) : TI := fun σ H R => ta σ H fun vs H1 => ∃ a b c xs ys zs, vs = [.ref a, .ref b, .ref c] ∧ SqT K H1 a xs ∧ SqT K H1 b ys ∧ SqT K H1 c zs ∧ R (ItzT3 K a b c) H1
theorem pi_zipT3 {X : Cx} {e e2 e3 : Expr} {ta : TA} {p pos tpos : Pos} {elts : List Expr} {kk : Nat} (hg : Gl X "zip") (hm : X.mg "zip" = none) (ha : PA X [e, e2, e3] ta)
    (hs : starEach [e, e2, e3] X.env = (false, eval e X.env) :: starEach [e2, e3] X.env := by rfl) (hpl : (backTo pos (starEach [e2, e3] X.env)).any (·.1) = false := by rfl) :
    PI X (.Tuple elts kk tpos) (.Call (.Name "zip" p) [e, e2, e3] [] pos) (iZipT3 X.K ta) := by
  refine ⟨fun pins s σ H R I h => Call_ (ld_blt I hg hm PyProof.Rows.boot_zip (PyProof.Rows.callWith_type1 (thn (ha.run pos pins s σ H _ I h) ?_) hs hpl))⟩
  rintro us s1 ⟨vs, H1, I1, r1, a, b, c, xs, ys, zs, rfl, qx, qy, qz, q⟩
  cases r1 with | cons r rr => cases rr with | cons r' rr => cases rr with | cons r'' rr =>
  cases rr
  cases r
  cases r'
  cases r''
  obtain ⟨its, rv, p1, _⟩ := I1.tuple qx
  obtain ⟨its2, rv2, p2, _⟩ := I1.tuple qy
  obtain ⟨its3, rv3, p3, _⟩ := I1.tuple qz
  obtain ⟨o1, ho1, _⟩ := id p1
  obtain ⟨o2, ho2, _⟩ := id p2
  obtain ⟨o3, ho3, _⟩ := id p3
  have S := zip_sep3 (N := s1.heap.objs.size) (fp1 := [a]) (fp2 := [b]) (fp3 := [c]) (fun x hc => by simp at hc; rw [hc]; exact Heap.lt_size ho1) (fun x hc => by simp at hc; rw [hc]; exact Heap.lt_size ho2) (fun x hc => by simp at hc; rw [hc]; exact Heap.lt_size ho3)
  refine zip_begins3 (begins_tuple a its.toArray) (begins_tuple b its2.toArray) (begins_tuple c its3.toArray) p1 p2 p3 fun h' hz hT hO g1 g2 g3 hsz hk => wpAny_pyIter_zip hz ?_
  have I2 : Inv X pins σ H1 { s1 with heap := h' } := I1.kept (t' := s1.toks) hk
  refine ⟨_, [s1.heap.objs.size + 5, s1.heap.objs.size + 3, s1.heap.objs.size + 4, s1.heap.objs.size, s1.heap.objs.size + 1, s1.heap.objs.size + 2], _, _, H1, rfl, I2, turnT3 S, ⟨hz, hT, ⟨_, _, _, hO⟩, ⟨_, g1, rfl, rfl⟩, ⟨_, g2, rfl, rfl⟩, ⟨_, g3, rfl, rfl⟩⟩, fun c hc => ?_, q⟩
  have le : s1.heap.objs.size ≤ c := by
    rcases in6 hc with z | z | z | z | z | z <;> rw [z] <;> first | exact Nat.le_refl _ | exact Nat.le_add_right _ _
  exact I1.fpOk le (I1.hok.fresh le)
theorem kpi_zipT3 {X : Cx} (K : PySem.W.Frag) {e1 e2 e3 : Expr} {ta : TA} {p pos tpos : Pos} {elts : List Expr} {kk : Nat} (hg : Gl X "zip") (hm : X.mg "zip" = none) (ha : PA X [e1, e2, e3] ta)
    (hs : starEach [e1, e2, e3] X.env = (false, eval e1 X.env) :: starEach [e2, e3] X.env := by rfl) (hpl : (backTo pos (starEach [e2, e3] X.env)).any (·.1) = false := by rfl) (e : X.K = K := by rfl) :
    PI X (.Tuple elts kk tpos) (.Call (.Name "zip" p) [e1, e2, e3] [] pos) (iZipT3 K ta) := by subst e; exact pi_zipT3 hg hm ha hs hpl
def YTrip (xs ys zs : Nat → Option V) : Nat → Hp → V → Hp → Prop := fun i H v H' => ∃ T x y z, v = .ref T ∧ H T = none ∧ H' = upd H T (.tup [x, y, z]) ∧ xs i = some x ∧ ys i = some y ∧ zs i = some z
theorem walk_zipT3 {K : PySem.W.Frag} {a b c : Addr} {xs ys zs : List V} (e : xs.length = ys.length) (e2 : xs.length = zs.length) : Walk (ItzT3 K a b c) xs.length (fun H => SqT K H a xs ∧ SqT K H b ys ∧ SqT K H c zs) (YTrip (fun i => xs[i]?) (fun i => ys[i]?) (fun i => zs[i]?)) := by
  refine ⟨fun i _ hi q => ?_, fun _ q => ⟨xs, ys, zs, q.1, q.2.1, q.2.2, Nat.le_refl _, Nat.le_of_eq e, Nat.le_of_eq e2, .inl rfl⟩, fun i H v H' _ q y => ?_⟩
  · have h2 : i < ys.length := by omega
    have h3 : i < zs.length := by omega
    exact ⟨xs, ys, zs, xs[i], ys[i], zs[i], q.1, q.2.1, q.2.2, by simp [hi], by simp [h2], by simp [h3]⟩
  · obtain ⟨T, x, y', z, h1, h2, h3, h4, h5, h6⟩ := y
    exact ⟨T, x, y', z, h1, h2, h3, h4 xs q.1, h5 ys q.2.1, h6 zs q.2.2⟩
/-! ### zip of two tuples, held by a name -/
def zO (z TI TO : Addr) : HO := .ext fun h => IsZip h z TI TO .none
def pO (TI i1 i2 : Addr) : HO := .ext fun h => IsPair h TI (.ref i1) (.ref i2)
def nO (TO : Addr) : HO := .ext fun h => IsPair h TO .none .none
def iO (i a : Addr) : HO := .ext fun h => h.IsTupleIter i a 0
structure ZipV (n : Nat) (H0 H : Hp) (z a b : Addr) : Prop where
  ex : ∃ TI TO i1 i2, ZipApart z TI TO i1 i2 a b ∧ H z = some (zO z TI TO) ∧ H TI = some (pO TI i1 i2) ∧ H TO = some (nO TO) ∧ H i1 = some (iO i1 a) ∧ H i2 = some (iO i2 b) ∧ n ≤ z ∧ n ≤ TI ∧ n ≤ TO ∧ n ≤ i1 ∧ n ≤ i2 ∧ ∀ c ∈ [z, TI, TO, i1, i2], H0 c = none
/-- all but iterators stays -/
def KeepN (H H' : Hp) : Prop := (∀ b o, (∀ φ, o ≠ .ext φ) → H b = some o → H' b = some o) ∧ ∀ b, H b = none → H' b = none
theorem KeepN.trans {H H1 H2 : Hp} (a : KeepN H H1) (b : KeepN H1 H2) : KeepN H H2 := ⟨fun x o n e => b.1 x o n (a.1 x o n e), fun x e => b.2 x (a.2 x e)⟩
theorem keep_drop {H : Hp} {a : Addr} {φ : Heap → Prop} (h : H a = some (.ext φ)) : KeepN H (ItX.dropH H a) := by
  refine ⟨fun b o n e => ?_, fun b e => ?_⟩
  · have : b ≠ a := fun z => by
      rw [z, h] at e
      exact n φ (Option.some.inj e).symm
    rw [ItX.dropH_ne this]; exact e
  · by_cases hb : b = a
    · rw [hb, ItX.dropH_same]
    · rw [ItX.dropH_ne hb]; exact e
def tZipV (K : PySem.W.Frag) (n : Nat) (ta : TA) : TE := fun σ H Q => ta σ H fun vs H1 => ∃ a b xs ys, vs = [.ref a, .ref b] ∧ SqT K H1 a xs ∧ SqT K H1 b ys ∧ ∀ z H2, Same H1 H2 → H1 z = none → ZipV n H1 H2 z a b → Q (.ref z) H2
theorem pe_zipV {X : Cx} (K : PySem.W.Frag) {e e2 : Expr} {ta : TA} {p pos : Pos} (hg : Gl X "zip") (hm : X.mg "zip" = none) (ha : PA X [e, e2] ta)
    (hs : starEach [e, e2] X.env = (false, eval e X.env) :: starEach [e2] X.env := by rfl) (hpl : (backTo pos (starEach [e2] X.env)).any (·.1) = false := by rfl) (eK : X.K = K := by rfl) :
    PE X (.Call (.Name "zip" p) [e, e2] [] pos) (tZipV K X.s_0.heap.objs.size ta) := by
  subst eK
  refine ⟨fun pins s σ H Q I h => Call_ (ld_blt I hg hm PyProof.Rows.boot_zip (PyProof.Rows.callWith_type1 (thn (ha.run pos pins s σ H _ I h) ?_) hs hpl))⟩
  rintro us s1 ⟨vs, H1, I1, r1, a, b, xs, ys, rfl, qx, qy, q⟩
  cases r1 with | cons r rr => cases rr with | cons r' rr =>
  cases rr
  cases r
  cases r'
  obtain ⟨its, rv, p1, _⟩ := I1.tuple qx
  obtain ⟨its2, rv2, p2, _⟩ := I1.tuple qy
  obtain ⟨o1, ho1, _⟩ := id p1
  obtain ⟨o2, ho2, _⟩ := id p2
  refine RZ.call_zipT (show s1.heap.IsTuple a its.toArray from p1) (show s1.heap.IsTuple b its2.toArray from p2) fun h' hz hTI hTO h1 h2 hsz hk => ?_
  have I2 : Inv X pins σ H1 { s1 with heap := h' } := I1.kept (t' := s1.toks) hk
  have D := PySem.W.ktu_apart s1.heap.objs.size a b (Heap.lt_size ho1) (Heap.lt_size ho2)
  generalize hN : s1.heap.objs.size = N at *
  have fr : ∀ j, H1 (N + j) = none := fun j => I1.hok.fresh (by rw [hN]; exact Nat.le_add_right N j)
  have n1 : ∀ (o : HO) (j k : Nat) (G : Hp), j ≠ k → G (N + j) = none → upd G (N + k) o (N + j) = none := fun o j k G hj hg => by
    rw [upd_ne (fun z => hj (Nat.add_left_cancel z))]; exact hg
  have le : ∀ j, s1.heap.objs.size ≤ N + j := fun j => by rw [hN]; exact Nat.le_add_right N j
  have J1 := L2.Inv.take (h' := h') (t' := s1.toks) (o := zO (N + 4) (N + 2) (N + 3)) I2 (fun b ob _ e => e) (I1.fpOk (le 4) (fr 4)) ⟨hz, ⟨_, hz⟩, fun h1 h2 q k => k _ q⟩
  have J2 := L2.Inv.take (h' := h') (t' := s1.toks) (o := pO (N + 2) N (N + 1)) J1 (fun b ob _ e => e) (I1.fpOk (le 2) (n1 _ 2 4 _ (by decide) (fr 2))) ⟨hTI, ⟨_, hTI⟩, fun h1 h2 q k => k _ q⟩
  have J3 := L2.Inv.take (h' := h') (t' := s1.toks) (o := nO (N + 3)) J2 (fun b ob _ e => e) (I1.fpOk (le 3) (n1 _ 3 2 _ (by decide) (n1 _ 3 4 _ (by decide) (fr 3)))) ⟨hTO, ⟨_, hTO⟩, fun h1 h2 q k => k _ q⟩
  obtain ⟨oi1, ei1, _⟩ := id h1
  obtain ⟨oi2, ei2, _⟩ := id h2
  have J4 := L2.Inv.take (h' := h') (t' := s1.toks) (o := iO (N + 0) a) J3 (fun b ob _ e => e) (I1.fpOk (le 0) (n1 _ 0 3 _ (by decide) (n1 _ 0 2 _ (by decide) (n1 _ 0 4 _ (by decide) (fr 0))))) ⟨h1, ⟨_, ei1⟩, fun g1 g2 q k => q.at k⟩
  have J5 := L2.Inv.take (h' := h') (t' := s1.toks) (o := iO (N + 1) b) J4 (fun b ob _ e => e) (I1.fpOk (le 1) (n1 _ 1 0 _ (by decide) (n1 _ 1 3 _ (by decide) (n1 _ 1 2 _ (by decide) (n1 _ 1 4 _ (by decide) (fr 1)))))) ⟨h2, ⟨_, ei2⟩, fun g1 g2 q k => q.at k⟩
  have ad : ∀ j k : Nat, j ≠ k → N + j ≠ N + k := fun j k h z => h (Nat.add_left_cancel z)
  have sz := I1.sz
  rw [hN] at sz
  refine ⟨.ref (N + 4), _, J5, rfl, q (N + 4) _ (fun b o e => ?_) (fr 4) ⟨N + 2, N + 3, N + 0, N + 1, D, ?_, ?_, ?_, ?_, upd_same, Nat.le_trans sz (Nat.le_add_right _ _), Nat.le_trans sz (Nat.le_add_right _ _), Nat.le_trans sz (Nat.le_add_right _ _), Nat.le_trans sz (Nat.le_add_right _ _), Nat.le_trans sz (Nat.le_add_right _ _), fun c hc => ?_⟩⟩
  · have nb : ∀ j, b ≠ N + j := fun j z => by rw [z, fr j] at e; cases e
    rw [upd_ne (nb 1), upd_ne (nb 0), upd_ne (nb 3), upd_ne (nb 2), upd_ne (nb 4)]; exact e
  · rw [upd_ne (ad 4 1 (by decide)), upd_ne (ad 4 0 (by decide)), upd_ne (ad 4 3 (by decide)), upd_ne (ad 4 2 (by decide))]; exact upd_same
  · rw [upd_ne (ad 2 1 (by decide)), upd_ne (ad 2 0 (by decide)), upd_ne (ad 2 3 (by decide))]; exact upd_same
  · rw [upd_ne (ad 3 1 (by decide)), upd_ne (ad 3 0 (by decide))]; exact upd_same
  · rw [upd_ne (ad 0 1 (by decide))]; exact upd_same
  · rcases in5 hc with h | h | h | h | h
    · rw [h]; exact fr 4
    · rw [h]; exact fr 2
    · rw [h]; exact fr 3
    · rw [h]; exact fr 0
    · rw [h]; exact fr 1
def iZipV (K : PySem.W.Frag) (n k : Nat) : TI := fun σ H R => ∃ z a b H0, σ[k]? = some (some (.ref z)) ∧ ZipV n H0 H z a b ∧ ∀ H', (∀ b o, H0 b = some o → H b = some o → H' b = some o) → R (RZ.ItzT K a b) H'
theorem fp_low {X : Cx} {pins : List (Addr × Obj)} {H H' : Hp} {b : Addr} (f : FpOk X pins H b) (h : H' b = none) : FpOk X pins H' b := by
  obtain ⟨_, r⟩ := f
  exact ⟨h, r⟩
theorem pi_zipV {X : Cx} (K : PySem.W.Frag) {k : Nat} {x : Str} {p tpos : Pos} {elts : List Expr} {kk : Nat} (hN : X.N[k]? = some x) (hv : Vis X.env.scope x) (hd : (x == ("__debug__" : Str)) = false := by decide) (hcd : (x == ("__classdict__" : Str)) = false := by decide) (eK : X.K = K := by rfl) :
    PI X (.Tuple elts kk tpos) (.Name x p) (iZipV K X.s_0.heap.objs.size k) := by
  subst eK
  refine ⟨fun pins s σ H R I h => ?_⟩
  obtain ⟨z, a, b, H0, hs, ⟨TI, TO, i1, i2, D, e1, e2, e3, e4, e5, l1, l2, l3, l4, l5, fresh⟩, q⟩ := h
  refine thn ((pe_var (pos := p) (i := k) hN hv hd hcd).run pins s σ H (fun v H1 => v = .ref z ∧ H1 = H) I ⟨.ref z, hs, rfl, rfl⟩) fun u s1 ⟨v, H1, I1, r1, ev, eH⟩ => ?_
  subst ev
  rw [eH] at I1
  cases r1
  have o1 : IsZip s1.heap z TI TO .none := (I1.hok z _ e1).1
  have o2 : IsPair s1.heap TI (.ref i1) (.ref i2) := (I1.hok TI _ e2).1
  have o3 : IsPair s1.heap TO .none .none := (I1.hok TO _ e3).1
  have o4 : s1.heap.IsTupleIter i1 a 0 := (I1.hok i1 _ e4).1
  have o5 : s1.heap.IsTupleIter i2 b 0 := (I1.hok i2 _ e5).1
  refine wpAny_pyIter_zip o1 ?_
  have J1 := ItX.inv_drop I1 e1
  have k1 := keep_drop e1
  have f1 := ItX.inv_fp I1 e1 l1
  have e2' : ItX.dropH H z TI = some (pO TI i1 i2) := by rw [ItX.dropH_ne D.TIz]; exact e2
  have J2 := ItX.inv_drop J1 e2'
  have k2 := keep_drop e2'
  have f2 := ItX.inv_fp J1 e2' l2
  have e3' : ItX.dropH (ItX.dropH H z) TI TO = some (nO TO) := by rw [ItX.dropH_ne D.TITO.symm, ItX.dropH_ne D.TOz]; exact e3
  have J3 := ItX.inv_drop J2 e3'
  have k3 := keep_drop e3'
  have f3 := ItX.inv_fp J2 e3' l3
  have e4' : ItX.dropH (ItX.dropH (ItX.dropH H z) TI) TO i1 = some (iO i1 a) := by rw [ItX.dropH_ne D.TOi1.symm, ItX.dropH_ne D.TIi1.symm, ItX.dropH_ne D.i1z]; exact e4
  have J4 := ItX.inv_drop J3 e4'
  have k4 := keep_drop e4'
  have f4 := ItX.inv_fp J3 e4' l4
  have e5' : ItX.dropH (ItX.dropH (ItX.dropH (ItX.dropH H z) TI) TO) i1 i2 = some (iO i2 b) := by rw [ItX.dropH_ne D.i12.symm, ItX.dropH_ne D.TOi2.symm, ItX.dropH_ne D.TIi2.symm, ItX.dropH_ne D.i2z]; exact e5
  have J5 := ItX.inv_drop J4 e5'
  have k5 := keep_drop e5'
  have f5 := ItX.inv_fp J4 e5' l5
  have kk5 := (((k1.trans k2).trans k3).trans k4).trans k5
  refine ⟨z, [z, TI, TO, i1, i2], _, _, _, rfl, J5, RZ.turn_zipT D, ⟨o1, o2, ⟨_, _, o3⟩, o4, o5⟩, fun c hc => ?_, q _ fun c o h0 hc => ?_⟩
  · rcases in5 hc with h | h | h | h | h <;> subst h
    · exact fp_low f1 (k5.2 _ (k4.2 _ (k3.2 _ (k2.2 _ f1.1))))
    · exact fp_low f2 (k5.2 _ (k4.2 _ (k3.2 _ f2.1)))
    · exact fp_low f3 (k5.2 _ (k4.2 _ f3.1))
    · exact fp_low f4 (k5.2 _ f4.1)
    · exact f5
  have nn : ∀ d ∈ [z, TI, TO, i1, i2], c ≠ d := fun d hd q => by
    rw [q, fresh d hd] at h0; cases h0
  rw [ItX.dropH_ne (nn i2 (by simp)), ItX.dropH_ne (nn i1 (by simp)), ItX.dropH_ne (nn TO (by simp)), ItX.dropH_ne (nn TI (by simp)), ItX.dropH_ne (nn z (by simp))]
  exact hc
/-! ### zip of a tuple and a list -/
def ItzN (K : PySem.W.Frag) (a b : Addr) : It where
  go := fun i H => ∃ xs ys x y, SqT K H a xs ∧ SqL K H b ys ∧ xs[i]? = some x ∧ ys[i]? = some y
  yld := fun i H v H' => ∃ T x y, v = .ref T ∧ H T = none ∧ H' = upd H T (.tup [x, y]) ∧ (∀ l, SqT K H a l → l[i]? = some x) ∧ ∀ l, SqL K H b l → l[i]? = some y
  stop := fun i H => ∃ xs ys : List V, SqT K H a xs ∧ SqL K H b ys ∧ i ≤ xs.length ∧ i ≤ ys.length ∧ (i = xs.length ∨ i = ys.length)
theorem turnN {P : Program} {w : World} {K : PySem.W.Frag} {elts : List Expr} {kk : Nat} {tpos : Pos} {a b z TI TO i1 i2 : Addr} (S : ZipSep2 z TI TO i1 i2 [i1, a] [i2, b]) :
    Turn P w K (.Tuple elts kk tpos) (ItzN K a b) [z, TI, TO, i1, i2] z (fun i h => IsZip h z TI TO .none ∧ IsTupOf2 h TI (.ref i1) (.ref i2) ∧ (∃ x y, IsTupOf2 h TO x y) ∧ h.IsTupleIter i1 a i ∧ h.IsListIter i2 b i) := by
  have n12 : i1 ≠ i2 := fun q => S.sep1_2 (by rw [q]; exact List.mem_cons_self ..)
  have z1 := S.zi1
  have z2 := S.zi2
  have t1 := S.Ti1
  have t2 := S.Ti2
  have keep4 : ∀ {h h' : Heap} {c : Addr} {o : Obj}, (∀ c o, c ≠ z → c ≠ TO → c ≠ i1 → c ≠ i2 → h.get? c = some o → h'.get? c = some o) → c ∉ [z, TI, TO, i1, i2] → h.get? c = some o → h'.get? c = some o :=
    fun k hc q => k _ _ (fun e => hc (by simp [e])) (fun e => hc (by simp [e])) (fun e => hc (by simp [e])) (fun e => hc (by simp [e])) q
  have size5 : ∀ {h : Heap} {i : Nat}, IsZip h z TI TO .none → IsTupOf2 h TI (.ref i1) (.ref i2) → (∃ x y, IsTupOf2 h TO x y) → h.IsTupleIter i1 a i → h.IsListIter i2 b i → ∀ c ∈ [z, TI, TO, i1, i2], c < h.objs.size := by
    intro h i hz hT ⟨x, y, hO⟩ ⟨o1, e1, _⟩ ⟨o2, e2, _⟩ c hc
    rcases in5 hc with q | q | q | q | q <;> subst q
    · exact Heap.lt_size hz
    · exact Heap.lt_size hT
    · exact Heap.lt_size hO
    · exact Heap.lt_size e1
    · exact Heap.lt_size e2
  refine { mem := List.mem_cons_self .., obj := ?_, keep := ?_, item := ?_, done := ?_, self := fun A i s Q E st h => wpAny_pyIter_zip st.1 h }
  · rintro i h ⟨hz, hT, ⟨x, y, hO⟩, ⟨o1, e1, _, d1⟩, ⟨o2, e2, _, d2⟩⟩ c hc
    rcases in5 hc with q | q | q | q | q <;> subst q
    · exact ⟨_, hz, fun v q => nomatch q⟩
    · exact ⟨_, hT, fun v q => nomatch q⟩
    · exact ⟨_, hO, fun v q => nomatch q⟩
    · exact ⟨o1, e1, fun v q => by rw [d1] at q; cases q⟩
    · exact ⟨o2, e2, fun v q => by rw [d2] at q; cases q⟩
  · rintro i h h' ⟨hz, hT, ⟨x, y, hO⟩, l1, l2⟩ k
    exact ⟨k z (by simp) _ hz, k TI (by simp) _ hT, ⟨x, y, k TO (by simp) _ hO⟩, l1.at fun o q => k i1 (by simp) o q, l2.at fun o q => k i2 (by simp) o q⟩
  · intro X hP hw hK hc i pins s σ H E I hf st hg
    subst hP hw hK
    obtain ⟨hz, hT, hO, l1, l2⟩ := st
    have lts := size5 hz hT hO l1 l2
    obtain ⟨x0, y0, hO⟩ := hO
    obtain ⟨xs, ys, x, y, qx, qy, hx, hy⟩ := hg
    obtain ⟨its, rv, p, _⟩ := I.tuple qx
    obtain ⟨its2, rv2, p2, _⟩ := I.list qy
    obtain ⟨u, hu, ru⟩ := rv.get hx
    obtain ⟨u2, hu2, ru2⟩ := rv2.get hy
    have a1 : a ≠ i1 := fun q => by
      obtain ⟨o, ho, c, _⟩ := l1
      obtain ⟨o', ho', c', _⟩ := p
      rw [← q, ho'] at ho; cases ho
      rw [c'] at c; simp at c
    have b2 : b ≠ i2 := fun q => by
      obtain ⟨o, ho, c, _⟩ := l2
      obtain ⟨o', ho', c', _⟩ := p2.isList
      rw [← q, ho'] at ho; cases ho
      rw [c'] at c; simp at c
    have hd : X.A.in1.handled = none := I.ok.hd hc
    have D1 := Draws.tuple (prog := X.prog) (w := X.w) hd i1 a a1 its.toArray
    have D2 := Draws.list (prog := X.prog) (w := X.w) hd i2 b b2 its2.toArray
    have s1 : i < its.toArray.size := by
      have := (List.getElem?_eq_some_iff.mp hu).1
      simpa using this
    have s2 : i < its2.toArray.size := by
      have := (List.getElem?_eq_some_iff.mp hu2).1
      simpa using this
    refine wpAny_pyNext_zipD2_item S D1 D2 hz hT hO ⟨l1, p⟩ ⟨l2, p2.isList⟩ s1 s2 fun v1 v2 h' tk e1 e2 z' O' st1 st2 hN hsz hk => ?_
    have ev1 : u = v1 := by
      have : its[i]? = some v1 := by simpa using e1
      rw [hu] at this; exact Option.some.inj this
    have ev2 : u2 = v2 := by
      have : its2[i]? = some v2 := by simpa using e2
      rw [hu2] at this; exact Option.some.inj this
    subst ev1 ev2
    refine ⟨_, rfl, wpAny_letOwnedTupleGo_zip (s := { s with heap := h', toks := tk }) z' fun h2 zz sb => ?_⟩
    have zlt : z < s.heap.objs.size := lts z (by simp)
    have pair : h2.get? s.heap.objs.size = some { cls := .type "tuple", data := .seq #[u, u2] } := (sb.2 _ (Nat.ne_of_gt zlt)).trans hN
    have new : ObjOk X.prog X.w (upd H s.heap.objs.size (.tup [x, y])) h2 s.heap.objs.size (.tup [x, y]) := ⟨by show 2 ≤ sizeLine; decide, [u, u2], .cons ru (.cons ru2 .nil), ⟨_, pair, rfl, _, rfl⟩⟩
    have I2 : Inv X pins σ (upd H s.heap.objs.size (.tup [x, y])) { s with heap := h2, toks := tk } :=
      I.turnedNew (t' := tk) (ch := [z, TI, TO, i1, i2]) (fun c o hb q => (sb.2 c (fun e => hb (by simp [e]))).trans (keep4 hk hb q)) hf (Nat.le_refl _) new
    refine ⟨.ref s.heap.objs.size, _, I2, rfl, ⟨_, x, y, rfl, I.hok.fresh (Nat.le_refl _), rfl, fun l hl => by rw [I.tuple_inj hl qx]; exact hx, fun l hl => by rw [I.list_inj hl qy]; exact hy⟩, ⟨zz, ?_, ⟨u, u2, ?_⟩, ?_, ?_⟩, fun c hc => ?_⟩
    · exact (sb.2 _ S.TIz).trans (hk _ _ S.TIz S.TITO S.TIi1 S.TIi2 hT)
    · exact (sb.2 _ S.TOz).trans O'
    · exact st1.1.at fun o q => (sb.2 _ z1.symm).trans q
    · exact st2.1.at fun o q => (sb.2 _ z2.symm).trans q
    · rw [upd_ne (Nat.ne_of_lt (lts c hc))]
      exact (hf c hc).1
  · intro X hP hw hK hc i pins s σ H E I hf st hg
    subst hP hw hK
    obtain ⟨hz, hT, ⟨x0, y0, hO⟩, l1, l2⟩ := st
    obtain ⟨xs, ys, qx, qy, le1, le2, hend⟩ := hg
    obtain ⟨its, rv, p, _⟩ := I.tuple qx
    obtain ⟨its2, rv2, p2, _⟩ := I.list qy
    have a1 : a ≠ i1 := fun q => by
      obtain ⟨o, ho, c, _⟩ := l1
      obtain ⟨o', ho', c', _⟩ := p
      rw [← q, ho'] at ho; cases ho
      rw [c'] at c; simp at c
    have b2 : b ≠ i2 := fun q => by
      obtain ⟨o, ho, c, _⟩ := l2
      obtain ⟨o', ho', c', _⟩ := p2.isList
      rw [← q, ho'] at ho; cases ho
      rw [c'] at c; simp at c
    have hd : X.A.in1.handled = none := I.ok.hd hc
    have e1 := rv.length
    have e2 := rv2.length
    refine wpAny_pyNext_zipD2_end S (Draws.tuple (prog := X.prog) (w := X.w) hd i1 a a1 its.toArray) (Draws.list (prog := X.prog) (w := X.w) hd i2 b b2 its2.toArray) hz hT hO ⟨l1, p⟩ ⟨l2, p2.isList⟩ (by simp; omega) (by simp; omega) (by simp; omega) fun h' tk hk => ?_
    exact ⟨rfl, I.turnedL (t' := tk) (ch := [z, TI, TO, i1, i2]) (fun c o hb q => keep4 hk hb q) hf⟩
def iZipN (K : PySem.W.Frag) (ta : TA) : TI := fun σ H R => ta σ H fun vs H1 => ∃ a b xs ys, vs = [.ref a, .ref b] ∧ SqT K H1 a xs ∧ SqL K H1 b ys ∧ R (ItzN K a b) H1
theorem pi_zipN {X : Cx} {e e2 : Expr} {ta : TA} {p pos tpos : Pos} {elts : List Expr} {kk : Nat} (hg : Gl X "zip") (hm : X.mg "zip" = none) (ha : PA X [e, e2] ta)
    (hs : starEach [e, e2] X.env = (false, eval e X.env) :: starEach [e2] X.env := by rfl) (hpl : (backTo pos (starEach [e2] X.env)).any (·.1) = false := by rfl) :
    PI X (.Tuple elts kk tpos) (.Call (.Name "zip" p) [e, e2] [] pos) (iZipN X.K ta) := by
  refine ⟨fun pins s σ H R I h => Call_ (ld_blt I hg hm PyProof.Rows.boot_zip (PyProof.Rows.callWith_type1 (thn (ha.run pos pins s σ H _ I h) ?_) hs hpl))⟩
  rintro us s1 ⟨vs, H1, I1, r1, a, b, xs, ys, rfl, qx, qy, q⟩
  cases r1 with | cons r rr => cases rr with | cons r' rr =>
  cases rr
  cases r
  cases r'
  obtain ⟨its, rv, p1, _⟩ := I1.tuple qx
  obtain ⟨its2, rv2, p2, _⟩ := I1.list qy
  obtain ⟨o1, ho1, _⟩ := id p1
  have lb : b < s1.heap.objs.size := p2.lt
  have la : a < s1.heap.objs.size := Heap.lt_size ho1
  have S := zip_sep2 (N := s1.heap.objs.size) (fp1 := [a]) (fp2 := [b]) (fun c hc => by simp at hc; rw [hc]; exact la) (fun c hc => by simp at hc; rw [hc]; exact lb)
  refine zip_begins2 (begins_tuple a its.toArray) (begins_list b its2.toArray) p1 p2.isList fun h' hz hT hO g1 g2 hsz hk => wpAny_pyIter_zip hz ?_
  have I2 : Inv X pins σ H1 { s1 with heap := h' } := I1.kept (t' := s1.toks) hk
  refine ⟨_, [s1.heap.objs.size + 4, s1.heap.objs.size + 2, s1.heap.objs.size + 3, s1.heap.objs.size, s1.heap.objs.size + 1], _, _, H1, rfl, I2, turnN S, ⟨hz, hT, ⟨_, _, hO⟩, ⟨_, g1, rfl, rfl⟩, ⟨_, g2, rfl, rfl⟩⟩, fun c hc => ?_, q⟩
  have le : s1.heap.objs.size ≤ c := by
    rcases in5 hc with z | z | z | z | z <;> rw [z] <;> first | exact Nat.le_refl _ | exact Nat.le_add_right _ _
  exact I1.fpOk le (I1.hok.fresh le)
theorem walk_zipN {K : PySem.W.Frag} {a b : Addr} {xs ys : List V} (e : xs.length = ys.length) : Walk (ItzN K a b) xs.length (fun H => SqT K H a xs ∧ SqL K H b ys) (YPair (fun i => xs[i]?) (fun i => ys[i]?)) := by
  refine ⟨fun i _ hi q => ?_, fun _ q => ⟨xs, ys, q.1, q.2, Nat.le_refl _, Nat.le_of_eq e, .inl rfl⟩, fun i H v H' _ q y => ?_⟩
  · have h2 : i < ys.length := by omega
    exact ⟨xs, ys, xs[i], ys[i], q.1, q.2, by simp [hi], by simp [h2]⟩
  · obtain ⟨T, x, z, h1, h2, h3, h4, h5⟩ := y
    exact ⟨T, x, z, h1, h2, h3, h4 xs q.1, h5 ys q.2⟩
theorem kpi_zipN {X : Cx} (K : PySem.W.Frag) {e1 e2 : Expr} {ta : TA} {p pos tpos : Pos} {elts : List Expr} {kk : Nat} (hg : Gl X "zip") (hm : X.mg "zip" = none) (ha : PA X [e1, e2] ta)
    (hs : starEach [e1, e2] X.env = (false, eval e1 X.env) :: starEach [e2] X.env := by rfl) (hpl : (backTo pos (starEach [e2] X.env)).any (·.1) = false := by rfl) (e : X.K = K := by rfl) :
    PI X (.Tuple elts kk tpos) (.Call (.Name "zip" p) [e1, e2] [] pos) (iZipN K ta) := by subst e; exact pi_zipN hg hm ha hs hpl
end Ly

set_option Elab.async false
set_option linter.all false
set_option maxRecDepth 100000
set_option exponentiation.threshold 20000
set_option pp.deepTerms false
set_option pp.deepTerms.threshold 8
namespace K63
open PySem PySem.Spec PyProof.Rows L2 Ly Mt
def topS (i : Nat) : Stmt := PySem.Challenge.pw_sameontrees_k03_rows_and_sizes.main.body.getD i (.Pass ⟨0, 0, 0, 0⟩)
def lows : Str := "abcdefghijklmnopqrstuvwxyz"
def highs : Str := "ABCDEFGHIJKLMNOPQRSTUVWXYZ"
def digs : Str := "0123456789"
/-- what the module's names hold -/
structure Tx (K : PySem.W.Frag) (mg : Str → Option Value) : Prop where
  m_isinstance : mg "isinstance" = none
  m_len : mg "len" = none
  m_int : mg "int" = none
  m_bool : mg "bool" = none
  m_tuple : mg "tuple" = none
  m_str : mg "str" = none
  m_list : mg "list" = none
  m_abs : mg "abs" = none
  m_all : mg "all" = none
  m_zip : mg "zip" = none
  m_range : mg "range" = none
  m_enumerate : mg "enumerate" = none
  m_sum : mg "sum" = none
  m_set : mg "set" = none
  m_sorted : mg "sorted" = none
  m_min : mg "min" = none
  m_repr : mg "repr" = none
  g_MOST_TOLD : ∃ u, mg "MOST_TOLD" = some u ∧ L2.RelV (.int 4000) u
  m_any : mg "any" = none
  g_LONGEST : ∃ u, mg "LONGEST" = some u ∧ L2.RelV (.int 10) u
  g_NUMBER : ∃ u, mg "NUMBER" = some u ∧ L2.RelV (.int (-1)) u
  g_MOST_ROWS : ∃ u, mg "MOST_ROWS" = some u ∧ L2.RelV (.int 96) u
  g_LOW : ∃ u, mg "LOW" = some u ∧ L2.RelV (.str lows) u
  g_HIGH : ∃ u, mg "HIGH" = some u ∧ L2.RelV (.str highs) u
  g_DIGITS : ∃ u, mg "DIGITS" = some u ∧ L2.RelV (.str digs) u
  kws : ∃ a, mg "KEYWORDS" = some (.ref a) ∧ ∀ H, ITup K H a [.str "fun", .str "kind", .str "number"]
theorem hu10 {A : Around} {k : Nat} (hr : Room k A) : A.units + 10 < cLine := by have := hr.units; omega
def jInt : PyData → Bool
  | .int _ => true
  | _ => false
theorem jInt_as : ∀ d, jInt d = (jIntB d && !jBool d)
  | .none => rfl
  | .bool _ => rfl
  | .int _ => rfl
  | .str _ => rfl
  | .tuple _ => rfl
  | .list _ => rfl
  | .dict _ => rfl
def jPair : PyData → Bool
  | .tuple ds => decide (ds.length = 2)
  | _ => false
def jRatio : PyData → Bool
  | .tuple [.int t, .int b] => decide (1 ≤ b) && decide (Nat.gcd t.natAbs b.natAbs = 1)
  | _ => false
section
variable {P : Program} {w : World} {K : PySem.W.Frag} {mg : Str → Option Value} {base : Heap}

def sp_is_int (K : PySem.W.Frag) : Sp := fun vs H Q _ => ∃ v d, vs = [v] ∧ Dp K H v d ∧ Q (.bl (jInt d)) H

def sp_is_pair (K : PySem.W.Frag) : Sp := fun vs H Q _ => ∃ v d, vs = [v] ∧ Dp K H v d ∧ Q (.bl (jPair d)) H

def sp_is_ratio (K : PySem.W.Frag) : Sp := fun vs H Q _ => ∃ v d, vs = [v] ∧ Dp K H v d ∧ Q (.bl (jRatio d)) H
def sp_within (K : PySem.W.Frag) : Sp := fun vs H Q _ => ∃ i lo hi, vs = [.int i, .int lo, .int hi] ∧ lo ≤ i ∧ i ≤ hi ∧ Q (.bl true) H

def sp_is_row (K : PySem.W.Frag) : Sp := fun vs H Q _ => ∃ a xs lo hi, vs = [.ref a, .int lo, .int hi] ∧ ITup K H a xs ∧ lo ≤ (xs.length : Int) ∧ (xs.length : Int) ≤ hi ∧ Q (.bl true) H

/-- a name, by its signs -/
def lowC (c : Nat) : Bool := decide (c ∈ lows.cps.toList)
def highC (c : Nat) : Bool := decide (c ∈ highs.cps.toList)
def digC (c : Nat) : Bool := decide (c ∈ digs.cps.toList)
structure NameOk (z : Str) : Prop where
  len : 1 ≤ z.length ∧ z.length ≤ 10
  kw : z ≠ "fun" ∧ z ≠ "kind" ∧ z ≠ "number"
  head : ∃ c, z.cps[0]? = some c ∧ digC c = false
  signs : ∀ c ∈ z.cps.toList, (lowC c || highC c || digC c) = true
def sp_is_name : Sp := fun vs H Q _ => ∃ z, vs = [.str z] ∧ NameOk z ∧ ∀ H', Same H H' → Q (.bl true) H'
def sp_is_low : Sp := fun vs H Q _ => ∃ z, vs = [.str z] ∧ NameOk z ∧ (∃ c, z.cps[0]? = some c ∧ lowC c = true) ∧ ∀ H', Same H H' → Q (.bl true) H'
def sp_is_high : Sp := fun vs H Q _ => ∃ z, vs = [.str z] ∧ NameOk z ∧ (∃ c, z.cps[0]? = some c ∧ highC c = true) ∧ ∀ H', Same H H' → Q (.bl true) H'

def sp_unlike (K : PySem.W.Frag) : Sp := fun vs H Q _ => ∃ (a : Addr) (ys : List Str), vs = [.ref a] ∧ H a = some (.lst (ys.map V.str)) ∧ ys.Nodup ∧ ys.length ≤ 1000 ∧ Q (.bl true) H
end
end K63

set_option Elab.async false
set_option linter.all false
set_option maxRecDepth 100000
set_option exponentiation.threshold 20000
set_option pp.deepTerms false
set_option pp.deepTerms.threshold 8
namespace K63
open PySem PySem.Spec PyProof.Rows L2 Ly Mt
/-! ### kinds as data -/
abbrev Mk := Str × List Str
abbrev Kd := Str × List Mk
def sD (xs : List Str) : PyData := .tuple (xs.map .str)
def mkD (m : Mk) : PyData := .tuple [.str m.1, sD m.2]
def kdD (k : Kd) : PyData := .tuple [.str k.1, .tuple (k.2.map mkD)]
def ksD (ks : List Kd) : PyData := .tuple (ks.map kdD)
def High (z : Str) : Prop := NameOk z ∧ ∃ c, z.cps[0]? = some c ∧ highC c = true
def allMk (ks : List Kd) : List Mk := ks.flatMap (·.2)
structure KindsOk (ks : List Kd) : Prop where
  few : 1 ≤ ks.length ∧ ks.length ≤ 6
  nm : ∀ k ∈ ks, High k.1
  mks : ∀ k ∈ ks, 1 ≤ k.2.length ∧ k.2.length ≤ 6
  mkk : ∀ k ∈ ks, ∀ m ∈ k.2, High m.1 ∧ m.2.length ≤ 4
  nd : (ks.map (·.1)).Nodup
  ndm : ((allMk ks).map (·.1)).Nodup
  flds : ∀ k ∈ ks, ∀ m ∈ k.2, ∀ f ∈ m.2, f = "number" ∨ f ∈ ks.map (·.1)
theorem im_pair {K : PySem.W.Frag} {H : Hp} {v : V} {d e : PyData} (h : Im K H v (.tuple [d, e])) : ∃ a x y, v = .ref a ∧ ITup K H a [x, y] ∧ Im K H x d ∧ Im K H y e := by
  obtain ⟨a, xs, rfl, ha, hx⟩ := h.tuple_inv
  obtain ⟨x, r, rfl, i1, hr⟩ := hx.cons_inv
  obtain ⟨y, r, rfl, i2, hr⟩ := hr.cons_inv
  obtain rfl := hr.nil_inv
  exact ⟨a, x, y, rfl, ha, i1, i2⟩
theorem im_trip {K : PySem.W.Frag} {H : Hp} {v : V} {d e f : PyData} (h : Im K H v (.tuple [d, e, f])) : ∃ a x y z, v = .ref a ∧ ITup K H a [x, y, z] ∧ Im K H x d ∧ Im K H y e ∧ Im K H z f := by
  obtain ⟨a, xs, rfl, ha, hx⟩ := h.tuple_inv
  obtain ⟨x, r, rfl, i1, hr⟩ := hx.cons_inv
  obtain ⟨y, r, rfl, i2, hr⟩ := hr.cons_inv
  obtain ⟨z, r, rfl, i3, hr⟩ := hr.cons_inv
  obtain rfl := hr.nil_inv
  exact ⟨a, x, y, z, rfl, ha, i1, i2, i3⟩
theorem im_quad {K : PySem.W.Frag} {H : Hp} {v : V} {d e f g : PyData} (h : Im K H v (.tuple [d, e, f, g])) : ∃ a x y z w, v = .ref a ∧ ITup K H a [x, y, z, w] ∧ Im K H x d ∧ Im K H y e ∧ Im K H z f ∧ Im K H w g := by
  obtain ⟨a, xs, rfl, ha, hx⟩ := h.tuple_inv
  obtain ⟨x, r, rfl, i1, hr⟩ := hx.cons_inv
  obtain ⟨y, r, rfl, i2, hr⟩ := hr.cons_inv
  obtain ⟨z, r, rfl, i3, hr⟩ := hr.cons_inv
  obtain ⟨w, r, rfl, i4, hr⟩ := hr.cons_inv
  obtain rfl := hr.nil_inv
  exact ⟨a, x, y, z, w, rfl, ha, i1, i2, i3, i4⟩
theorem im_strs {K : PySem.W.Frag} {H : Hp} : ∀ {xs : List V} {ys : List Str}, ImAll K H xs (ys.map .str) → xs = ys.map V.str
  | _, [], h => by obtain rfl := h.nil_inv; rfl
  | _, y :: ys, h => by
    obtain ⟨x, r, rfl, i1, hr⟩ := h.cons_inv
    rw [i1.str_inv, im_strs hr]; rfl
theorem strs_im {K : PySem.W.Frag} {H : Hp} : ∀ (ys : List Str), ImAll K H (ys.map V.str) (ys.map .str)
  | [] => .nil
  | y :: ys => .cons (.str y) (strs_im ys)
theorem eqs (x y : Str) : eqV (V.str x) (V.str y) = decide (x = y) := by
  by_cases h : x = y
  · subst h; simp [eqV]
  · simp [eqV, h]
theorem inV_strs (z : Str) : ∀ ys : List Str, inV (V.str z) (ys.map V.str) = decide (z ∈ ys)
  | [] => rfl
  | y :: ys => by
    have ih := inV_strs z ys
    unfold inV at ih ⊢
    rw [List.map_cons, List.any_cons, ih, eqs]
    by_cases h : y = z
    · subst h; simp
    · have h2 : ¬ z = y := fun e => h e.symm
      simp [h, h2]
theorem flat_strs' : ∀ ys : List Str, (ys.map V.str).all flatV = true
  | [] => rfl
  | y :: ys => by rw [List.map_cons, List.all_cons, flat_strs' ys]; rfl
theorem dec_str (x y : Str) : decide (V.str x = V.str y) = decide (x = y) := by
  by_cases h : x = y
  · rw [decide_eq_true h, decide_eq_true (by rw [h])]
  · rw [decide_eq_false h, decide_eq_false (fun z => h (V.str.inj z))]
theorem allMk_len : ∀ {l : List Kd}, (∀ k ∈ l, k.2.length ≤ 6) → (allMk l).length ≤ 6 * l.length
  | [], _ => Nat.le_refl _
  | k :: l, h => by
    have h1 := h k (List.mem_cons_self ..)
    have h2 := allMk_len (l := l) fun x hx => h x (List.mem_cons_of_mem _ hx)
    unfold allMk at h2 ⊢
    rw [List.flatMap_cons, List.length_append, List.length_cons]
    omega
/-- all but D stays -/
def Bar' (D : Addr) (H H' : Hp) : Prop := ∀ b o, b ≠ D → H b = some o → H' b = some o
section
variable {P : Program} {w : World} {K : PySem.W.Frag} {mg : Str → Option Value} {base : Heap}
def sp_is_kinds (K : PySem.W.Frag) : Sp := fun vs H Q _ => ∃ v ks, vs = [v] ∧ Im K H v (ksD ks) ∧ KindsOk ks ∧ ∀ H', Same H H' → Q (.bl true) H'
end
end K63

set_option Elab.async false
set_option linter.all false
set_option maxRecDepth 100000
set_option exponentiation.threshold 20000
set_option pp.deepTerms false
set_option pp.deepTerms.threshold 8
namespace K63
open PySem PySem.Spec PyProof.Rows L2 Ly Mt
/-! ### the table of makers -/
def noS : Str := ""
/-- the place of a kind's name, -1 where there is none -/
def placeOf (ns : List Str) (f : Str) : Int := if f ∈ ns then (ns.idxOf f : Int) else -1
/-- a maker's row: its name, kind, place, fields -/
abbrev Row := Str × Nat × Nat × List Int
def rowD (r : Row) : PyData := .tuple [.int r.2.1, .int r.2.2.1, .tuple (r.2.2.2.map .int)]
def mkRow (ns : List Str) (i j : Nat) (m : Mk) : Row := (m.1, i, j, m.2.map (placeOf ns))
def kindRows (ns : List Str) (i : Nat) (k : Kd) : List Row := (List.range k.2.length).map fun j => mkRow ns i j (k.2.getD j (noS, []))
def rowsOf (ks : List Kd) (n : Nat) : List Row := (List.range n).flatMap fun i => kindRows (ks.map (·.1)) i (ks.getD i (noS, []))
/-- at d stands the dict of these rows -/
structure TableAt (K : PySem.W.Frag) (H : Hp) (d : Addr) (rs : List Row) : Prop where
  ex : ∃ kvs : List (Key × V), H d = some (.dK kvs) ∧ kvs.map (·.1) = rs.map (fun r => Sum.inr r.1) ∧ ImAll K H (kvs.map (·.2)) (rs.map rowD)
theorem TableAt.same {K : PySem.W.Frag} {H H' : Hp} {d : Addr} {rs : List Row} (h : TableAt K H d rs) (s : Same H H') : TableAt K H' d rs := by
  obtain ⟨kvs, e, h1, h2⟩ := h
  exact ⟨kvs, s _ _ e, h1, ImAll.mono (tk_same s) _ h2⟩
theorem tk_dK {H : Hp} {p : Addr} {o : HO} {xs : List (Key × V)} (h : H p = some (.dK xs)) : TK H (upd H p o) := fun b ys e => by
  rw [upd_ne (fun z => by rw [z, h] at e; cases e)]; exact e
theorem valV_none {kvs : List (Key × V)} {k : Key} (h : k ∉ kvs.map (·.1)) : valV kvs k = none := by
  induction kvs with
  | nil => rfl
  | cons p r ih =>
    rw [List.map_cons, List.mem_cons] at h
    rw [valV_neg (fun e => h (.inl e.symm))]
    exact ih fun z => h (.inr z)
theorem valV_at {K : PySem.W.Frag} {H : Hp} : ∀ {kvs : List (Key × V)} {rs : List Row} {i : Nat} {r : Row}, kvs.map (·.1) = rs.map (fun r => Sum.inr r.1) → (rs.map (·.1)).Nodup → ImAll K H (kvs.map (·.2)) (rs.map rowD) → rs[i]? = some r → ∃ v, valV kvs (Sum.inr r.1) = some v ∧ Im K H v (rowD r)
  | [], [], i, r, _, _, _, h => by simp at h
  | p :: kvs, q :: rs, 0, r, h1, nd, im, h => by
    obtain rfl : q = r := by simpa using h
    rw [List.map_cons, List.map_cons] at h1
    injection h1 with e1 e2
    obtain ⟨v, vs, e3, i1, _⟩ := im.cons_inv
    injection e3 with e4 e5
    exact ⟨p.2, valV_pos e1, by have e5 : p.2 = v := e4; rw [e5]; exact i1⟩
  | p :: kvs, q :: rs, i + 1, r, h1, nd, im, h => by
    have hr : rs[i]? = some r := by simpa using h
    rw [List.map_cons, List.map_cons] at h1
    injection h1 with e1 e2
    obtain ⟨v, vs, e3, i1, ir⟩ := im.cons_inv
    injection e3 with e4 e5
    rw [List.map_cons, List.nodup_cons] at nd
    rw [← e5] at ir
    obtain ⟨u, h3, h4⟩ := valV_at e2 nd.2 ir hr
    refine ⟨u, ?_, h4⟩
    rw [valV_neg (fun z => nd.1 ?_)]
    · exact h3
    · rw [e1] at z
      have : q.1 = r.1 := Sum.inr.inj z
      rw [this]
      exact List.mem_map.mpr ⟨r, List.mem_of_getElem? hr, rfl⟩
  | [], _ :: _, _, _, h1, _, _, _ => by simp at h1
  | _ :: _, [], _, _, h1, _, _, _ => by simp at h1
theorem TableAt.get {K : PySem.W.Frag} {H : Hp} {d : Addr} {rs : List Row} (h : TableAt K H d rs) (nd : (rs.map (·.1)).Nodup) {i : Nat} {r : Row} (e : rs[i]? = some r) : ∃ kvs v, H d = some (.dK kvs) ∧ valV kvs (Sum.inr r.1) = some v ∧ Im K H v (rowD r) := by
  obtain ⟨kvs, e0, h1, h2⟩ := h
  obtain ⟨v, h3, h4⟩ := valV_at h1 nd h2 e
  exact ⟨kvs, v, e0, h3, h4⟩
/-! ### the places of the kinds -/
def placesV (ns : List Str) (n : Nat) : List (Key × V) := (List.range n).map fun i => (Sum.inr (ns.getD i noS), V.int (i : Nat))
theorem placesV_succ (ns : List Str) (n : Nat) : placesV ns (n + 1) = placesV ns n ++ [(Sum.inr (ns.getD n noS), V.int (n : Nat))] := by
  unfold placesV
  rw [List.range_succ, List.map_append]; rfl
theorem getD_inj {ns : List Str} (nd : ns.Nodup) {i j : Nat} (hi : i < ns.length) (hj : j < ns.length) (h : ns.getD i noS = ns.getD j noS) : i = j := by
  rw [List.getD_eq_getElem?_getD, List.getD_eq_getElem?_getD, List.getElem?_eq_getElem hi, List.getElem?_eq_getElem hj] at h
  have h2 : ns[i] = ns[j] := h
  exact (List.getElem?_inj hi nd).mp (by rw [List.getElem?_eq_getElem hi, List.getElem?_eq_getElem hj, h2])
theorem places_new {ns : List Str} (nd : ns.Nodup) {n : Nat} (h : n < ns.length) : valV (placesV ns n) (Sum.inr (ns.getD n noS)) = none := valV_none fun z => by
  obtain ⟨p, hp, e⟩ := List.mem_map.mp z
  obtain ⟨i, hi, rfl⟩ := List.mem_map.mp hp
  have hi' := List.mem_range.mp hi
  have := getD_inj nd (by omega) h (Sum.inr.inj e)
  omega
theorem places_at {ns : List Str} (nd : ns.Nodup) : ∀ n, n ≤ ns.length → ∀ i, i < n → valV (placesV ns n) (Sum.inr (ns.getD i noS)) = some (.int (i : Nat))
  | 0, _, i, h => by omega
  | n + 1, hn, i, h => by
    rw [placesV_succ, valV_snoc _ _ _ _ (places_new nd (by omega))]
    by_cases e : i = n
    · subst e; rw [if_pos rfl]
    · rw [if_neg (fun z => e (getD_inj nd (by omega) (by omega) (Sum.inr.inj z)))]
      exact places_at nd n (by omega) i (by omega)
theorem places_get {ns : List Str} (nd : ns.Nodup) (f : Str) : (valV (placesV ns ns.length) (Sum.inr f)).getD (.int (-1)) = .int (placeOf ns f) := by
  unfold placeOf
  by_cases h : f ∈ ns
  · rw [if_pos h]
    have hi := List.idxOf_lt_length_of_mem h
    have e : ns.getD (ns.idxOf f) noS = f := by
      rw [List.getD_eq_getElem?_getD, List.getElem?_eq_getElem hi]
      exact List.getElem_idxOf hi
    have := places_at nd _ (Nat.le_refl _) _ hi
    rw [e] at this
    rw [this]; rfl
  · rw [if_neg h, valV_none fun z => h ?_]
    · rfl
    · obtain ⟨p, hp, e⟩ := List.mem_map.mp z
      obtain ⟨i, hi, rfl⟩ := List.mem_map.mp hp
      have hi' := List.mem_range.mp hi
      have e2 : ns.getD i noS = f := Sum.inr.inj e
      rw [← e2, List.getD_eq_getElem?_getD, List.getElem?_eq_getElem hi']
      exact List.getElem_mem hi'
theorem rows_names (ks : List Kd) : ((rowsOf ks ks.length).map (·.1)) = (allMk ks).map (·.1) := by
  have h : ∀ (l : List Kd) (ns : List Str) (f : Nat → Nat), ((List.range l.length).flatMap fun i => kindRows ns (f i) (l.getD i (noS, []))).map (·.1) = (allMk l).map (·.1) := by
    intro l ns
    induction l with
    | nil => intro f; rfl
    | cons k l ih =>
      intro f
      rw [List.length_cons, List.range_succ_eq_map, List.flatMap_cons, List.map_append]
      unfold allMk
      rw [List.flatMap_cons, List.map_append]
      congr 1
      · unfold kindRows
        rw [List.map_map]
        show (List.range k.2.length).map (fun j => (k.2.getD j (noS, [])).1) = _
        refine List.ext_getElem? fun j => ?_
        rw [List.getElem?_map, List.getElem?_map]
        by_cases hj : j < k.2.length
        · rw [List.getElem?_range hj, List.getElem?_eq_getElem hj]
          show some (k.2.getD j (noS, [])).1 = some _
          rw [List.getD_eq_getElem?_getD, List.getElem?_eq_getElem hj]; rfl
        · rw [List.getElem?_eq_none (by simp; omega), List.getElem?_eq_none (by omega)]; rfl
      · have := ih (fun i => f (i + 1))
        unfold allMk at this
        rw [← this, List.flatMap_map]
        rfl
  exact h ks _ id
theorem rows_succ (ks : List Kd) (n : Nat) : rowsOf ks (n + 1) = rowsOf ks n ++ kindRows (ks.map (·.1)) n (ks.getD n (noS, [])) := by
  unfold rowsOf
  rw [List.range_succ, List.flatMap_append, List.flatMap_cons, List.flatMap_nil, List.append_nil]
theorem rows_prefix (ks : List Kd) (i : Nat) : ∀ n, i ≤ n → rowsOf ks i <+: rowsOf ks n
  | 0, h => by
    obtain rfl : i = 0 := by omega
    exact List.prefix_refl _
  | n + 1, h => by
    by_cases e : i = n + 1
    · rw [e]; exact List.prefix_refl _
    · exact (rows_prefix ks i n (by omega)).trans (by rw [rows_succ]; exact List.prefix_append ..)
theorem kindRows_at {ns : List Str} {i j : Nat} {kd : Kd} {m : Mk} (h : kd.2[j]? = some m) : (kindRows ns i kd)[j]? = some (mkRow ns i j m) := by
  have hj := (List.getElem?_eq_some_iff.mp h).1
  unfold kindRows
  rw [List.getElem?_map, List.getElem?_range hj]
  show some (mkRow ns i j (kd.2.getD j (noS, []))) = _
  rw [List.getD_eq_getElem?_getD, h]; rfl
theorem kindRows_length {ns : List Str} {i : Nat} {kd : Kd} : (kindRows ns i kd).length = kd.2.length := by unfold kindRows; simp
theorem ints_im {K : PySem.W.Frag} {H : Hp} : ∀ (ns : List Int), ImAll K H (ns.map V.int) (ns.map .int)
  | [] => .nil
  | n :: ns => .cons (.int n) (ints_im ns)
/-- the name of the next row is new -/
theorem row_new {ks : List Kd} (nd : ((allMk ks).map (·.1)).Nodup) {i j : Nat} {kd : Kd} {m : Mk} (hk : ks[i]? = some kd) (hm : kd.2[j]? = some m) : m.1 ∉ (rowsOf ks i ++ (kindRows (ks.map (·.1)) i kd).take j).map (·.1) := by
  have hi := (List.getElem?_eq_some_iff.mp hk).1
  have e1 : ks.getD i (noS, []) = kd := by rw [List.getD_eq_getElem?_getD, hk]; rfl
  have p1 := rows_prefix ks (i + 1) ks.length hi
  rw [rows_succ, e1] at p1
  have p2 : rowsOf ks i ++ (kindRows (ks.map (·.1)) i kd).take (j + 1) <+: rowsOf ks ks.length := by
    refine List.IsPrefix.trans ?_ p1
    obtain ⟨t, ht⟩ := List.take_prefix (j + 1) (kindRows (ks.map (·.1)) i kd)
    exact ⟨t, by rw [List.append_assoc, ht]⟩
  rw [List.take_add_one, kindRows_at hm, ← List.append_assoc] at p2
  have nd2 : ((rowsOf ks ks.length).map (·.1)).Nodup := by rw [rows_names]; exact nd
  have p3 := (List.IsPrefix.map (·.1) p2).sublist.nodup nd2
  rw [List.map_append] at p3
  intro z
  exact (List.nodup_append.mp p3).2.2 _ z _ (List.mem_singleton.mpr rfl) rfl
theorem rows_few {ks : List Kd} (h : ∀ k ∈ ks, k.2.length ≤ 6) : ∀ n, n ≤ ks.length → (rowsOf ks n).length ≤ 6 * n
  | 0, _ => Nat.le_refl _
  | n + 1, hn => by
    have := rows_few h n (by omega)
    rw [rows_succ, List.length_append, kindRows_length]
    have hk : ks.getD n (noS, []) ∈ ks := by
      rw [List.getD_eq_getElem?_getD, List.getElem?_eq_getElem (by omega)]
      exact List.getElem_mem _
    have := h _ hk
    omega
theorem TableAt.put {K : PySem.W.Frag} {H : Hp} {d T : Addr} {rs : List Row} {r : Row} {kvs : List (Key × V)} (e : H d = some (.dK kvs)) (h1 : kvs.map (·.1) = rs.map (fun r => Sum.inr r.1)) (h2 : ImAll K H (kvs.map (·.2)) (rs.map rowD)) (hn : r.1 ∉ rs.map (·.1)) (iT : Im K H (.ref T) (rowD r)) :
    TableAt K (upd H d (.dK (putK kvs (Sum.inr r.1) (.ref T)))) d (rs ++ [r]) := by
  have hv : valV kvs (Sum.inr r.1) = none := valV_none (by
    rw [h1]
    intro z
    obtain ⟨x, hx, ex⟩ := List.mem_map.mp z
    exact hn (List.mem_map.mpr ⟨x, hx, Sum.inr.inj ex⟩))
  rw [putK_new _ hv]
  have tk := tk_dK (o := .dK (kvs ++ [(Sum.inr r.1, V.ref T)])) e
  refine ⟨_, upd_same, by rw [List.map_append, List.map_append, h1]; rfl, ?_⟩
  rw [List.map_append, List.map_append]
  exact (ImAll.mono tk _ h2).snoc (Im.mono tk _ iT)
section
variable {P : Program} {w : World} {K : PySem.W.Frag} {mg : Str → Option Value} {base : Heap}
abbrev s_maker_table : Stmt := topS 22
theorem sc_maker_table : FnScope ["kinds", "places", "table", "index", "_", "makers", "at", "maker", "fields", "name", "field"] ["kinds"] (defScope s_maker_table) := ⟨rfl, rfl, rfl, by decide +kernel, rfl, by decide +kernel, by decide +kernel⟩
def sp_maker_table (K : PySem.W.Frag) : Sp := fun vs H Q _ => ∃ v ks, vs = [v] ∧ Im K H v (ksD ks) ∧ KindsOk ks ∧ ∀ d H', Same H H' → H d = none → TableAt K H' d (rowsOf ks ks.length) → Q (.ref d) H'
set_option maxHeartbeats 1000000 in
theorem ok_maker_table {f : Addr} {fd : FuncData} {k : Nat} (F : Fun K "maker_table" "maker_table" s_maker_table f fd) (T : Tx K mg) : FnOk P w K mg base CX0 (k + 1) f fd ["kinds"] (sp_maker_table K) := by
  have nd := sc_maker_table.nd
  refine F.ok sc_maker_table (fun vs H Q E h => ?_) (fun cdv A outer s H vs Q E hr h => ?_)
  · obtain ⟨_, _, rfl, _⟩ := h
    rfl
  · obtain ⟨v, ks, rfl, iv, ok, q⟩ := h
    obtain ⟨a, xs, rfl, ha, hx⟩ := iv.tuple_inv
    have lx : xs.length = ks.length := all_len hx
    have few := ok.few
    have ln : (ks.map (·.1)).length = ks.length := List.length_map ..
    refine ⟨_, (pss_cons (ps_set (i := 1) nd rfl (.inr rfl) (pe_dc (own := [("index", 3), ("name", 9), ("_", 4)]) (g := _) (tt := tYes) rfl nd (kpi_enumT K (by rfl) T.m_enumerate (pa_cons (pv 0) pa_nil)) (blkOk_by (by rfl)) (fun _ _ _ _ _ => (kpg_tup K (n := 2) rfl (pgs_cons (pg_name (i := 3) nd rfl (.inl rfl)) (pgs_cons (kpg_tup K (n := 2) rfl (pgs_cons (pg_name (i := 9) nd rfl (.inl rfl)) (pgs_cons (pg_name (i := 4) nd rfl (.inl rfl)) pgs_nil))) pgs_nil)))) (fun _ _ _ _ _ => pts_nil) (fun _ _ _ _ _ => (pv 9)) (fun _ _ _ _ _ => (pv 3))))
      (pss_cons (ps_set (i := 2) nd rfl (.inl rfl) pe_dnewK)
      (pss_cons (ps_for PassesOwn.never rfl (kpi_enumT K (by rfl) T.m_enumerate (pa_cons (pv 0) pa_nil)) (kpg_tup K (n := 2) rfl (pgs_cons (pg_name (i := 3) nd rfl (.inl rfl)) (pgs_cons (kpg_tup K (n := 2) rfl (pgs_cons (pg_name (i := 4) nd rfl (.inl rfl)) (pgs_cons (pg_name (i := 5) nd rfl (.inl rfl)) pgs_nil))) pgs_nil)))
        (pss_one (ps_for PassesOwn.never rfl (kpi_enumT K (by rfl) T.m_enumerate (pa_cons (pv 5) pa_nil)) (kpg_tup K (n := 2) rfl (pgs_cons (pg_name (i := 6) nd rfl (.inl rfl)) (pgs_cons (kpg_tup K (n := 2) rfl (pgs_cons (pg_name (i := 7) nd rfl (.inl rfl)) (pgs_cons (pg_name (i := 8) nd rfl (.inl rfl)) pgs_nil))) pgs_nil)))
          (pss_one (ps_dput (hu_of hr) (pv 2) (pv 7) (pe_tup (pa_cons (pv 3) (pa_cons (pv 6) (pa_cons (pe_callTy (kcall_tuple K) (by rfl) T.m_tuple (by decide +kernel) (pa_cons (pe_lc (own := [("field", 10)]) (g := gName 10) (tt := tYes) rfl nd (kpi_tup K (pv 8)) (blkOk_by (by rfl)) (fun _ _ _ _ _ => (pg_name (i := 10) nd rfl (.inl rfl))) (fun _ _ _ _ _ => pts_nil) (fun _ _ _ _ _ => (pe_dget2 (hu_of hr) (pv 1) (pv 10) (pe_gv rfl T.g_NUMBER) ⟨rfl, rfl, rfl, rfl⟩))) pa_nil)) pa_nil)))) rfl)))))
      (pss_one (ps_ret (pv 2)))))), ?_⟩
    refine ⟨.ref a, rfl, a, xs, rfl, ha.sq, fun d0 hd0 => ?_⟩
    refine dc_all (walk_enumT (xs := xs)) (fun i Hx => Same H Hx ∧ Hx d0 = some (.dK (placesV (ks.map (·.1)) i))) ⟨same_new hd0, upd_same⟩ (fun i Hx _ z => (ha.mono (tk_same z.1)).sq) (fun i x Hx Hy hi z y => ?_) (fun H1 z => ?_)
    · obtain ⟨sm, eD⟩ := z
      obtain ⟨T, x1, x2, rfl, hT, rfl, e1, e2⟩ := y
      obtain rfl := Option.some.inj e1
      obtain ⟨kd, hkd, ikd⟩ := all_get (ImAll.mono (tk_same sm) _ hx) e2
      obtain ⟨pk, u1, u2, rfl, hpk, iu1, iu2⟩ := im_pair ikd
      obtain rfl := iu1.str_inv
      have sT := same_new (o := .tup [.int (i : Nat), .ref pk]) hT
      have en : (ks.map (·.1)).getD i noS = kd.1 := by
        rw [List.getD_eq_getElem?_getD, List.getElem?_map, hkd]; rfl
      refine ⟨T, _, rfl, .of upd_same, rfl, .int (i : Nat), _, rfl, .ref pk, _, rfl, pk, _, rfl, (hpk.mono (tk_same sT)).sq, rfl, .str kd.1, _, rfl, u2, _, rfl, rfl, rfl, rfl, .str kd.1, rfl, .int (i : Nat), rfl, placesV (ks.map (·.1)) i, Sum.inr kd.1, rfl, sT _ _ eD, small1000 (by unfold placesV; rw [List.length_map, List.length_range]; omega), fun b o e => ?_, ?_⟩
      · rw [upd_ne (ne_of_none e hd0)]; exact sT _ _ (sm _ _ e)
      · rw [upd_same, placesV_succ, en]
        congr 2
        exact putK_new _ (by rw [← en]; exact places_new ok.nd (by omega))
    · obtain ⟨sm1, e0⟩ := z
      rw [lx] at e0
      refine fun d2 hd2 => ?_
      have n02 : d0 ≠ d2 := ne_of_none e0 hd2
      have s2 : Same H1 (upd H1 d2 (.dK [])) := same_new hd2
      have e2 : (upd H1 d2 (.dK [])) d2 = some (.dK []) := upd_same
      have e02 := s2 _ _ e0
      have sm2 := sm1.trans s2
      have hd20 : H d2 = none := sm1.free hd2
      generalize upd H1 d2 (.dK []) = H2 at *
      refine ⟨.ref a, rfl, a, xs, rfl, (ha.mono (tk_same sm2)).sq, ?_⟩
      refine for_it (walk_enumT (xs := xs)) (fun i σ Ha => ∃ (y3 y4 y5 y6 y7 y8 : Option V), σ = [some (.ref a), some (.ref d0), some (.ref d2), y3, y4, y5, y6, y7, y8, none, none] ∧ Same H Ha ∧ Ha d0 = some (.dK (placesV (ks.map (·.1)) ks.length)) ∧ TableAt K Ha d2 (rowsOf ks i)) ⟨_, _, _, _, _, _, rfl, sm2, e02, [], e2, rfl, .nil⟩ (fun i σ Ha _ z => ?_) ?_ ?_
      · obtain ⟨_, _, _, _, _, _, _, sm, _⟩ := z
        exact (ha.mono (tk_same sm)).sq
      · rintro i x σ Ha Hb hi ⟨y3, y4, y5, y6, y7, y8, rfl, sm, ed0, tb⟩ ⟨T, x1, x2, rfl, hT, rfl, e1, ex⟩
        obtain rfl := Option.some.inj e1
        obtain ⟨kd, hkd, ikd⟩ := all_get (ImAll.mono (tk_same sm) _ hx) ex
        have kmem := List.mem_of_getElem? hkd
        obtain ⟨pk, u1, u2, rfl, hpk, iu1, iu2⟩ := im_pair ikd
        obtain rfl := iu1.str_inv
        obtain ⟨pm, us, rfl, hpm, ius⟩ := iu2.tuple_inv
        have lus : us.length = kd.2.length := all_len ius
        have sT := same_new (o := .tup [.int (i : Nat), .ref pk]) hT
        refine ⟨T, _, rfl, .of upd_same, rfl, .int (i : Nat), _, rfl, .ref pk, _, rfl, pk, _, rfl, (hpk.mono (tk_same sT)).sq, rfl, .str kd.1, _, rfl, .ref pm, _, rfl, rfl, rfl, ?_⟩
        have hpmT := hpm.mono (tk_same sT)
        have iusT := ImAll.mono (tk_same sT) _ ius
        have smT := sm.trans sT
        have edT := sT _ _ ed0
        have tbT := tb.same sT
        generalize upd Ha T (.tup [.int (i : Nat), .ref pk]) = H3 at *
        refine ⟨.ref pm, rfl, pm, us, rfl, hpmT.sq, ?_⟩
        refine for_it (walk_enumT (xs := us)) (fun j σ Hb => ∃ (y6 y7 y8 : Option V), σ = [some (.ref a), some (.ref d0), some (.ref d2), some (.int (i : Nat)), some (.str kd.1), some (.ref pm), y6, y7, y8, none, none] ∧ Same H Hb ∧ ITup K Hb pm us ∧ ImAll K Hb us (kd.2.map mkD) ∧ Hb d0 = some (.dK (placesV (ks.map (·.1)) ks.length)) ∧ TableAt K Hb d2 (rowsOf ks i ++ (kindRows (ks.map (·.1)) i kd).take j)) ⟨_, _, _, rfl, smT, hpmT, iusT, edT, by rw [List.take_zero, List.append_nil]; exact tbT⟩ (fun j σ Hb _ z => ?_) ?_ ?_
        · obtain ⟨_, _, _, _, _, hp, _⟩ := z
          exact hp.sq
        · rintro j x σ Hb Hc hj ⟨y6, y7, y8, rfl, smb, hpmb, iub, edb, tbb⟩ ⟨T2, x1, x2, rfl, hT2, rfl, e1, ex⟩
          obtain rfl := Option.some.inj e1
          obtain ⟨m, hm, imm⟩ := all_get iub ex
          have mmem := List.mem_of_getElem? hm
          obtain ⟨pp, u1, u2, rfl, hpp, iu1, iu2⟩ := im_pair imm
          obtain rfl := iu1.str_inv
          obtain ⟨pf, fs, rfl, hpf, ifs⟩ := iu2.tuple_inv
          have efs := im_strs ifs
          have l4 := (ok.mkk _ kmem _ mmem).2
          have sT2 := same_new (o := .tup [.int (j : Nat), .ref pp]) hT2
          refine ⟨T2, _, rfl, .of upd_same, rfl, .int (j : Nat), _, rfl, .ref pp, _, rfl, pp, _, rfl, (hpp.mono (tk_same sT2)).sq, rfl, .str m.1, _, rfl, .ref pf, _, rfl, rfl, rfl, ?_⟩
          have hpf2 := hpf.mono (tk_same sT2)
          have smc := smb.trans sT2
          have edc := sT2 _ _ edb
          have tbc := tbb.same sT2
          have hpmc := hpmb.mono (tk_same sT2)
          have iuc := ImAll.mono (tk_same sT2) _ iub
          generalize upd Hb T2 (.tup [.int (j : Nat), .ref pp]) = H4 at *
          refine ⟨.int (i : Nat), rfl, .int (j : Nat), rfl, .ref pf, rfl, pf, rfl, ⟨_, hpf2.sq⟩, fun D hD => ?_⟩
          refine lc_all (walk_tup (xs := fs)) (fun t Hx => Same H4 Hx ∧ Hx D = some (.lst (((m.2.take t).map (placeOf (ks.map (·.1)))).map V.int))) ⟨same_new hD, upd_same⟩ (fun t Hx _ z => (hpf2.mono (tk_same z.1)).sq) (fun t x Hx Hy ht z y => ?_) (fun Hx z => ?_)
          · obtain ⟨s5, eD⟩ := z
            obtain ⟨rfl, hxt⟩ := y
            rw [efs] at hxt ht
            rw [List.length_map] at ht
            rw [List.getElem?_map] at hxt
            obtain ⟨f, hf, rfl⟩ := Option.map_eq_some_iff.mp hxt
            have ed5 := s5 _ _ edc
            refine ⟨rfl, .ref d0, rfl, d0, rfl, .inl ⟨_, .inl ed5⟩, .str f, rfl, _, .k (k := Sum.inr f) ed5, ?_⟩
            have pg := places_get ok.nd f
            rw [ln] at pg
            rw [pg]
            refine ⟨_, eD, small1000 (by rw [List.length_map, List.length_map, List.length_take]; omega), fun b o e => ?_, ?_⟩
            · rw [upd_ne (ne_of_none e hD)]; exact s5 _ _ e
            · rw [upd_same, List.take_add_one, hf, List.map_append, List.map_append]; rfl
          · obtain ⟨s5, eD⟩ := z
            rw [efs, List.length_map, List.take_of_length_le (Nat.le_refl _)] at eD
            refine ⟨D, _, rfl, .inl ⟨.of eD, fun l hl => ⟨by show 3 ≤ sizeLine; decide, fun T3 hT3 => ?_⟩⟩⟩
            have s6 := same_new (o := .tup ((m.2.map (placeOf (ks.map (·.1)))).map V.int)) hl
            have il : Im K (upd Hx l (.tup ((m.2.map (placeOf (ks.map (·.1)))).map V.int))) (.ref l) (.tuple ((m.2.map (placeOf (ks.map (·.1)))).map .int)) := .tup (.inl upd_same) (ints_im _)
            generalize upd Hx l (.tup ((m.2.map (placeOf (ks.map (·.1)))).map V.int)) = H6 at *
            have s7 := same_new (o := .tup [.int (i : Nat), .int (j : Nat), .ref l]) hT3
            have iT3 : Im K (upd H6 T3 (.tup [.int (i : Nat), .int (j : Nat), .ref l])) (.ref T3) (rowD (mkRow (ks.map (·.1)) i j m)) := .tup (.inl upd_same) (.cons (.int _) (.cons (.int _) (.cons (Im.mono (tk_same s7) _ il) .nil)))
            generalize upd H6 T3 (.tup [.int (i : Nat), .int (j : Nat), .ref l]) = H7 at *
            have s47 := (s5.trans s6).trans s7
            obtain ⟨kvs, ek, h1, h2⟩ := tbc.same s47
            have few2 := rows_few (fun k hk => (ok.mks k hk).2) i (by omega)
            have lk : kvs.length ≤ 100 := by
              have := congrArg List.length h1
              rw [List.length_map, List.length_map, List.length_append, List.length_take, kindRows_length] at this
              have := (ok.mks _ kmem).2
              omega
            refine ⟨.ref d2, rfl, .str m.1, rfl, d2, _, rfl, .k (k := Sum.inr m.1) ek (small1000 (by omega)), ?_⟩
            refine ⟨_, _, _, rfl, fun b o e => ?_, (hpmc.mono (tk_same s47)).mono (tk_dK ek), ImAll.mono ((tk_same s47).trans (tk_dK ek)) _ iuc, ?_, ?_⟩
            · rw [upd_ne (ne_of_none e hd20)]
              exact s47 _ _ (smc _ _ e)
            · rw [upd_ne n02]; exact s47 _ _ edc
            · rw [List.take_add_one, kindRows_at hm, ← List.append_assoc]
              exact TableAt.put (r := mkRow (ks.map (·.1)) i j m) ek h1 h2 (row_new ok.ndm hkd hm) iT3
        · rintro σ Hb ⟨y6, y7, y8, rfl, smb, hpmb, iub, edb, tbb⟩
          refine ⟨_, _, _, _, _, _, rfl, smb, edb, ?_⟩
          rw [rows_succ, show ks.getD i (noS, []) = kd by rw [List.getD_eq_getElem?_getD, hkd]; rfl]
          rw [lus, List.take_of_length_le (by rw [kindRows_length]; exact Nat.le_refl _)] at tbb
          exact tbb
      · rintro σ Ha ⟨y3, y4, y5, y6, y7, y8, rfl, sm, ed0, tb⟩
        rw [lx] at tb
        exact ⟨.ref d2, rfl, q d2 Ha sm hd20 tb⟩
end
end K63

set_option Elab.async false
set_option linter.all false
set_option maxRecDepth 100000
set_option exponentiation.threshold 20000
set_option pp.deepTerms false
set_option pp.deepTerms.threshold 8
namespace K63
open PySem PySem.Spec PyProof.Rows L2 Ly Mt
/-! ### judges of odd data -/
def jRow (d : PyData) (lo hi : Int) : Bool := match d with
  | .tuple ds => decide (lo ≤ (ds.length : Int)) && decide ((ds.length : Int) ≤ hi)
  | _ => false
def jWithin (d : PyData) (lo hi : Int) : Bool := match d with
  | .int i => decide (lo ≤ i) && decide (i ≤ hi)
  | _ => false
def nmB (z : Str) : Bool := decide (1 ≤ z.length) && decide (z.length ≤ 10) && !decide (z = "fun" ∨ z = "kind" ∨ z = "number") && !((z.cps[0]?).map digC).getD false && z.cps.toList.all (fun c => lowC c || highC c || digC c)
def jName : PyData → Bool
  | .str z => nmB z
  | _ => false
def hdB (p : Nat → Bool) (z : Str) : Bool := ((z.cps[0]?).map p).getD false
def jLow : PyData → Bool
  | .str z => nmB z && hdB lowC z
  | _ => false
def jHigh : PyData → Bool
  | .str z => nmB z && hdB highC z
  | _ => false
def jVec (d : PyData) (n : Int) : Bool := match d with
  | .tuple ds => jRow d n n && ds.all jRatio
  | _ => false
theorem jRow_no {d : PyData} (h : jTup d = false) (lo hi : Int) : jRow d lo hi = false := by
  cases d <;> first | rfl | cases h
theorem jPair_no {d : PyData} (h : jTup d = false) : jPair d = false := by
  cases d <;> first | rfl | cases h
theorem _root_.Ly.Od.tup_or {K : PySem.W.Frag} {S : Addr → Prop} {H : Hp} {v : V} {d : PyData} (h : Od K S H v d) : (∃ a xs ds, v = .ref a ∧ d = .tuple ds ∧ ITup K H a xs ∧ OdAll K S H xs ds) ∨ jTup d = false := by
  cases h with
  | tup e r => exact .inl ⟨_, _, _, rfl, rfl, e, r⟩
  | _ => exact .inr rfl
theorem _root_.Ly.Od.str_or {K : PySem.W.Frag} {S : Addr → Prop} {H : Hp} {v : V} {d : PyData} (h : Od K S H v d) : (∃ z, v = .str z ∧ d = .str z ∧ z.length ≤ 100000) ∨ jStr d = false := by
  cases h with
  | str z l => exact .inl ⟨_, rfl, rfl, l⟩
  | _ => exact .inr rfl
theorem _root_.Ly.Od.int_or {K : PySem.W.Frag} {S : Addr → Prop} {H : Hp} {v : V} {d : PyData} (h : Od K S H v d) : (∃ i, v = .int i ∧ d = .int i ∧ SmI i) ∨ jInt d = false := by
  cases h with
  | int i l => exact .inl ⟨_, rfl, rfl, l⟩
  | _ => exact .inr rfl
theorem jName_no {d : PyData} (h : jStr d = false) : jName d = false := by cases d <;> first | rfl | cases h
theorem jLow_no {d : PyData} (h : jName d = false) : jLow d = false := by
  cases d <;> first | rfl | (show (nmB _ && _) = false; rw [show nmB _ = false from h]; rfl)
theorem jHigh_no {d : PyData} (h : jName d = false) : jHigh d = false := by
  cases d <;> first | rfl | (show (nmB _ && _) = false; rw [show nmB _ = false from h]; rfl)
theorem jWithin_no {d : PyData} (h : jInt d = false) (lo hi : Int) : jWithin d lo hi = false := by cases d <;> first | rfl | cases h
theorem jRatio_no {d : PyData} (h : jPair d = false) : jRatio d = false := by
  cases d with
  | tuple ds =>
    have h2 : ¬ ds.length = 2 := of_decide_eq_false h
    match ds, h2 with
    | [], _ => rfl
    | [x], _ => cases x <;> rfl
    | [_, _], h => exact absurd rfl h
    | x :: y :: _ :: _, _ => cases x <;> first | rfl | (cases y <;> rfl)
  | _ => rfl
/-- a judge's answers, one by one, in the list at D -/
theorem bools_snoc {D : Addr} {H H2 : Hp} {α : Type} {j : α → Bool} {ds : List α} {i : Nat} {d : α} (sm : Same H H2) (hD : H D = none) (eD : H2 D = some (.lst (((ds.take i).map j).map V.bl))) (hd : ds[i]? = some d) :
    Same H (upd H2 D (.lst ((((ds.take i).map j).map V.bl) ++ [.bl (j d)]))) ∧ (upd H2 D (.lst ((((ds.take i).map j).map V.bl) ++ [.bl (j d)]))) D = some (.lst (((ds.take (i + 1)).map j).map V.bl)) := by
  refine ⟨fun b o e => ?_, ?_⟩
  · rw [upd_ne (ne_of_none e hD)]; exact sm _ _ e
  · rw [upd_same, List.take_add_one, hd, List.map_append, List.map_append]; rfl
theorem all_map {α : Type} (j : α → Bool) (ds : List α) : ((ds.map j).all id) = ds.all j := by
  rw [List.all_map]; rfl
theorem dec_le (i j : Int) : (decide (V.int i = V.int j)) = decide (i = j) := decide_eq_decide.mpr ⟨fun h => V.int.inj h, fun h => by rw [h]⟩
section
variable {P : Program} {w : World} {K : PySem.W.Frag} {mg : Str → Option Value} {base : Heap}
abbrev s_is_int : Stmt := topS 10
theorem sc_is_int : FnScope ["thing"] ["thing"] (defScope s_is_int) := ⟨rfl, rfl, rfl, by decide +kernel, rfl, by decide +kernel, by decide +kernel⟩
def so_is_int (K : PySem.W.Frag) : Sp := fun vs H Q _ => ∃ S v d, vs = [v] ∧ Od K S H v d ∧ Q (.bl (jInt d)) H
theorem ok_is_int {f : Addr} {fd : FuncData} {k : Nat} (F : Fun K "is_int" "is_int" s_is_int f fd) (T : Tx K mg) : FnOk P w K mg base CX0 (k + 1) f fd ["thing"] (so_is_int K) := by
  have nd := sc_is_int.nd
  refine F.ok sc_is_int (fun vs H Q E h => ?_) (fun cdv A outer s H vs Q E hr h => ?_)
  · obtain ⟨_, _, _, rfl, _⟩ := h
    rfl
  · obtain ⟨S, v, d, rfl, hd, q⟩ := h
    refine ⟨_, (pss_one (ps_ret (pe_and (pe_callB (kcall_isi K) (by rfl) T.m_isinstance (by decide +kernel) (pa_cons (pv 0) (pa_cons (pe_bltn (v := .ty "int") (u := .type "int") (by rfl) T.m_int (by decide +kernel) rfl) pa_nil))) (pe_one (pe_not (pe_callB (kcall_isi K) (by rfl) T.m_isinstance (by decide +kernel) (pa_cons (pv 0) (pa_cons (pe_bltn (v := .ty "bool") (u := .type "bool") (by rfl) T.m_bool (by decide +kernel) rfl) pa_nil)))))))), ?_⟩
    refine ⟨v, rfl, v, _, .type (tyName d), _, jIntB d, rfl, .ty _, od_ty hd, kit_ty (kit_int d), jIntB d, rfl, ?_⟩
    rw [jInt_as] at q
    cases h1 : jIntB d with
    | false => rw [h1] at q; exact iteF q
    | true =>
      rw [h1] at q
      exact iteT ⟨v, rfl, v, _, .type (tyName d), _, jBool d, rfl, .ty _, od_ty hd, kit_ty (kit_bool d), jBool d, rfl, q⟩
abbrev s_is_pair : Stmt := topS 11
theorem sc_is_pair : FnScope ["thing"] ["thing"] (defScope s_is_pair) := ⟨rfl, rfl, rfl, by decide +kernel, rfl, by decide +kernel, by decide +kernel⟩
def so_is_pair (K : PySem.W.Frag) : Sp := fun vs H Q _ => ∃ S v d, vs = [v] ∧ Od K S H v d ∧ Q (.bl (jPair d)) H
theorem ok_is_pair {f : Addr} {fd : FuncData} {k : Nat} (F : Fun K "is_pair" "is_pair" s_is_pair f fd) (T : Tx K mg) : FnOk P w K mg base CX0 (k + 1) f fd ["thing"] (so_is_pair K) := by
  have nd := sc_is_pair.nd
  refine F.ok sc_is_pair (fun vs H Q E h => ?_) (fun cdv A outer s H vs Q E hr h => ?_)
  · obtain ⟨_, _, _, rfl, _⟩ := h
    rfl
  · obtain ⟨S, v, d, rfl, hd, q⟩ := h
    refine ⟨_, (pss_one (ps_ret (pe_and (pe_callB (kcall_isi K) (by rfl) T.m_isinstance (by decide +kernel) (pa_cons (pv 0) (pa_cons (pe_bltn (v := .ty "tuple") (u := .type "tuple") (by rfl) T.m_tuple (by decide +kernel) rfl) pa_nil))) (pe_one (pe_cmpR op_eq (pe_callB (kcall_len K) (by rfl) T.m_len PySem.boot_len (pa_cons (pv 0) pa_nil)) pe_int (nomark _)))))), ?_⟩
    refine ⟨v, rfl, v, _, .type (tyName d), _, jTup d, rfl, .ty _, od_ty hd, kit_ty (kit_tup d), jTup d, rfl, ?_⟩
    rcases hd.tup_or with ⟨a, xs, ds, rfl, rfl, ha, hx⟩ | n
    · have l := hx.len
      refine iteT ⟨.ref a, rfl, a, xs, rfl, .inr ha.sq, rfl, ?_⟩
      have e : decide (V.int (xs.length : Nat) = V.int 2) = jPair (.tuple ds) := by
        show _ = decide (ds.length = 2)
        rw [dec_le]
        exact decide_eq_decide.mpr ⟨fun h => by omega, fun h => by omega⟩
      rw [e]
      exact q
    · rw [n]
      rw [jPair_no n] at q
      exact iteF q
abbrev s_is_row : Stmt := topS 12
theorem sc_is_row : FnScope ["thing", "low", "high"] ["thing", "low", "high"] (defScope s_is_row) := ⟨rfl, rfl, rfl, by decide +kernel, rfl, by decide +kernel, by decide +kernel⟩
def so_is_row (K : PySem.W.Frag) : Sp := fun vs H Q _ => ∃ S v d lo hi, vs = [v, .int lo, .int hi] ∧ Od K S H v d ∧ Q (.bl (jRow d lo hi)) H
theorem ok_is_row {f : Addr} {fd : FuncData} {k : Nat} (F : Fun K "is_row" "is_row" s_is_row f fd) (T : Tx K mg) : FnOk P w K mg base CX0 (k + 1) f fd ["thing", "low", "high"] (so_is_row K) := by
  have nd := sc_is_row.nd
  refine F.ok sc_is_row (fun vs H Q E h => ?_) (fun cdv A outer s H vs Q E hr h => ?_)
  · obtain ⟨_, _, _, _, _, rfl, _⟩ := h
    rfl
  · obtain ⟨S, v, d, lo, hi, rfl, hd, q⟩ := h
    refine ⟨_, (pss_one (ps_ret (pe_and (pe_callB (kcall_isi K) (by rfl) T.m_isinstance (by decide +kernel) (pa_cons (pv 0) (pa_cons (pe_bltn (v := .ty "tuple") (u := .type "tuple") (by rfl) T.m_tuple (by decide +kernel) rfl) pa_nil))) (pe_one (pe_chain op_le op_le (pv 1) (pe_callB (kcall_len K) (by rfl) T.m_len PySem.boot_len (pa_cons (pv 0) pa_nil)) (pv 2)))))), ?_⟩
    refine ⟨v, rfl, v, _, .type (tyName d), _, jTup d, rfl, .ty _, od_ty hd, kit_ty (kit_tup d), jTup d, rfl, ?_⟩
    rcases hd.tup_or with ⟨a, xs, ds, rfl, rfl, ha, hx⟩ | n
    · have l := hx.len
      refine iteT ⟨.int lo, rfl, .ref a, rfl, a, xs, rfl, .inr ha.sq, _, _, rfl, rfl, _, rfl, ?_⟩
      rw [l]
      by_cases h1 : lo ≤ (ds.length : Int)
      · rw [decide_eq_true h1]
        refine iteT ⟨.int hi, rfl, _, _, rfl, rfl, ?_⟩
        dsimp only
        have e : jRow (.tuple ds) lo hi = decide ((ds.length : Int) ≤ hi) := by
          show (decide _ && _) = _
          rw [decide_eq_true h1]; rfl
        rw [e] at q
        exact q
      · rw [decide_eq_false h1]
        have e : jRow (.tuple ds) lo hi = false := by
          show (decide _ && _) = _
          rw [decide_eq_false h1]; rfl
        rw [e] at q
        exact iteF q
    · rw [n]
      rw [jRow_no n] at q
      exact iteF q
abbrev s_is_name : Stmt := topS 13
theorem sc_is_name : FnScope ["thing", "sign"] ["thing"] (defScope s_is_name) := ⟨rfl, rfl, rfl, by decide +kernel, rfl, by decide +kernel, by decide +kernel⟩
def so_is_name (K : PySem.W.Frag) : Sp := fun vs H Q _ => ∃ S v d, vs = [v] ∧ Od K S H v d ∧ ∀ H', Same H H' → Q (.bl (jName d)) H'
theorem ok_is_name {f : Addr} {fd : FuncData} {k : Nat} (F : Fun K "is_name" "is_name" s_is_name f fd) (T : Tx K mg) : FnOk P w K mg base CX0 (k + 1) f fd ["thing"] (so_is_name K) := by
  have nd := sc_is_name.nd
  obtain ⟨akw, g_KEYWORDS0, ikw⟩ := T.kws
  have g_KEYWORDS : ∃ u, mg "KEYWORDS" = some u ∧ L2.RelV (.ref akw) u := ⟨_, g_KEYWORDS0, rfl⟩
  refine F.ok sc_is_name (fun vs H Q E h => ?_) (fun cdv A outer s H vs Q E hr h => ?_)
  · obtain ⟨_, _, _, rfl, _⟩ := h
    rfl
  · obtain ⟨S, v, d, rfl, hd, q⟩ := h
    refine ⟨_, (pss_cons (ps_if (PW.pt (pw_or (pt_not (pt_val (pe_callB (kcall_isi K) (by rfl) T.m_isinstance (by decide +kernel) (pa_cons (pv 0) (pa_cons (pe_bltn (v := .ty "str") (u := .type "str") (by rfl) T.m_str (by decide +kernel) rfl) pa_nil))))) (pw_or1 (pt_not (pt_chain op_le op_le pe_int (pe_callB call_len_str (by rfl) T.m_len PySem.boot_len (pa_cons (pv 0) pa_nil)) (pe_gv rfl T.g_LONGEST))))))
        (pss_one (ps_ret pe_bl))
        pss_nil)
      (pss_cons (ps_if (PW.pt (pw_or (pt_cmpR op_in_seq (pv 0) (pe_gv rfl g_KEYWORDS) (by rfl)) (pw_or1 (pt_cmpR op_in_sign (pe_ix ix_str (pv 0) pe_int (fun _ _ => rfl)) (pe_gv rfl T.g_DIGITS) (by rfl)))))
        (pss_one (ps_ret pe_bl))
        pss_nil)
      (pss_one (ps_ret (pe_callB (kcr_all K) (by rfl) T.m_all (by decide +kernel) (pa_cons (pe_lc (own := [("sign", 1)]) (g := gName 1) (tt := tYes) rfl nd (pi_str (pv 0)) (blkOk_by (by rfl)) (fun _ _ _ _ _ => (pg_name (i := 1) nd rfl (.inl rfl))) (fun _ _ _ _ _ => pts_nil) (fun _ _ _ _ _ => (pe_or (pe_cmpR op_in_sign (pv 1) (pe_gv rfl T.g_LOW) (by rfl)) (pe_or (pe_cmpR op_in_sign (pv 1) (pe_gv rfl T.g_HIGH) (by rfl)) (pe_one (pe_cmpR op_in_sign (pv 1) (pe_gv rfl T.g_DIGITS) (by rfl))))))) pa_nil)))))), ?_⟩
    refine ⟨v, rfl, v, _, .type (tyName d), _, jStr d, rfl, .ty _, od_ty hd, kit_ty (kit_str d), jStr d, rfl, ?_⟩
    rcases hd.str_or with ⟨z, rfl, rfl, lz⟩ | n
    rotate_left
    · rw [n]
      have := q H (Same.refl H)
      rw [jName_no n] at this
      exact iteT this
    have sz : z.length ≤ sizeLine := Nat.le_trans lz (by decide)
    have q0 : nmB z = false → Q (.bl false) H := fun e => by
      have := q H (Same.refl H)
      rw [show jName (.str z) = false from e] at this
      exact this
    refine iteF ⟨.str z, rfl, z, rfl, sz, _, _, rfl, rfl, _, rfl, ?_⟩
    by_cases l1 : 1 ≤ z.length
    rotate_left
    · rw [decide_eq_false (show ¬ (1 : Int) ≤ (z.length : Int) by omega)]
      have q1 := q0 (by unfold nmB; rw [decide_eq_false l1]; rfl)
      exact iteF ⟨false, rfl, iteT q1⟩
    rw [decide_eq_true (show (1 : Int) ≤ (z.length : Int) by omega)]
    refine iteT ⟨_, _, rfl, rfl, _, rfl, ?_⟩
    by_cases l2 : z.length ≤ 10
    rotate_left
    · rw [decide_eq_false (show ¬ (z.length : Int) ≤ 10 by omega)]
      exact iteT (q0 (by unfold nmB; rw [decide_eq_false l2, decide_eq_true l1]; rfl))
    rw [decide_eq_true (show (z.length : Int) ≤ 10 by omega)]
    refine iteF ⟨.str z, rfl, akw, [.str "fun", .str "kind", .str "number"], rfl, .inr (ikw H).sq, rfl, rfl, _, rfl, ?_⟩
    have hk : inV (V.str z) [.str "fun", .str "kind", .str "number"] = decide (z = "fun" ∨ z = "kind" ∨ z = "number") := by
      have e : ∀ x y : Str, eqV (V.str x) (V.str y) = decide (x = y) := fun x y => by
        by_cases h : x = y
        · subst h; simp [eqV]
        · simp [eqV, h]
      show (eqV (V.str "fun") (V.str z) || (eqV (V.str "kind") (V.str z) || (eqV (V.str "number") (V.str z) || false))) = _
      rw [e, e, e, Bool.or_false, ← Bool.decide_or, ← Bool.decide_or]
      exact decide_eq_decide.mpr ⟨fun h => by rcases h with h | h | h; exact .inl h.symm; exact .inr (.inl h.symm); exact .inr (.inr h.symm), fun h => by rcases h with h | h | h; exact .inl h.symm; exact .inr (.inl h.symm); exact .inr (.inr h.symm)⟩
    rw [hk]
    by_cases kw : z = "fun" ∨ z = "kind" ∨ z = "number"
    · rw [decide_eq_true kw]
      exact iteT (q0 (by unfold nmB; rw [decide_eq_true kw, Bool.not_true, Bool.and_false]; rfl))
    rw [decide_eq_false kw]
    obtain ⟨c0, h0⟩ : ∃ c0, z.cps[0]? = some c0 := ⟨z.cps[0]'(show 0 < z.length by omega), Array.getElem?_eq_getElem _⟩
    refine iteF ⟨.str z, rfl, z, 0, c0, rfl, rfl, sz, atI_nat (j := 0) (by rw [Array.getElem?_toList]; exact h0), c0, digs, rfl, rfl, _, rfl, ?_⟩
    have en : nmB z = (!digC c0 && z.cps.toList.all (fun c => lowC c || highC c || digC c)) := by
      unfold nmB
      rw [decide_eq_true l1, decide_eq_true l2, decide_eq_false kw, h0]
      rfl
    cases hdg : digC c0 with
    | true =>
      rw [show decide (c0 ∈ digs.cps.toList) = true from hdg]
      exact iteT (q0 (by rw [en, hdg]; rfl))
    | false =>
      rw [show decide (c0 ∈ digs.cps.toList) = false from hdg]
      rw [hdg] at en
      refine iteF ⟨.str z, rfl, z, rfl, fun D2 hD => ?_⟩
      refine lc_all (walk_str (z := z)) (fun i H2 => Same H H2 ∧ H2 D2 = some (.lst (((z.cps.toList.take i).map fun c => lowC c || highC c || digC c).map V.bl))) ⟨same_new hD, upd_same⟩ (fun _ _ _ _ => trivial) (fun i x H2 H3 hi zz y => ?_) (fun H2 zz => ?_)
      · obtain ⟨sm, eD⟩ := zz
        obtain ⟨rfl, c, hc, rfl⟩ := y
        have hc' : z.cps.toList[i]? = some c := by rw [Array.getElem?_toList]; exact hc
        have fin := bools_snoc sm hD eD hc'
        have la : (((z.cps.toList.take i).map fun c => lowC c || highC c || digC c).map V.bl).length < sizeLine := by
          rw [List.length_map, List.length_map, List.length_take, Array.length_toList]
          exact small1000 (by have h2 : z.length = z.cps.size := rfl; omega)
        refine ⟨rfl, .str ⟨#[c]⟩, rfl, c, lows, rfl, rfl, _, rfl, ?_⟩
        cases h1 : lowC c with
        | true =>
          rw [show decide (c ∈ lows.cps.toList) = true from h1]
          have e : (lowC c || highC c || digC c) = true := by rw [h1]; rfl
          rw [e] at fin
          exact iteT ⟨_, eD, la, fin⟩
        | false =>
          rw [show decide (c ∈ lows.cps.toList) = false from h1]
          refine iteF ⟨.str ⟨#[c]⟩, rfl, c, highs, rfl, rfl, _, rfl, ?_⟩
          cases h2 : highC c with
          | true =>
            rw [show decide (c ∈ highs.cps.toList) = true from h2]
            have e : (lowC c || highC c || digC c) = true := by rw [h1, h2]; rfl
            rw [e] at fin
            exact iteT ⟨_, eD, la, fin⟩
          | false =>
            rw [show decide (c ∈ highs.cps.toList) = false from h2]
            refine iteF ⟨.str ⟨#[c]⟩, rfl, c, digs, rfl, rfl, ?_⟩
            have e : (lowC c || highC c || digC c) = decide (c ∈ digs.cps.toList) := by rw [h1, h2]; rfl
            rw [e] at fin
            exact ⟨_, eD, la, fin⟩
      · obtain ⟨sm, eD⟩ := zz
        rw [List.take_of_length_le (by rw [Array.length_toList]; exact Nat.le_refl _)] at eD
        refine ⟨D2, _, rfl, .of eD, ?_⟩
        rw [all_map]
        have := q _ sm
        rw [show jName (.str z) = nmB z from rfl, en] at this
        exact this
abbrev s_is_high : Stmt := topS 14
theorem sc_is_high : FnScope ["thing"] ["thing"] (defScope s_is_high) := ⟨rfl, rfl, rfl, by decide +kernel, rfl, by decide +kernel, by decide +kernel⟩
def so_is_high (K : PySem.W.Frag) : Sp := fun vs H Q _ => ∃ S v d, vs = [v] ∧ Od K S H v d ∧ ∀ H', Same H H' → Q (.bl (jHigh d)) H'
theorem ok_is_high {f : Addr} {fd : FuncData} {k : Nat} (F : Fun K "is_high" "is_high" s_is_high f fd) (T : Tx K mg){ki : Nat} (D_is_name : Def P w K mg base ki "is_name" s_is_name ["thing"] (so_is_name K)) (hk : ki ≤ k) : FnOk P w K mg base CX0 (k + 1) f fd ["thing"] (so_is_high K) := by
  have nd := sc_is_high.nd
  refine F.ok sc_is_high (fun vs H Q E h => ?_) (fun cdv A outer s H vs Q E hr h => ?_)
  · obtain ⟨_, _, _, rfl, _⟩ := h
    rfl
  · obtain ⟨S, v, d, rfl, hd, q⟩ := h
    refine ⟨_, (pss_one (ps_ret (pe_and (pe_def D_is_name (hr.mono (by omega)) rfl (pa_cons (pv 0) pa_nil)) (pe_one (pe_cmpR op_in_sign (pe_ix ix_str (pv 0) pe_int (fun _ _ => rfl)) (pe_gv rfl T.g_HIGH) (by rfl)))))), ?_⟩
    refine ⟨v, rfl, S, v, d, rfl, hd, fun H' sm => ⟨jName d, rfl, ?_⟩⟩
    cases hn : jName d with
    | false =>
      have := q H' sm
      rw [jHigh_no hn] at this
      exact iteF this
    | true =>
      rcases hd.str_or with ⟨z, rfl, rfl, lz⟩ | n
      · have hz : nmB z = true := hn
        have l1 : 1 ≤ z.length := by
          unfold nmB at hz
          simp only [Bool.and_eq_true, decide_eq_true_eq] at hz
          exact hz.1.1.1.1
        obtain ⟨c0, h0⟩ : ∃ c0, z.cps[0]? = some c0 := ⟨z.cps[0]'(show 0 < z.length by omega), Array.getElem?_eq_getElem _⟩
        refine iteT ⟨.str z, rfl, z, 0, c0, rfl, rfl, Nat.le_trans lz (by decide), atI_nat (j := 0) (by rw [Array.getElem?_toList]; exact h0), c0, highs, rfl, rfl, ?_⟩
        have e : jHigh (.str z) = decide (c0 ∈ highs.cps.toList) := by
          show (nmB z && hdB highC z) = _
          unfold hdB
          rw [hz, h0]; rfl
        have := q H' sm
        rw [e] at this
        exact this
      · rw [jName_no n] at hn
        cases hn
abbrev s_all_unlike : Stmt := topS 15
theorem sc_all_unlike : FnScope ["names"] ["names"] (defScope s_all_unlike) := ⟨rfl, rfl, rfl, by decide +kernel, rfl, by decide +kernel, by decide +kernel⟩
def so_unlike (K : PySem.W.Frag) : Sp := fun vs H Q _ => ∃ (a : Addr) (ys : List Str), vs = [.ref a] ∧ H a = some (.lst (ys.map V.str)) ∧ ys.length ≤ 1000 ∧ Q (.bl (decide ys.Nodup)) H
theorem ok_all_unlike {f : Addr} {fd : FuncData} {k : Nat} (F : Fun K "all_unlike" "all_unlike" s_all_unlike f fd) (T : Tx K mg) : FnOk P w K mg base CX0 (k + 1) f fd ["names"] (so_unlike K) := by
  have nd := sc_all_unlike.nd
  refine F.ok sc_all_unlike (fun vs H Q E h => ?_) (fun cdv A outer s H vs Q E hr h => ?_)
  · obtain ⟨_, _, rfl, _⟩ := h
    rfl
  · obtain ⟨a, ys, rfl, ea, few, q⟩ := h
    refine ⟨_, (pss_one (ps_ret (pe_cmpR op_eq (pe_lenSetG K rfl T.m_len rfl T.m_set (pv 0)) (pe_callB (kcall_len K) (by rfl) T.m_len PySem.boot_len (pa_cons (pv 0) pa_nil)) (nomark _)))), ?_⟩
    refine ⟨.ref a, rfl, a, ys, rfl, .of ea, few, .ref a, rfl, a, _, rfl, .inl (.of ea), rfl, ?_⟩
    rw [List.length_map, dec_le, dist_all]
    exact q
end
end K63

set_option Elab.async false
set_option linter.all false
set_option maxRecDepth 100000
set_option exponentiation.threshold 20000
set_option pp.deepTerms false
set_option pp.deepTerms.threshold 8
namespace K63
open PySem PySem.Spec PyProof.Rows L2 Ly Mt
/-! ### kinds, judged -/
def its : PyData → List PyData
  | .tuple ds => ds
  | _ => []
def p0 : PyData → PyData
  | .tuple (a :: _) => a
  | _ => .none
def p1 : PyData → PyData
  | .tuple (_ :: b :: _) => b
  | _ => .none
def p2 : PyData → PyData
  | .tuple (_ :: _ :: c :: _) => c
  | _ => .none
def stO : PyData → Str
  | .str z => z
  | _ => Str.empty
def jMk0 (m : PyData) : Bool := jPair m && (jHigh (p0 m) && jRow (p1 m) 0 4)
def jKd1 (k : PyData) : Bool := jPair k && (jHigh (p0 k) && jRow (p1 k) 1 6)
def jKd0 (k : PyData) : Bool := jKd1 k && (its (p1 k)).all jMk0
def nmsD (d : PyData) : List Str := (its d).map fun k => stO (p0 k)
def mksD (d : PyData) : List PyData := (its d).flatMap fun k => its (p1 k)
def jFld (ns : List Str) : PyData → Bool
  | .str z => decide (z = "number") || decide (z ∈ ns)
  | _ => false
def jMk2 (ns : List Str) (m : PyData) : Bool := (its (p1 m)).all (jFld ns)
def jKinds (d : PyData) : Bool := jRow d 1 6 && ((its d).all jKd0 && (decide (nmsD d).Nodup && (decide ((mksD d).map fun m => stO (p0 m)).Nodup && (mksD d).all (jMk2 (nmsD d)))))
theorem all_no {α : Type} {l : List α} {f : α → Bool} {i : Nat} {x : α} (h : l[i]? = some x) (e : f x = false) : l.all f = false := by
  rw [List.all_eq_false]
  exact ⟨x, List.mem_of_getElem? h, by rw [e]; exact Bool.false_ne_true⟩
theorem all_get' {α : Type} {l : List α} {f : α → Bool} (h : l.all f = true) {i : Nat} {x : α} (hx : l[i]? = some x) : f x = true := List.all_eq_true.mp h x (List.mem_of_getElem? hx)
theorem jFld_no {ns : List Str} {d : PyData} (h : jStr d = false) : jFld ns d = false := by cases d <;> first | rfl | cases h
theorem jHigh_str {d : PyData} (h : jHigh d = true) : ∃ z, d = .str z := by
  cases d <;> first | exact ⟨_, rfl⟩ | cases h
theorem jRow_tup {d : PyData} {lo hi : Int} (h : jRow d lo hi = true) : ∃ ds, d = .tuple ds ∧ lo ≤ (ds.length : Int) ∧ (ds.length : Int) ≤ hi := by
  cases d with
  | tuple ds =>
    refine ⟨ds, rfl, ?_⟩
    unfold jRow at h
    simpa only [Bool.and_eq_true, decide_eq_true_eq] using h
  | _ => cases h
theorem _root_.Ly.Od.pair {K : PySem.W.Frag} {S : Addr → Prop} {H : Hp} {v : V} {d : PyData} (h : Od K S H v d) (j : jPair d = true) : ∃ a x y, v = .ref a ∧ d = .tuple [p0 d, p1 d] ∧ ITup K H a [x, y] ∧ Od K S H x (p0 d) ∧ Od K S H y (p1 d) := by
  rcases h.tup_or with ⟨a, xs, ds, rfl, rfl, ha, hx⟩ | n
  · have h2 : ds.length = 2 := of_decide_eq_true j
    obtain ⟨d0, d1, rfl⟩ : ∃ d0 d1, ds = [d0, d1] := by
      match ds, h2 with
      | [x, y], _ => exact ⟨x, y, rfl⟩
    obtain ⟨v0, r, rfl, i0, hr0⟩ := hx.cons_inv
    obtain ⟨v1, r', rfl, i1, hr1⟩ := hr0.cons_inv
    obtain rfl := hr1.nil_inv
    exact ⟨a, v0, v1, rfl, rfl, ha, i0, i1⟩
  · rw [jPair_no n] at j
    cases j
mutual
theorem _root_.Ly.Od.here {K : PySem.W.Frag} {S : Addr → Prop} {H : Hp} : ∀ {v : V} {d : PyData}, Od K S H v d → Od K (fun a => S a ∧ H a ≠ none) H v d
  | _, _, .non => .non
  | _, _, .bl b => .bl b
  | _, _, .int i l => .int i l
  | _, _, .str x l => .str x l
  | _, _, .tup e r => .tup e (Ly.OdAll.here r)
  | _, _, .lst s b e r => .lst ⟨s, by rw [e]; exact Option.some_ne_none _⟩ b e (Ly.OdAll.here r)
  | _, _, .dic s e => .dic ⟨s, by rw [e]; exact Option.some_ne_none _⟩ e
theorem _root_.Ly.OdAll.here {K : PySem.W.Frag} {S : Addr → Prop} {H : Hp} : ∀ {vs : List V} {ds : List PyData}, OdAll K S H vs ds → OdAll K (fun a => S a ∧ H a ≠ none) H vs ds
  | _, _, .nil => .nil
  | _, _, .cons a r => .cons (Ly.Od.here a) (Ly.OdAll.here r)
end
theorem fo_lst {S : Addr → Prop} {H : Hp} {p : Addr} {xs : List V} {o : HO} (h : H p = some (.lst xs)) (n : ∀ a, S a → a ≠ p) : Fo S H (upd H p o) := ⟨tk_lst h, fun a u s e => by rw [upd_ne (n a s)]; exact e⟩
theorem mks_few {l : List PyData} (h : l.all jKd0 = true) : (l.flatMap fun k => its (p1 k)).length ≤ 6 * l.length := by
  induction l with
  | nil => exact Nat.le_refl _
  | cons k l ih =>
    rw [List.all_cons, Bool.and_eq_true] at h
    have := ih h.2
    have h1 := h.1
    unfold jKd0 jKd1 at h1
    simp only [Bool.and_eq_true] at h1
    obtain ⟨ds, e, _, l6⟩ := jRow_tup h1.1.2.2
    rw [List.flatMap_cons, List.length_append, List.length_cons, e]
    show ds.length + _ ≤ _
    omega
section
variable {P : Program} {w : World} {K : PySem.W.Frag} {mg : Str → Option Value} {base : Heap}
abbrev s_is_kinds : Stmt := topS 20
theorem sc_is_kinds : FnScope ["thing", "names", "makers", "kind", "maker", "_", "fields", "name", "field"] ["thing"] (defScope s_is_kinds) := ⟨rfl, rfl, rfl, by decide +kernel, rfl, by decide +kernel, by decide +kernel⟩
def so_is_kinds (K : PySem.W.Frag) : Sp := fun vs H Q _ => ∃ S v d, vs = [v] ∧ Od K S H v d ∧ ∀ H', Same H H' → Q (.bl (jKinds d)) H'
set_option maxHeartbeats 2000000 in
theorem ok_is_kinds {f : Addr} {fd : FuncData} {k : Nat} (F : Fun K "is_kinds" "is_kinds" s_is_kinds f fd) (T : Tx K mg){k1 : Nat} (D_is_row : Def P w K mg base k1 "is_row" s_is_row ["thing", "low", "high"] (so_is_row K)) {k2 : Nat} (D_is_pair : Def P w K mg base k2 "is_pair" s_is_pair ["thing"] (so_is_pair K)) {k3 : Nat} (D_is_high : Def P w K mg base k3 "is_high" s_is_high ["thing"] (so_is_high K)) {k4 : Nat} (D_all_unlike : Def P w K mg base k4 "all_unlike" s_all_unlike ["names"] (so_unlike K)) (e1 : k1 ≤ k) (e2 : k2 ≤ k) (e3 : k3 ≤ k) (e4 : k4 ≤ k) : FnOk P w K mg base CX0 (k + 1) f fd ["thing"] (so_is_kinds K) := by
  have nd := sc_is_kinds.nd
  refine F.ok sc_is_kinds (fun vs H Q E h => ?_) (fun cdv A outer s H vs Q E hr h => ?_)
  · obtain ⟨_, _, _, rfl, _⟩ := h
    rfl
  · obtain ⟨S0, v, d, rfl, hd0, q⟩ := h
    obtain ⟨S, hd, hS⟩ : ∃ S, Od K S H v d ∧ ∀ a, S a → H a ≠ none := ⟨_, hd0.here, fun a z => z.2⟩
    have no : jKinds d = false → ∀ H', Same H H' → Q (.bl false) H' := fun e H' s => by
      have := q H' s
      rwa [e] at this
    refine ⟨_, (pss_cons (ps_if (pt_not (pt_val (pe_def D_is_row (hr.mono (by omega)) rfl (pa_cons (pv 0) (pa_cons pe_int (pa_cons pe_int pa_nil))))))
        (pss_one (ps_ret pe_bl))
        pss_nil)
      (pss_cons (ps_asg (pe_tup (pa_cons (pe_lst pa_nil) (pa_cons (pe_lst pa_nil) pa_nil))) (kpg_tup K (n := 2) rfl (pgs_cons (pg_name (i := 1) nd rfl (.inr rfl)) (pgs_cons (pg_name (i := 2) nd rfl (.inl rfl)) pgs_nil))))
      (pss_cons (ps_for PassesOwn.never rfl (kpi_tup K (pv 0)) (pg_name (i := 3) nd rfl (.inl rfl))
        (pss_cons (ps_if (PW.pt (pw_or (pt_not (pt_val (pe_def D_is_pair (hr.mono (by omega)) rfl (pa_cons (pv 3) pa_nil)))) (pw_or (pt_not (pt_val (pe_def D_is_high (hr.mono (by omega)) rfl (pa_cons (pe_ix (kix_tup K) (pv 3) pe_int (fun _ _ => rfl)) pa_nil)))) (pw_or1 (pt_not (pt_val (pe_def D_is_row (hr.mono (by omega)) rfl (pa_cons (pe_ix (kix_tup K) (pv 3) pe_int (fun _ _ => rfl)) (pa_cons pe_int (pa_cons pe_int pa_nil))))))))))
          (pss_one (ps_ret pe_bl))
          pss_nil)
        (pss_cons (ps_expr (pe_bm PySem.F.plainAttrs_list PySem.F.slot_list_append PySem.F.type_list_append mt_append (pv 1) (pa_cons (pe_ix (kix_tup K) (pv 3) pe_int (fun _ _ => rfl)) pa_nil)))
        (pss_one (ps_for PassesOwn.never rfl (kpi_tup K (pe_ix (kix_tup K) (pv 3) pe_int (fun _ _ => rfl))) (pg_name (i := 4) nd rfl (.inl rfl))
          (pss_cons (ps_if (PW.pt (pw_or (pt_not (pt_val (pe_def D_is_pair (hr.mono (by omega)) rfl (pa_cons (pv 4) pa_nil)))) (pw_or (pt_not (pt_val (pe_def D_is_high (hr.mono (by omega)) rfl (pa_cons (pe_ix (kix_tup K) (pv 4) pe_int (fun _ _ => rfl)) pa_nil)))) (pw_or1 (pt_not (pt_val (pe_def D_is_row (hr.mono (by omega)) rfl (pa_cons (pe_ix (kix_tup K) (pv 4) pe_int (fun _ _ => rfl)) (pa_cons pe_int (pa_cons pe_int pa_nil))))))))))
            (pss_one (ps_ret pe_bl))
            pss_nil)
          (pss_one (ps_expr (pe_bm PySem.F.plainAttrs_list PySem.F.slot_list_append PySem.F.type_list_append mt_append (pv 2) (pa_cons (pv 4) pa_nil))))))))))
      (pss_cons (ps_if (PW.pt (pw_or (pt_not (pt_val (pe_def D_all_unlike (hr.mono (by omega)) rfl (pa_cons (pv 1) pa_nil)))) (pw_or1 (pt_not (pt_val (pe_def D_all_unlike (hr.mono (by omega)) rfl (pa_cons (pe_lc (own := [("name", 7), ("_", 5)]) (g := _) (tt := tYes) rfl nd (kpi_list K (pv 2)) (blkOk_by (by rfl)) (fun _ _ _ _ _ => (kpg_tup K (n := 2) rfl (pgs_cons (pg_name (i := 7) nd rfl (.inl rfl)) (pgs_cons (pg_name (i := 5) nd rfl (.inl rfl)) pgs_nil)))) (fun _ _ _ _ _ => pts_nil) (fun _ _ _ _ _ => (pv 7))) pa_nil)))))))
        (pss_one (ps_ret pe_bl))
        pss_nil)
      (pss_cons (ps_for PassesOwn.never rfl (kpi_list K (pv 2)) (kpg_tup K (n := 2) rfl (pgs_cons (pg_name (i := 5) nd rfl (.inl rfl)) (pgs_cons (pg_name (i := 6) nd rfl (.inl rfl)) pgs_nil)))
        (pss_one (ps_if (pt_not (pt_val (pe_callB (kcr_all K) (by rfl) T.m_all (by decide +kernel) (pa_cons (pe_lc (own := [("field", 8)]) (g := gName 8) (tt := tYes) rfl nd (kpi_tup K (pv 6)) (blkOk_by (by rfl)) (fun _ _ _ _ _ => (pg_name (i := 8) nd rfl (.inl rfl))) (fun _ _ _ _ _ => pts_nil) (fun _ _ _ _ _ => (pe_and (pe_callB (kcall_isi K) (by rfl) T.m_isinstance (by decide +kernel) (pa_cons (pv 8) (pa_cons (pe_bltn (v := .ty "str") (u := .type "str") (by rfl) T.m_str (by decide +kernel) rfl) pa_nil))) (pe_one (pe_or (pe_cmpR op_eq (pv 8) pe_str (nomark _)) (pe_one (pe_cmpR (kop_inS K) (pv 8) (pv 1) (by rfl)))))))) pa_nil))))
          (pss_one (ps_ret pe_bl))
          pss_nil)))
      (pss_one (ps_ret pe_bl))))))), ?_⟩
    refine ⟨v, rfl, S, v, d, 1, 6, rfl, hd, jRow d 1 6, rfl, ?_⟩
    cases hrow : jRow d 1 6 with
    | false => exact iteT (no (by unfold jKinds; rw [hrow]; rfl) H (Same.refl H))
    | true =>
    obtain ⟨ds, rfl, _, l6⟩ := jRow_tup hrow
    obtain ⟨a, xs, rfl, ha, hx⟩ := hd.tuple_inv
    have lx : xs.length = ds.length := hx.len
    have noA : ds.all jKd0 = false → ∀ H', Same H H' → Q (.bl false) H' := fun e => no (by
      show (jRow _ 1 6 && (ds.all jKd0 && _)) = false
      rw [e, Bool.false_and, Bool.and_false])
    refine iteF ?_
    refine ⟨by show 0 ≤ sizeLine; decide, fun e1 he1 => ⟨by show 0 ≤ sizeLine; decide, fun e2 he2 => ⟨by show 2 ≤ sizeLine; decide, fun T hT => ?_⟩⟩⟩
    have s1 : Same H (upd H e1 (.lst [])) := same_new he1
    have ee1 : (upd H e1 (.lst [])) e1 = some (.lst []) := upd_same
    generalize upd H e1 (.lst []) = H1 at *
    have s2 : Same H1 (upd H1 e2 (.lst [])) := same_new he2
    have ee2 : (upd H1 e2 (.lst [])) e2 = some (.lst []) := upd_same
    have ee12 := s2 _ _ ee1
    have n12 : e1 ≠ e2 := ne_of_none ee1 he2
    have he20 : H e2 = none := s1.free he2
    generalize upd H1 e2 (.lst []) = H2 at *
    have s3 : Same H2 (upd H2 T (.tup [.ref e1, .ref e2])) := same_new hT
    have ee13 := s3 _ _ ee12
    have ee23 := s3 _ _ ee2
    have sH3 := (s1.trans s2).trans s3
    refine ⟨T, _, rfl, .of upd_same, rfl, .ref e1, _, rfl, .ref e2, _, rfl, rfl, ?_⟩
    generalize upd H2 T (.tup [.ref e1, .ref e2]) = H3 at *
    refine ⟨.ref a, rfl, a, rfl, ⟨_, (ha.mono (tk_same sH3)).sq⟩, ?_⟩
    -- heaps that differ at the two lists alone
    refine for_it (walk_tup (xs := xs)) (fun i σ Ha => ∃ (y3 y4 : Option V) (ws : List V), σ = [some (.ref a), some (.ref e1), some (.ref e2), y3, y4, none, none, none, none] ∧ Same H Ha ∧ Ha e1 = some (.lst (((ds.take i).map fun k => stO (p0 k)).map V.str)) ∧ Ha e2 = some (.lst ws) ∧ OdAll K S Ha ws ((ds.take i).flatMap fun k => its (p1 k)) ∧ (ds.take i).all jKd0 = true) ⟨_, _, [], rfl, sH3, ee13, ee23, .nil, rfl⟩ (fun i σ Ha _ z => ?_) ?_ ?_
    · obtain ⟨_, _, _, _, sm, _⟩ := z
      exact (ha.mono (tk_same sm)).sq
    · rintro i x σ Ha Hb hi ⟨y3, y4, ws, rfl, sm, m1, m2, om, al⟩ ⟨rfl, hxi⟩
      obtain ⟨kd, hkd, okd⟩ := (hx.mono (fo_same sm)).getV hxi
      have lk : (ds.take i).length = i := by rw [List.length_take]; omega
      have take1 : ds.take (i + 1) = ds.take i ++ [kd] := by rw [List.take_add_one, hkd]; rfl
      have no1 : jKd0 kd = false → ∀ H', Same Hb H' → Q (.bl false) H' := fun e H' s => noA (all_no hkd e) H' (sm.trans s)
      refine ⟨x, rfl, S, x, kd, rfl, okd, jPair kd, rfl, ?_⟩
      cases hp : jPair kd with
      | false => exact iteT (no1 (by unfold jKd0 jKd1; rw [hp]; rfl) _ (Same.refl _))
      | true =>
      obtain ⟨pk, u1, u2, rfl, ekd, hpk, ou1, ou2⟩ := okd.pair hp
      refine iteF ⟨.ref pk, rfl, pk, _, 0, _, rfl, rfl, hpk.sq, atI_nat (j := 0) rfl, S, u1, p0 kd, rfl, ou1, fun H4 s4 => ⟨jHigh (p0 kd), rfl, ?_⟩⟩
      cases hh : jHigh (p0 kd) with
      | false => exact iteT (no1 (by unfold jKd0 jKd1; rw [hp, hh]; rfl) _ s4)
      | true =>
      have hpk4 := hpk.mono (tk_same s4)
      refine iteF ⟨.ref pk, rfl, pk, _, 1, _, rfl, rfl, hpk4.sq, atI_nat (j := 1) rfl, S, u2, p1 kd, 1, 6, rfl, ou2.mono (fo_same s4), jRow (p1 kd) 1 6, rfl, ?_⟩
      cases hr2 : jRow (p1 kd) 1 6 with
      | false => exact iteT (no1 (by unfold jKd0 jKd1; rw [hp, hh, hr2]; rfl) _ s4)
      | true =>
      obtain ⟨ms, ems, _, m6⟩ := jRow_tup hr2
      obtain ⟨zk, ezk⟩ := jHigh_str hh
      rw [ems] at ou2
      rw [ezk] at ou1
      obtain rfl := ou1.str_inv
      obtain ⟨pm, us, rfl, hpm, hus⟩ := ou2.tuple_inv
      have lus : us.length = ms.length := hus.len
      have sm4 := sm.trans s4
      have m14 := s4 _ _ m1
      have m24 := s4 _ _ m2
      have om4 := om.mono (fo_same s4)
      have hus4 := hus.mono (fo_same s4)
      have hpm4 := hpm.mono (tk_same s4)
      have no2 : ms.all jMk0 = false → ∀ H', Same H H' → Q (.bl false) H' := fun e H' s => noA (all_no hkd (by unfold jKd0; rw [ems]; show (_ && ms.all jMk0) = false; rw [e, Bool.and_false])) H' s
      refine iteF ?_
      refine ⟨.ref e1, rfl, .inl ⟨rfl, _, .of m14⟩, .ref pk, rfl, pk, _, 0, _, rfl, rfl, hpk4.sq, atI_nat (j := 0) rfl, e1, _, _, rfl, rfl, m14, small1000 (by rw [List.length_map, List.length_map, lk]; omega), ?_⟩
      have hS1 : ∀ a, S a → a ≠ e1 := fun a z e => hS a z (by rw [e]; exact he1)
      have hS2 : ∀ a, S a → a ≠ e2 := fun a z e => hS a z (by rw [e]; exact he20)
      have m15 : (upd H4 e1 (.lst (((ds.take i).map fun k => stO (p0 k)).map V.str ++ [.str zk]))) e1 = some (.lst (((ds.take (i + 1)).map fun k => stO (p0 k)).map V.str)) := by
        rw [upd_same, take1, List.map_append, List.map_append]
        show _ = some (HO.lst (_ ++ [V.str (stO (p0 kd))]))
        rw [ezk]; rfl
      have fo5 : Fo S H4 (upd H4 e1 (.lst (((ds.take i).map fun k => stO (p0 k)).map V.str ++ [.str zk]))) := fo_lst m14 hS1
      have br5 : Bar' e1 H4 (upd H4 e1 (.lst (((ds.take i).map fun k => stO (p0 k)).map V.str ++ [.str zk]))) := fun b o n e => by rw [upd_ne n]; exact e
      have sm5 : Same H (upd H4 e1 (.lst (((ds.take i).map fun k => stO (p0 k)).map V.str ++ [.str zk]))) := fun b o e => br5 _ _ (ne_of_none e he1) (sm4 _ _ e)
      have m25 := br5 _ _ n12.symm m24
      have om5 := om4.mono fo5
      have hus5 := hus4.mono fo5
      have hpk5 := hpk4.mono fo5.1
      have hpm5 := hpm4.mono fo5.1
      generalize upd H4 e1 (.lst (((ds.take i).map fun k => stO (p0 k)).map V.str ++ [.str zk])) = H5 at *
      refine ⟨.ref pk, rfl, pk, _, 1, _, rfl, rfl, hpk5.sq, atI_nat (j := 1) rfl, pm, rfl, ⟨_, hpm5.sq⟩, ?_⟩
      have la := mks_few al
      rw [lk] at la
      refine for_it (walk_tup (xs := us)) (fun j σ Ha => ∃ (y4 : Option V) (ws : List V), σ = [some (.ref a), some (.ref e1), some (.ref e2), some (.ref pk), y4, none, none, none, none] ∧ Same H Ha ∧ ITup K Ha pm us ∧ OdAll K S Ha us ms ∧ Ha e1 = some (.lst (((ds.take (i + 1)).map fun k => stO (p0 k)).map V.str)) ∧ Ha e2 = some (.lst ws) ∧ OdAll K S Ha ws (((ds.take i).flatMap fun k => its (p1 k)) ++ ms.take j) ∧ (ms.take j).all jMk0 = true) ⟨y4, ws, rfl, sm5, hpm5, hus5, m15, m25, by rw [List.take_zero, List.append_nil]; exact om5, rfl⟩ (fun j σ Ha _ z => ?_) ?_ ?_
      · obtain ⟨_, _, _, _, hp, _⟩ := z
        exact hp.sq
      · rintro j x σ Hc Hd hj ⟨y4, ws, rfl, sm, hpm, ou, m1, m2, om, al2⟩ ⟨rfl, hxj⟩
        obtain ⟨m, hm, omm⟩ := ou.getV hxj
        have no3 : jMk0 m = false → ∀ H', Same Hd H' → Q (.bl false) H' := fun e H' s => no2 (all_no hm e) H' (sm.trans s)
        refine ⟨x, rfl, S, x, m, rfl, omm, jPair m, rfl, ?_⟩
        cases hp2 : jPair m with
        | false => exact iteT (no3 (by unfold jMk0; rw [hp2]; rfl) _ (Same.refl _))
        | true =>
        obtain ⟨pp, w1, w2, rfl, em, hpp, ow1, ow2⟩ := omm.pair hp2
        refine iteF ⟨.ref pp, rfl, pp, _, 0, _, rfl, rfl, hpp.sq, atI_nat (j := 0) rfl, S, w1, p0 m, rfl, ow1, fun H6 s6 => ⟨jHigh (p0 m), rfl, ?_⟩⟩
        cases hh2 : jHigh (p0 m) with
        | false => exact iteT (no3 (by unfold jMk0; rw [hp2, hh2]; rfl) _ s6)
        | true =>
        refine iteF ⟨.ref pp, rfl, pp, _, 1, _, rfl, rfl, (hpp.mono (tk_same s6)).sq, atI_nat (j := 1) rfl, S, w2, p1 m, 0, 4, rfl, ow2.mono (fo_same s6), jRow (p1 m) 0 4, rfl, ?_⟩
        cases hr3 : jRow (p1 m) 0 4 with
        | false => exact iteT (no3 (by unfold jMk0; rw [hp2, hh2, hr3]; rfl) _ s6)
        | true =>
        refine iteF ?_
        have m16 := s6 _ _ m1
        have m26 := s6 _ _ m2
        have lw : ws.length ≤ 42 := by
          rw [om.len, List.length_append, List.length_take]
          omega
        have fo7 : Fo S H6 (upd H6 e2 (.lst (ws ++ [.ref pp]))) := fo_lst m26 hS2
        have fo67 := (fo_same (S := S) s6).trans fo7
        refine ⟨.ref e2, rfl, .inl ⟨rfl, _, .of m26⟩, .ref pp, rfl, e2, ws, .ref pp, rfl, rfl, m26, small1000 (by omega), _, ws ++ [.ref pp], rfl, fun b o e => ?_, (hpm.mono (tk_same s6)).mono fo7.1, ou.mono fo67, ?_, upd_same, ?_, ?_⟩
        · rw [upd_ne (ne_of_none e he20)]
          exact s6 _ _ (sm _ _ e)
        · rw [upd_ne n12]; exact m16
        · rw [List.take_add_one, hm, ← List.append_assoc]
          exact (om.mono fo67).snoc (omm.mono fo67)
        · rw [List.take_add_one, hm, List.all_append, al2]
          show (true && (jMk0 m && true)) = true
          unfold jMk0
          rw [hp2, hh2, hr3]; rfl
      · rintro σ Hc ⟨y4, ws, rfl, sm, hpm, ou, m1, m2, om, al2⟩
        rw [lus, List.take_of_length_le (Nat.le_refl _)] at om al2
        refine ⟨_, y4, ws, rfl, sm, m1, m2, ?_, ?_⟩
        · rw [take1, List.flatMap_append, List.flatMap_cons, List.flatMap_nil, List.append_nil, ems]
          exact om
        · rw [take1, List.all_append, al]
          show (true && (jKd0 kd && true)) = true
          unfold jKd0 jKd1
          rw [hp, hh, hr2, ems]
          show ((true && (true && true)) && ms.all jMk0 && true) = true
          rw [al2]; rfl
    · rintro σ Ha ⟨y3, y4, ws, rfl, sm, m1, m2, om, al⟩
      rw [lx, List.take_of_length_le (Nat.le_refl _)] at m1 om al
      have la := mks_few al
      have lws := om.len
      have enm : (ds.map fun k => stO (p0 k)) = nmsD (.tuple ds) := rfl
      have emk : (ds.flatMap fun k => its (p1 k)) = mksD (.tuple ds) := rfl
      have ej : jKinds (.tuple ds) = (decide (nmsD (.tuple ds)).Nodup && (decide ((mksD (.tuple ds)).map fun m => stO (p0 m)).Nodup && (mksD (.tuple ds)).all (jMk2 (nmsD (.tuple ds))))) := by
        show (jRow _ 1 6 && (ds.all jKd0 && _)) = _
        rw [hrow, al]; rfl
      rw [enm] at m1
      rw [emk] at om la lws
      rw [ej] at q no
      have mk0 : ∀ (j : Nat) m, (mksD (.tuple ds))[j]? = some m → jMk0 m = true := fun j m h => by
        have hm := List.mem_of_getElem? h
        obtain ⟨k, hk, hmk⟩ := List.mem_flatMap.mp (show m ∈ ds.flatMap fun k => its (p1 k) from hm)
        have := List.all_eq_true.mp al k hk
        unfold jKd0 at this
        rw [Bool.and_eq_true] at this
        exact List.all_eq_true.mp this.2 m hmk
      have lns : (nmsD (.tuple ds)).length ≤ 6 := by
        show (ds.map _).length ≤ 6
        rw [List.length_map]; omega
      generalize nmsD (.tuple ds) = ns at *
      generalize mksD (.tuple ds) = mds at *
      refine ⟨.ref e1, rfl, e1, ns, rfl, m1, by omega, decide ns.Nodup, rfl, ?_⟩
      cases hn : decide ns.Nodup with
      | false => exact iteT (no (by rw [hn]; rfl) _ sm)
      | true =>
      rw [hn] at q no
      refine iteF ?_
      refine ⟨.ref e2, rfl, e2, rfl, ⟨_, .of m2⟩, fun D hD => ?_⟩
      refine lc_all (walk_list (xs := ws)) (fun j Hx => Same Ha Hx ∧ Hx D = some (.lst (((mds.take j).map fun m => stO (p0 m)).map V.str))) ⟨same_new hD, upd_same⟩ (fun j Hx _ z => .of (z.1 _ _ m2)) (fun j x Hx Hy hj z y => ?_) (fun Hx z => ?_)
      · obtain ⟨s5, eD⟩ := z
        obtain ⟨rfl, hxj⟩ := y
        obtain ⟨m, hm, omm⟩ := (om.mono (fo_same s5)).getV hxj
        have mk := mk0 j m hm
        unfold jMk0 at mk
        simp only [Bool.and_eq_true] at mk
        obtain ⟨pp, w1, w2, rfl, em, hpp, ow1, ow2⟩ := omm.pair mk.1
        obtain ⟨z1, ez⟩ := jHigh_str mk.2.1
        rw [ez] at ow1
        obtain rfl := ow1.str_inv
        refine ⟨pp, _, rfl, hpp.sq, rfl, .str z1, _, rfl, w2, _, rfl, rfl, rfl, .str z1, rfl, _, eD, small1000 (by rw [List.length_map, List.length_map, List.length_take]; omega), fun b o e => ?_, ?_⟩
        · rw [upd_ne (ne_of_none e hD)]; exact s5 _ _ e
        · rw [upd_same, List.take_add_one, hm, List.map_append, List.map_append]
          show _ = some (HO.lst (_ ++ [V.str (stO (p0 m))]))
          rw [ez]; rfl
      · obtain ⟨s5, eD⟩ := z
        rw [lws, List.take_of_length_le (Nat.le_refl _)] at eD
        refine ⟨D, _, rfl, eD, by rw [List.length_map]; omega, _, rfl, ?_⟩
        cases hn2 : decide (mds.map fun m => stO (p0 m)).Nodup with
        | false => exact iteT (no (by rw [hn2]; rfl) _ (sm.trans s5))
        | true =>
        rw [hn2] at q no
        refine iteF ?_
        have m1x := s5 _ _ m1
        have m2x := s5 _ _ m2
        have omx := om.mono (fo_same s5)
        have sx := sm.trans s5
        refine ⟨.ref e2, rfl, e2, rfl, ⟨_, .of m2x⟩, ?_⟩
        refine for_it (walk_list (xs := ws)) (fun j σ Hb => ∃ (y5 y6 : Option V), σ = [some (.ref a), some (.ref e1), some (.ref e2), y3, y4, y5, y6, none, none] ∧ Same Hx Hb ∧ (mds.take j).all (jMk2 ns) = true) ⟨_, _, rfl, Same.refl _, rfl⟩ (fun j σ Hb _ z => ?_) ?_ ?_
        · obtain ⟨_, _, _, s6, _⟩ := z
          exact .of (s6 _ _ m2x)
        · rintro j x σ Hb Hc hj ⟨y5, y6, rfl, s6, al2⟩ ⟨rfl, hxj⟩
          obtain ⟨m, hm, omm⟩ := (omx.mono (fo_same s6)).getV hxj
          have mk := mk0 j m hm
          unfold jMk0 at mk
          simp only [Bool.and_eq_true] at mk
          obtain ⟨pp, w1, w2, rfl, em, hpp, ow1, ow2⟩ := omm.pair mk.1
          obtain ⟨fs, efs, _, f4⟩ := jRow_tup mk.2.2
          rw [efs] at ow2
          obtain ⟨pf, us, rfl, hpf, hus⟩ := ow2.tuple_inv
          have lus := hus.len
          have m16 := s6 _ _ m1x
          refine ⟨pp, _, rfl, hpp.sq, rfl, w1, _, rfl, .ref pf, _, rfl, rfl, ?_⟩
          refine ⟨.ref pf, rfl, pf, rfl, ⟨_, hpf.sq⟩, fun D3 hD3 => ?_⟩
          refine lc_all (walk_tup (xs := us)) (fun i H2 => Same Hc H2 ∧ H2 D3 = some (.lst (((fs.take i).map (jFld ns)).map V.bl))) ⟨same_new hD3, upd_same⟩ (fun i H2 _ z => (hpf.mono (tk_same z.1)).sq) (fun i x H2 H3 hi zz y => ?_) (fun H2 zz => ?_)
          · obtain ⟨s7, eD3⟩ := zz
            obtain ⟨rfl, hxi⟩ := y
            obtain ⟨f, hf, of⟩ := (hus.mono (fo_same s7)).getV hxi
            have fin := bools_snoc s7 hD3 eD3 hf
            have la : (((fs.take i).map (jFld ns)).map V.bl).length < sizeLine := small1000 (by rw [List.length_map, List.length_map, List.length_take]; omega)
            refine ⟨rfl, x, rfl, x, _, .type (tyName f), _, jStr f, rfl, .ty _, od_ty of, kit_ty (kit_str f), jStr f, rfl, ?_⟩
            rcases of.str_or with ⟨z, rfl, rfl, lz⟩ | n
            · refine iteT ⟨.str z, rfl, rfl, _, rfl, ?_⟩
              rw [dec_str]
              have ez : jFld ns (.str z) = (decide (z = "number") || decide (z ∈ ns)) := rfl
              rw [ez] at fin
              by_cases hnum : z = "number"
              · rw [decide_eq_true hnum] at fin ⊢
                exact iteT ⟨_, eD3, la, fin⟩
              · rw [decide_eq_false hnum] at fin ⊢
                refine iteF ⟨.str z, rfl, .ref e1, rfl, e1, _, rfl, .inl (.of (s7 _ _ m16)), rfl, flat_strs' _, ?_⟩
                rw [if_neg Bool.false_ne_true, inV_strs]
                exact ⟨_, eD3, la, fin⟩
            · rw [n]
              rw [jFld_no n] at fin
              exact iteF ⟨_, eD3, la, fin⟩
          · obtain ⟨s7, eD3⟩ := zz
            rw [lus, List.take_of_length_le (Nat.le_refl _)] at eD3
            refine ⟨D3, _, rfl, .of eD3, _, rfl, ?_⟩
            rw [all_map]
            have ej2 : jMk2 ns m = fs.all (jFld ns) := by unfold jMk2; rw [efs]; rfl
            rw [← ej2]
            cases hj2 : jMk2 ns m with
            | false => exact iteT (no (by rw [all_no hm hj2]; rfl) _ ((sx.trans s6).trans s7))
            | true =>
              refine iteF ⟨_, _, rfl, s6.trans s7, ?_⟩
              rw [List.take_add_one, hm, List.all_append, al2]
              show (true && (jMk2 ns m && true)) = true
              rw [hj2]; rfl
        · rintro σ Hb ⟨y5, y6, rfl, s6, al2⟩
          rw [lws, List.take_of_length_le (Nat.le_refl _)] at al2
          rw [al2] at q
          exact q Hb (sx.trans s6)
end
end K63

set_option Elab.async false
set_option linter.all false
set_option maxRecDepth 100000
set_option exponentiation.threshold 20000
set_option pp.deepTerms false
set_option pp.deepTerms.threshold 8
namespace K63
open PySem PySem.Spec PyProof.Rows L2 Ly Mt
/-! ### kinds as data -/
def toMk (m : PyData) : Mk := (stO (p0 m), (its (p1 m)).map stO)
def toKd (k : PyData) : Kd := (stO (p0 k), (its (p1 k)).map toMk)
def toKs (d : PyData) : List Kd := (its d).map toKd
theorem tup2 {d : PyData} (h : jPair d = true) : d = .tuple [p0 d, p1 d] := by
  cases d with
  | tuple ds =>
    have h2 : ds.length = 2 := of_decide_eq_true h
    match ds, h2 with
    | [a, b], _ => rfl
  | _ => cases h
theorem nmB_ok {z : Str} (h : nmB z = true) : NameOk z := by
  unfold nmB at h
  simp only [Bool.and_eq_true, decide_eq_true_eq, Bool.not_eq_true', decide_eq_false_iff_not, not_or] at h
  obtain ⟨⟨⟨⟨h1, h2⟩, h3⟩, h4⟩, h5⟩ := h
  refine ⟨⟨h1, h2⟩, h3, ?_, fun c hc => List.all_eq_true.mp h5 c hc⟩
  cases e : z.cps[0]? with
  | none =>
    have := Array.getElem?_eq_none_iff.mp e
    have : z.length = z.cps.size := rfl
    omega
  | some c =>
    rw [e] at h4
    exact ⟨c, rfl, h4⟩
theorem high_ok {d : PyData} (h : jHigh d = true) : d = .str (stO d) ∧ High (stO d) := by
  obtain ⟨z, rfl⟩ := jHigh_str h
  have h' : (nmB z && hdB highC z) = true := h
  rw [Bool.and_eq_true] at h'
  refine ⟨rfl, nmB_ok h'.1, ?_⟩
  have h2 := h'.2
  unfold hdB at h2
  show ∃ c, z.cps[0]? = some c ∧ highC c = true
  cases e : z.cps[0]? with
  | none => rw [e] at h2; cases h2
  | some c => rw [e] at h2; exact ⟨c, rfl, h2⟩
theorem fld_ok {ns : List Str} {d : PyData} (h : jFld ns d = true) : d = .str (stO d) ∧ (stO d = "number" ∨ stO d ∈ ns) := by
  cases d with
  | str z =>
    refine ⟨rfl, ?_⟩
    have h' : (decide (z = "number") || decide (z ∈ ns)) = true := h
    rw [Bool.or_eq_true, decide_eq_true_iff, decide_eq_true_iff] at h'
    exact h'
  | _ => cases h
theorem map_self {α : Type} {l : List α} {f : α → α} (h : ∀ x ∈ l, f x = x) : l.map f = l := by
  conv => rhs; rw [← List.map_id l]
  exact List.map_congr_left h
theorem its_eq {d : PyData} (h : jTup d = true) : d = .tuple (its d) := by cases d <;> first | rfl | cases h
theorem row_eq {d : PyData} {lo hi : Int} (h : jRow d lo hi = true) : d = .tuple (its d) ∧ lo ≤ ((its d).length : Int) ∧ ((its d).length : Int) ≤ hi := by
  obtain ⟨ds, rfl, h1, h2⟩ := jRow_tup h
  exact ⟨rfl, h1, h2⟩
theorem kinds_of {d : PyData} (h : jKinds d = true) : d = ksD (toKs d) ∧ KindsOk (toKs d) := by
  unfold jKinds at h
  simp only [Bool.and_eq_true, decide_eq_true_eq] at h
  obtain ⟨h1, h2, h3, h4, h5⟩ := h
  obtain ⟨ed, l1, l6⟩ := row_eq h1
  have kd : ∀ k ∈ its d, k = .tuple [p0 k, p1 k] ∧ (p0 k = .str (stO (p0 k)) ∧ High (stO (p0 k))) ∧ (p1 k = .tuple (its (p1 k)) ∧ 1 ≤ (its (p1 k)).length ∧ (its (p1 k)).length ≤ 6) ∧ ∀ m ∈ its (p1 k), jMk0 m = true := fun k hk => by
    have := List.all_eq_true.mp h2 k hk
    unfold jKd0 jKd1 at this
    simp only [Bool.and_eq_true] at this
    obtain ⟨⟨a1, a2, a3⟩, a4⟩ := this
    obtain ⟨b1, b2, b3⟩ := row_eq a3
    exact ⟨tup2 a1, high_ok a2, ⟨b1, by omega, by omega⟩, fun m hm => List.all_eq_true.mp a4 m hm⟩
  have mkOk : ∀ m ∈ mksD d, m = .tuple [p0 m, p1 m] ∧ (p0 m = .str (stO (p0 m)) ∧ High (stO (p0 m))) ∧ (p1 m = .tuple (its (p1 m)) ∧ (its (p1 m)).length ≤ 4) ∧ ∀ f ∈ its (p1 m), f = .str (stO f) ∧ (stO f = "number" ∨ stO f ∈ nmsD d) := fun m hm => by
    obtain ⟨k, hk, hmk⟩ := List.mem_flatMap.mp hm
    have := (kd k hk).2.2.2 m hmk
    unfold jMk0 at this
    simp only [Bool.and_eq_true] at this
    obtain ⟨a1, a2, a3⟩ := this
    obtain ⟨b1, b2, b3⟩ := row_eq a3
    have := List.all_eq_true.mp h5 m hm
    exact ⟨tup2 a1, high_ok a2, ⟨b1, by omega⟩, fun f hf => fld_ok (List.all_eq_true.mp this f hf)⟩
  have em : ∀ m ∈ mksD d, mkD (toMk m) = m := fun m hm => by
    obtain ⟨a1, a2, a3, a4⟩ := mkOk m hm
    have e : ((its (p1 m)).map stO).map PyData.str = its (p1 m) := by
      rw [List.map_map]
      exact map_self fun f hf => (a4 f hf).1.symm
    show PyData.tuple [.str (stO (p0 m)), .tuple (((its (p1 m)).map stO).map .str)] = m
    rw [e, ← a2.1, ← a3.1, ← a1]
  have inM : ∀ k ∈ its d, ∀ m ∈ its (p1 k), m ∈ mksD d := fun k hk m hm => List.mem_flatMap.mpr ⟨k, hk, hm⟩
  have ek : ∀ k ∈ its d, kdD (toKd k) = k := fun k hk => by
    obtain ⟨a1, a2, a3, a4⟩ := kd k hk
    have e : ((its (p1 k)).map toMk).map mkD = its (p1 k) := by
      rw [List.map_map]
      exact map_self fun m hm => em m (inM k hk m hm)
    show PyData.tuple [.str (stO (p0 k)), .tuple (((its (p1 k)).map toMk).map mkD)] = k
    rw [e, ← a2.1, ← a3.1, ← a1]
  have enm : (toKs d).map (·.1) = nmsD d := by
    unfold toKs nmsD
    rw [List.map_map]; rfl
  have eall : allMk (toKs d) = (mksD d).map toMk := by
    unfold allMk toKs mksD
    rw [List.flatMap_map, List.map_flatMap]
    rfl
  refine ⟨?_, ⟨by unfold toKs; rw [List.length_map]; omega, fun k hk => ?_, fun k hk => ?_, fun k hk m hm => ?_, by rw [enm]; exact h3, ?_, fun k hk m hm f hf => ?_⟩⟩
  · have e : ((its d).map toKd).map kdD = its d := by
      rw [List.map_map]
      exact map_self ek
    show d = PyData.tuple (((its d).map toKd).map kdD)
    rw [e]; exact ed
  · obtain ⟨x, hx, rfl⟩ := List.mem_map.mp hk
    exact (kd x hx).2.1.2
  · obtain ⟨x, hx, rfl⟩ := List.mem_map.mp hk
    have := (kd x hx).2.2.1.2
    show 1 ≤ ((its (p1 x)).map toMk).length ∧ ((its (p1 x)).map toMk).length ≤ 6
    rw [List.length_map]; exact this
  · obtain ⟨x, hx, rfl⟩ := List.mem_map.mp hk
    obtain ⟨y, hy, rfl⟩ := List.mem_map.mp (show m ∈ (its (p1 x)).map toMk from hm)
    obtain ⟨a1, a2, a3, a4⟩ := mkOk y (inM x hx y hy)
    refine ⟨a2.2, ?_⟩
    show ((its (p1 y)).map stO).length ≤ 4
    rw [List.length_map]; exact a3.2
  · rw [eall, List.map_map]
    exact h4
  · obtain ⟨x, hx, rfl⟩ := List.mem_map.mp hk
    obtain ⟨y, hy, rfl⟩ := List.mem_map.mp (show m ∈ (its (p1 x)).map toMk from hm)
    obtain ⟨z, hz, rfl⟩ := List.mem_map.mp (show f ∈ (its (p1 y)).map stO from hf)
    obtain ⟨a1, a2, a3, a4⟩ := mkOk y (inM x hx y hy)
    rw [enm]
    exact (a4 z hz).2
theorem nmB_of {z : Str} (h : NameOk z) : nmB z = true := by
  obtain ⟨⟨h1, h2⟩, h3, ⟨c, hc, hd⟩, hall⟩ := h
  unfold nmB
  rw [decide_eq_true h1, decide_eq_true h2, decide_eq_false (show ¬ (z = "fun" ∨ z = "kind" ∨ z = "number") from fun w => by
    rcases w with w | w | w
    · exact h3.1 w
    · exact h3.2.1 w
    · exact h3.2.2 w), hc]
  show (true && true && !false && !digC c && _) = true
  rw [hd, List.all_eq_true.mpr hall]; rfl
theorem jHigh_of {z : Str} (h : High z) : jHigh (.str z) = true := by
  obtain ⟨h1, c, hc, hh⟩ := h
  show (nmB z && hdB highC z) = true
  unfold hdB
  rw [nmB_of h1, hc]; exact hh
theorem jLow_of {z : Str} (h : NameOk z) {c : Nat} (hc : z.cps[0]? = some c) (hh : lowC c = true) : jLow (.str z) = true := by
  show (nmB z && hdB lowC z) = true
  unfold hdB
  rw [nmB_of h, hc]; exact hh
theorem jRow_of {ds : List PyData} {lo hi : Int} (h1 : lo ≤ (ds.length : Int)) (h2 : (ds.length : Int) ≤ hi) : jRow (.tuple ds) lo hi = true := by
  show (decide _ && decide _) = true
  rw [decide_eq_true h1, decide_eq_true h2]; rfl
theorem toMk_mk (m : Mk) : toMk (mkD m) = m := by
  show (m.1, ((m.2.map PyData.str).map stO)) = m
  rw [List.map_map, show (stO ∘ PyData.str) = id from rfl, List.map_id]
theorem toKd_kd (k : Kd) : toKd (kdD k) = k := by
  show (k.1, ((k.2.map mkD).map toMk)) = k
  rw [List.map_map, show (toMk ∘ mkD) = id from funext toMk_mk, List.map_id]
theorem toKs_ks (ks : List Kd) : toKs (ksD ks) = ks := by
  show (ks.map kdD).map toKd = ks
  rw [List.map_map, show (toKd ∘ kdD) = id from funext toKd_kd, List.map_id]
theorem jKinds_of {ks : List Kd} (ok : KindsOk ks) : jKinds (ksD ks) = true := by
  have e1 : nmsD (ksD ks) = ks.map (·.1) := by
    show (ks.map kdD).map (fun k => stO (p0 k)) = _
    rw [List.map_map]; rfl
  have e2 : mksD (ksD ks) = (allMk ks).map mkD := by
    show (ks.map kdD).flatMap (fun k => its (p1 k)) = _
    unfold allMk
    rw [List.flatMap_map, List.map_flatMap]
    rfl
  have kf := ok.few
  unfold jKinds
  rw [e1, e2, decide_eq_true ok.nd]
  rw [show jRow (ksD ks) 1 6 = true from jRow_of (ds := ks.map kdD) (by rw [List.length_map]; omega) (by rw [List.length_map]; omega)]
  rw [show (decide (((allMk ks).map mkD).map fun m => stO (p0 m)).Nodup) = true from decide_eq_true (by rw [List.map_map]; exact ok.ndm)]
  have a1 : (its (ksD ks)).all jKd0 = true := List.all_eq_true.mpr fun x hx => by
    obtain ⟨k, hk, rfl⟩ := List.mem_map.mp (show x ∈ ks.map kdD from hx)
    have mk := ok.mks k hk
    unfold jKd0 jKd1
    show ((true && (jHigh (.str k.1) && jRow (.tuple (k.2.map mkD)) 1 6)) && (k.2.map mkD).all jMk0) = true
    rw [jHigh_of (ok.nm k hk), jRow_of (by rw [List.length_map]; omega) (by rw [List.length_map]; omega)]
    show (k.2.map mkD).all jMk0 = true
    refine List.all_eq_true.mpr fun y hy => ?_
    obtain ⟨m, hm, rfl⟩ := List.mem_map.mp hy
    obtain ⟨h1, h2⟩ := ok.mkk k hk m hm
    show (true && (jHigh (.str m.1) && jRow (.tuple (m.2.map .str)) 0 4)) = true
    rw [jHigh_of h1, jRow_of (by omega) (by rw [List.length_map]; omega)]; rfl
  have a2 : ((allMk ks).map mkD).all (jMk2 (ks.map (·.1))) = true := List.all_eq_true.mpr fun x hx => by
    obtain ⟨m, hm, rfl⟩ := List.mem_map.mp hx
    obtain ⟨k, hk, hmk⟩ := List.mem_flatMap.mp hm
    show (m.2.map PyData.str).all (jFld _) = true
    refine List.all_eq_true.mpr fun y hy => ?_
    obtain ⟨f, hf, rfl⟩ := List.mem_map.mp hy
    show (decide (f = "number") || decide (f ∈ ks.map (·.1))) = true
    rcases ok.flds k hk m hmk f hf with h | h
    · rw [decide_eq_true h]; rfl
    · rw [decide_eq_true h, Bool.or_true]
  rw [a1, a2]; rfl
end K63

set_option Elab.async false
set_option linter.all false
set_option maxRecDepth 100000
set_option maxHeartbeats 4000000
/-! a tuple from its end: t[::-1] -/
namespace HT
open PySem PySem.Spec PyProof.Rows L2
section
variable {prog : Program} {w : World} {A : Around} {E : Value → Shared → Prop} {s : Shared}
theorem pick_back (xs : Array Value) : ((List.range xs.size).filterMap fun (m : Nat) => xs[(((xs.size : Int) - 1) + (m : Int) * (-1)).toNat]?).toArray = xs.toList.reverse.toArray := by
  have e : (fun m : Nat => xs[(((xs.size : Int) - 1) + (m : Int) * (-1)).toNat]?) = (fun x : Nat => xs[x]?) ∘ (fun k => xs.size - 1 - k) := by
    funext m
    have h : (((xs.size : Int) - 1) + (m : Int) * (-1)).toNat = xs.size - 1 - m := by omega
    show xs[_]? = xs[_]?
    rw [h]
  rw [e, ← List.filterMap_map, PySem.W.krv_range, List.filterMap_reverse, PySem.W.krv_all]
theorem places_back (n : Nat) : Builtin.Slice.slicePlaces ((n : Int) - 1) (-1) (-1) = n := by
  unfold Builtin.Slice.slicePlaces
  rw [if_neg (by omega)]
  split
  · have e : ((n : Int) - 1 - -1 - 1) / (- -1) = (n : Int) - 1 := by rw [show (- -1 : Int) = 1 by rfl, Int.ediv_one]; omega
    rw [e]; omega
  · omega
theorem adjust_back (n : Nat) : Builtin.Slice.sliceAdjust none none (-1) (n : Int) = ((n : Int) - 1, -1) := by
  unfold Builtin.Slice.sliceAdjust
  rfl
theorem sliceApplied_back {sl : Addr} {t : Tok} {n : Nat} {Q : Int × Int × Nat → Shared → Prop} (hs : s.heap.IsSliceOf sl .none .none (.int (-1) t))
    (h : Q ((n : Int) - 1, -1, n) s) : wpAny (model prog w) A (Builtin.Slice.sliceApplied (.ref sl) (pure (n : Int))) Q E s := by
  obtain ⟨os, hos, hcs, hds⟩ := id hs
  unfold Builtin.Slice.sliceApplied Builtin.Slice.sliceFields
  refine wpAny_bind (wpAny_bind (wpAny_field hos hds (x := .none) rfl (wpAny_bind (wpAny_field hos hds (x := .none) rfl (wpAny_bind (wpAny_field hos hds (x := .int (-1) t) rfl (wpAny_pure ?_)))))))
  refine wpAny_bind (slicePart_int ?_)
  show wpAny _ _ (if ((-1 : Int) == 0) = true then _ else _) _ _ s
  rw [if_neg (by decide)]
  refine wpAny_bind (slicePart_none (wpAny_bind (slicePart_none (wpAny_bind (wpAny_pure ?_)))))
  show wpAny _ _ (match Builtin.Slice.sliceAdjust none none (-1) (n : Int) with | (lo, hi) => pure (lo, (-1 : Int), Builtin.Slice.slicePlaces lo hi (-1))) _ _ s
  rw [adjust_back n]
  show wpAny _ _ (pure (((n : Int) - 1), (-1 : Int), Builtin.Slice.slicePlaces ((n : Int) - 1) (-1) (-1))) _ _ s
  rw [places_back]
  exact wpAny_pure h
theorem getItem_tuple_back {t sl : Addr} {items : Array Value} {u : Tok} {Q : Value → Shared → Prop} (ht : IsTup s.heap t items) (hs : s.heap.IsSliceOf sl .none .none (.int (-1) u))
    (h : Q (.ref s.heap.objs.size) { s with heap := s.heap.push { cls := .type "tuple", data := .seq items.toList.reverse.toArray } })
    (hsz : items.size ≤ sizeLine) : wpAny (model prog w) A (getItem (.ref t) (.ref sl)) Q E s := by
  have htake : sizeOk (.seq items.toList.reverse.toArray) := by
    show items.toList.reverse.toArray.size ≤ sizeLine
    rw [List.size_toArray, List.length_reverse, Array.length_toList]
    exact hsz
  obtain ⟨os, hos, hcs, hds⟩ := id hs
  have hTs : s.TypeIs (.ref sl) "slice" := ⟨os, hos, hcs⟩
  unfold getItem
  try with_reducible refine wpAny_holding ?_
  first | refine wpAny_bind (wpAny_pure ?_) | skip
  refine wpAny_bind (wpAny_sequenceKey ht.typeIs (by decide) ?_)
  refine wpAny_bind (wpAny_callSpecial?_slot (name := Str.ofString "__getitem__") ht.typeIs PyProof.Rows.slot_tuple_getitem
    (wpAny_call_entry PyProof.Rows.slot_tuple_getitem ht.typeIs entry_tuple_getitem ?_ (args_tuple_getitem _ _)))
  show wpAny _ _ (Builtin.Tuple.tupleItemsOf (.ref t) >>= _) _ _ s
  refine wpAny_bind (tupleItemsOf_ ht ?_)
  refine wpAny_bind (wpAny_typeOf hTs ?_)
  rw [if_pos (by decide)]
  refine wpAny_bind (sliceApplied_back hs ?_)
  have hno : ¬ ((((items.size : Int) - 1) == 0 && (-1 : Int) == 1 && items.size == items.size) = true) := by
    intro q
    rw [Bool.and_eq_true, Bool.and_eq_true] at q
    exact absurd q.1.2 (by decide)
  show wpAny _ _ (if (((items.size : Int) - 1) == 0 && (-1 : Int) == 1 && items.size == items.size) = true then _ else _) _ _ s
  rw [if_neg hno, pick_back]
  first
    | exact wpAny_bind (m := Builtin.Tuple.tupleExact _) (wpAny_newObj_type (wpAny_pure ⟨_, rfl, wpAny_pure h⟩) htake)
    | exact wpAny_bind (m := Builtin.Tuple.tupleExact _) (wpAny_newObj_type (wpAny_bind (wpAny_pure (wpAny_pure ⟨_, rfl, wpAny_pure h⟩))) htake)
    | exact wpAny_bind (wpAny_bind (m := Builtin.Tuple.tupleExact _) (wpAny_newObj_type (wpAny_pure (wpAny_pure ⟨_, rfl, wpAny_pure h⟩)) htake))
    | exact wpAny_bind (wpAny_bind (m := Builtin.Tuple.tupleExact _) (wpAny_newObj_type (wpAny_pure ⟨_, rfl, wpAny_pure h⟩) htake))
end
end HT
namespace Ly
open PySem PySem.Spec PyProof.Rows L2
section
variable {X : Cx}
def tRevT (K : PySem.W.Frag) (te : TE) : TE := fun σ H Q => te σ H fun x H1 => ∃ a xs, x = .ref a ∧ SqT K H1 a xs ∧ ∀ p, H1 p = none → Q (.ref p) (upd H1 p (.tup xs.reverse))
theorem pe_revT {e : Expr} {te : TE} {k : Nat} {p1 p2 p3 pos : Pos} (he : PE X e te) : PE X (.Subscript e (.Slice none none (some (.UnaryOp .USub (.Constant (.int 1) k p1) p2)) p3) pos) (tRevT X.K te) := by
  refine ⟨fun pins s σ H Q I h => ?_⟩
  refine Subscript_ (thn (he.run pins s σ H _ I h) fun v s1 ⟨x, H1, I1, r1, q1⟩ => ?_)
  obtain ⟨a, xs, ex, hx, q⟩ := q1
  subst ex
  cases r1
  have hst : PO X (some (.UnaryOp .USub (.Constant (.int 1) k p1) p2)) (tPart (tUn (rU fun i => .int (-i)) (tC (.int 1)))) := po_some (pe_un un_neg pe_int)
  refine wpAny_Slice (thn (po_none.run pins s1 σ H1 (fun o H2 => o = none ∧ H2 = H1) I1 ⟨rfl, rfl⟩) fun vl s2 ⟨l, H2, I2, pl, el, e2⟩ => ?_)
  subst el e2
  cases pl
  refine thn (po_none.run pins s2 σ H2 (fun o H3 => o = none ∧ H3 = H2) I2 ⟨rfl, rfl⟩) fun vu s3 ⟨u, H3, I3, pu, eu, e3⟩ => ?_
  subst eu e3
  cases pu
  refine thn (hst.run pins s3 σ H3 (fun o H4 => o = some (-1) ∧ H4 = H3) I3 ⟨1, rfl, -1, rfl, rfl, rfl⟩) fun vs s4 ⟨o, H4, I4, ps, eo, e4⟩ => ?_
  subst eo e4
  cases ps with
  | int i tk =>
  have I5 : Inv X pins σ H4 { s4 with heap := s4.heap.push { cls := .type "slice", data := .fields #[.none, .none, .int (-1) tk] } } := I4.kept (t' := s4.toks) fun b ob q => Heap.get?_push_of_some _ q
  obtain ⟨its, r, ht, hz⟩ := I5.tuple hx
  have hlen := r.length
  show wpAny (model X.prog X.w) X.A (subscriptTail e (.Slice none none (some (.UnaryOp .USub (.Constant (.int 1) k p1) p2)) p3) (.ref a) (.ref s4.heap.objs.size)) (EP X pins σ Q) X.xe { s4 with heap := s4.heap.push { cls := .type "slice", data := .fields #[.none, .none, .int (-1) tk] } }
  refine tail_any (ops := [.ref a, .ref s4.heap.objs.size]) ht.typeIs (PyProof.Rows.slot_tuple_getitem.lookup) ?_ (by with_unfolding_all rfl)
  refine HT.getItem_tuple_back ht (Heap.IsSliceOf.new _ .none .none (.int (-1) tk)) ?_ (by rw [List.size_toArray]; omega)
  refine ⟨.ref _, _, I5.laid (t' := s4.toks) (o := .tup xs.reverse) (fun b ob q => Heap.get?_push_of_some _ q) (Nat.le_refl _) ?_, rfl, q _ (I5.hok.fresh (Nat.le_refl _))⟩
  exact ⟨by rw [List.length_reverse]; exact hz, _, r.reverse, IsTup.new _ _⟩
theorem kpe_revT (K : PySem.W.Frag) {e : Expr} {te : TE} {k : Nat} {p1 p2 p3 pos : Pos} (he : PE X e te) (eK : X.K = K := by rfl) : PE X (.Subscript e (.Slice none none (some (.UnaryOp .USub (.Constant (.int 1) k p1) p2)) p3) pos) (tRevT K te) := by subst eK; exact pe_revT he
def rInDT (K : PySem.W.Frag) : R2 := fun x y H Q => ∃ d ds, Dp K H x d ∧ Dp K H y (.tuple ds) ∧ SeqAt.shaped d = true ∧ SeqAt.shaped (.tuple ds) = true ∧ Q (.bl (ds.any fun z => PyData.eqv z d)) H
theorem op_inDT (hu : X.A.units + 65 < cLine) : OpR X (compareOp .In) (rInDT X.K) := by
  intro pins s σ H x y v u Q I rx ry h
  obtain ⟨d, ds, hd, he, sd, se, q⟩ := h
  obtain ⟨as, r1⟩ := Dp.reads I d x v hd rx
  obtain ⟨bs, r2⟩ := Dp.reads I (.tuple ds) y u he ry
  exact SeqAt.in_tuple_reads r2 r1 (SeqAt.canLay_of_shaped se) (SeqAt.canLay_of_shaped sd) (room_in_shaped sd hu) ⟨.bl _, H, I, rfl, q⟩
theorem kop_inDT (K : PySem.W.Frag) (hu : X.A.units + 65 < cLine) (e : X.K = K := by rfl) : OpR X (compareOp .In) (rInDT K) := by subst e; exact op_inDT hu
theorem kop_in (K : PySem.W.Frag) (e : X.K = K := by rfl) : OpR X (compareOp .In) (rIn K false) := by subst e; exact op_in_seq
end
end Ly

set_option Elab.async false
set_option linter.all false
set_option maxRecDepth 100000
/-! numbers that may be bools; a text so many times; slices of texts and tuples; t != () -/
namespace Ly
open PySem PySem.Spec PyProof.Rows L2
def numV : V → Option Int
  | .int i => some i
  | .bl b => some (if b = true then 1 else 0)
  | _ => none
theorem numV_inv {x : V} {n : Int} (h : numV x = some n) : x = .int n ∨ ∃ b, x = .bl b ∧ n = if b = true then 1 else 0 := by
  cases x <;> first | cases h | skip
  · exact .inr ⟨_, rfl, rfl⟩
  · exact .inl rfl
section
variable {X : Cx}
def rAddB : R2 := fun x y H Q => ∃ n j, numV x = some n ∧ y = .int j ∧ Q (.int (n + j)) H
def rSubB : R2 := fun x y H Q => ∃ n j, numV x = some n ∧ y = .int j ∧ Q (.int (n - j)) H
def rMulB : R2 := fun x y H Q => ∃ n j, numV x = some n ∧ y = .int j ∧ CMulW n j ∧ Q (.int (n * j)) H
def rMulC : R2 := fun x y H Q => ∃ n j, x = .int n ∧ numV y = some j ∧ CMulW n j ∧ Q (.int (n * j)) H
theorem op_addB : OpR X (binaryOp .Add) rAddB := by
  intro pins s σ H x y v u Q I rx ry h
  obtain ⟨n, j, hn, rfl, q⟩ := h
  rcases numV_inv hn with rfl | ⟨b, rfl, rfl⟩
  · exact op_add pins s σ H _ _ v u Q I rx ry ⟨n, j, rfl, rfl, q⟩
  · cases rx
    obtain ⟨t', rfl⟩ := ry
    exact PySem.IntBool.add_bool_int ⟨.int _, H, I.tok _, ⟨_, rfl⟩, q⟩
theorem op_subB : OpR X (binaryOp .Sub) rSubB := by
  intro pins s σ H x y v u Q I rx ry h
  obtain ⟨n, j, hn, rfl, q⟩ := h
  rcases numV_inv hn with rfl | ⟨b, rfl, rfl⟩
  · exact op_sub pins s σ H _ _ v u Q I rx ry ⟨n, j, rfl, rfl, q⟩
  · cases rx
    obtain ⟨t', rfl⟩ := ry
    exact PySem.IntBool.sub_bool_int ⟨.int _, H, I.tok _, ⟨_, rfl⟩, q⟩
theorem op_mulB : OpR X (binaryOp .Mult) rMulB := by
  intro pins s σ H x y v u Q I rx ry h
  obtain ⟨n, j, hn, rfl, c, q⟩ := h
  rcases numV_inv hn with rfl | ⟨b, rfl, rfl⟩
  · exact op_mulW pins s σ H _ _ v u Q I rx ry ⟨n, j, rfl, rfl, c, q⟩
  · cases rx
    obtain ⟨t', rfl⟩ := ry
    exact PySem.IntBool.mul_bool_int ⟨.int _, H, I.tok _, ⟨_, rfl⟩, q⟩
theorem op_mulC : OpR X (binaryOp .Mult) rMulC := by
  intro pins s σ H x y v u Q I rx ry h
  obtain ⟨n, j, rfl, hn, c, q⟩ := h
  rcases numV_inv hn with rfl | ⟨b, rfl, rfl⟩
  · exact op_mulW pins s σ H _ _ v u Q I rx ry ⟨n, j, rfl, rfl, c, q⟩
  · obtain ⟨t', rfl⟩ := rx
    cases ry
    exact PySem.IntBool.mul_int_bool ⟨.int _, H, I.tok _, ⟨_, rfl⟩, q⟩
theorem call_strB : CallR X (.type "str") (fun xs H Q => (∃ i : Int, xs = [.int i] ∧ i.natAbs.log2 < 1920 ∧ Q (.str (toString i)) H) ∨ ∃ b : Bool, xs = [.bl b] ∧ Q (.str (if b then "True" else "False")) H) := by
  intro pins s σ H xs us Q I r h
  rcases h with h | ⟨b, rfl, q⟩
  · exact call_str_int pins s σ H xs us Q I r h
  · obtain ⟨u, rfl, r1⟩ := vals1 r
    cases r1
    exact PySem.P.str_of_bool ⟨.str _, H, I.tok _, ⟨_, rfl⟩, q⟩
/-- a text n times, n > 1 -/
def timesS (z : Str) (n : Nat) : Str := ⟨(List.replicate n z.cps).foldl (· ++ ·) #[]⟩
theorem foldl_cat (a : Array Nat) : ∀ (n : Nat) (b : Array Nat), (List.replicate n a).foldl (· ++ ·) b = b ++ ⟨(List.replicate n a.toList).flatten⟩
  | 0, b => by simp
  | n + 1, b => by
    rw [List.replicate_succ, List.foldl_cons, foldl_cat a n, List.replicate_succ, Array.append_assoc]
    congr 1
    simp [List.flatten_cons]
theorem timesS_list (z : Str) (n : Nat) : (timesS z n).cps.toList = (List.replicate n z.cps.toList).flatten := by
  unfold timesS
  rw [foldl_cat]
  simp
theorem timesS_len (z : Str) (n : Nat) : (timesS z n).length = n * z.length := by
  show (timesS z n).cps.size = _
  rw [← Array.length_toList, timesS_list, List.length_flatten, List.map_replicate, List.sum_replicate_nat, Array.length_toList]
  rfl
def rMulT : R2 := fun x y H Q => ∃ (z : Str) (n : Int), x = .str z ∧ y = .int n ∧ 2 ≤ n ∧ n ≤ 1000 ∧ z.length ≤ 10000 ∧ Q (.str (timesS z n.toNat)) H
theorem op_mulT : OpR X (binaryOp .Mult) rMulT := by
  intro pins s σ H x y v u Q I rx ry h
  obtain ⟨z, n, rfl, rfl, h1, h2, hz, q⟩ := h
  obtain ⟨t, rfl⟩ := rx
  obtain ⟨t', rfl⟩ := ry
  have f0 : ¬ n < 1 := by omega
  have hb : z.length * n.toNat ≤ 10000000 := Nat.le_trans (Nat.mul_le_mul hz (show n.toNat ≤ 1000 by omega)) (by decide)
  have hs : 10000000 ≤ sizeLine := by decide
  refine P.mul_str (by
    rw [decide_eq_false (show ¬ n < -(2 ^ 63) by omega), decide_eq_false (show ¬ n ≥ 2 ^ 63 by omega)]; rfl) (fun _ _ => ?_) (fun _ _ => ?_) ?_
  · intro w
    have w2 := Int.lt_mul_of_ediv_lt (by omega) w
    have e : ((z.length : Nat) : Int) * n = ((z.length * n.toNat : Nat) : Int) := by rw [Int.natCast_mul, Int.toNat_of_nonneg (by omega)]
    omega
  · unfold Builtin.Str.tooLong
    rw [decide_eq_false]
    omega
  · rw [if_neg f0]
    split
    · next hh =>
      have z0 : z.length = 0 := by
        rw [Bool.or_eq_true] at hh
        rcases hh with hh | hh
        · have := beq_iff_eq.mp hh
          omega
        · exact beq_iff_eq.mp hh
      have ez : timesS z n.toNat = z := by
        have a1 : (timesS z n.toNat).cps.size = 0 := by
          have := timesS_len z n.toNat
          rw [z0, Nat.mul_zero] at this
          exact this
        have a2 : z.cps.size = 0 := z0
        have b1 := Array.eq_empty_of_size_eq_zero a1
        have b2 := Array.eq_empty_of_size_eq_zero a2
        cases z
        rename_i cps
        have : cps = #[] := b2
        subst this
        show (⟨(timesS _ _).cps⟩ : Str) = _
        rw [b1]
      exact ⟨.str z, H, I, ⟨_, rfl⟩, by rw [ez] at q; exact q⟩
    · refine ⟨?_, ?_⟩
      · show (timesS z n.toNat).length ≤ sizeLine
        rw [timesS_len, Nat.mul_comm]
        omega
      · exact ⟨.str _, H, I.tok _, ⟨_, rfl⟩, q⟩
theorem lpe_bm0 {X : Cx} (K : PySem.W.Frag) {o : Expr} {to : TE} {name : Str} {apos cpos : Pos} {T id : String} {r : V → List V → Hp → VK → Prop} (pa : PlainAttrs T) (slot : Slot T name id) (hty : typeOf (.builtin id) = pure (.type "method_descriptor")) (hm : MtR X id r) (ho : PE X o to)
    (hbase : attributeBase o name X.env (eval o X.env) = eval o X.env := by rfl) (hline : (apos.endLine == cpos.line) = true := by rfl) (e : X.K = K := by rfl) : PE X (.Call (.Attribute o name apos) [] [] cpos) (tBM0 K T r to) := by
  subst e
  exact pe_bm0 pa slot hty hm ho hbase hline
/-- slices of texts and of tuples -/
theorem ksl_tt (K : PySem.W.Frag) (e : X.K = K := by rfl) : SlR X (fun x lo hi H Q => rSlS x lo hi H Q ∨ rSlA K x lo hi H Q) := sl_str.or (by subst e; exact sl_tupA)
def rNeTup0 (K : PySem.W.Frag) : R2 := fun x y H Q => ∃ a b xs, x = .ref a ∧ y = .ref b ∧ SqT K H a xs ∧ SqT K H b [] ∧ Q (.bl (!decide (xs = []))) H
theorem kop_neTup0 (K : PySem.W.Frag) (hu : X.A.units + 64 < cLine) (eK : X.K = K := by rfl) : OpR X (compareOp .NotEq) (rNeTup0 K) := by
  subst eK
  intro pins s σ H x y v u Q I rx ry h
  obtain ⟨a, b, xs, rfl, rfl, ha, hb, q⟩ := h
  cases rx
  cases ry
  obtain ⟨its, rv, pa, _⟩ := I.tuple ha
  obtain ⟨its2, rv2, pb, _⟩ := I.tuple hb
  cases rv2
  have l1 := rv.length
  refine SeqAt.RcNeAt.tuples (e := fun _ => true) pa pb (by omega) (fun j h1 h2 => by simp at h2) _ _ _ _ ?_
  refine ⟨.bl (!decide (xs = [])), H, I, ?_, q⟩
  have e : (!((List.range (min its.toArray.size (([] : List Value).toArray.size))).all (fun _ => true) && its.toArray.size == ([] : List Value).toArray.size)) = !decide (xs = []) := by
    rw [List.all_eq_true.mpr (fun _ _ => rfl), Bool.true_and]
    congr 1
    cases xs with
    | nil => cases rv; rfl
    | cons x xs =>
      rw [decide_eq_false (by simp), beq_eq_false_iff_ne, List.size_toArray, List.size_toArray, ← l1]
      simp
  rw [e]
  rfl
end
end Ly

set_option Elab.async false
set_option linter.all false
set_option maxRecDepth 100000
/-! how great odd data is; expressions that give odd data -/
namespace Ly
open PySem PySem.Spec PyProof.Rows L2
mutual
/-- its leaves: ints of B bits, texts of L plain signs -/
def lfD (L B : Nat) : PyData → Bool
  | .int i => decide (i.natAbs < 2 ^ B)
  | .str x => decide (x.length ≤ L) && x.cps.toList.all fun c => decide (c < 128)
  | .tuple ds => lfDs L B ds
  | .list ds => lfDs L B ds
  | .dict kvs => kvs.isEmpty
  | _ => true
def lfDs (L B : Nat) : List PyData → Bool
  | [] => true
  | d :: ds => lfD L B d && lfDs L B ds
end
structure Bn (L B t W : Nat) (d : PyData) : Prop where
  lf : lfD L B d = true
  dp : d.depth ≤ t
  bk : d.bulk ≤ W
theorem lfDs_iff {L B : Nat} : ∀ {ds : List PyData}, lfDs L B ds = true ↔ ∀ d ∈ ds, lfD L B d = true
  | [] => ⟨fun _ _ h => (nomatch h), fun _ => rfl⟩
  | d :: ds => by
    show (lfD L B d && lfDs L B ds) = true ↔ _
    rw [Bool.and_eq_true, lfDs_iff (ds := ds)]
    refine ⟨fun h x hx => ?_, fun h => ⟨h d (by simp), fun x hx => h x (by simp [hx])⟩⟩
    rcases List.mem_cons.mp hx with rfl | hx
    · exact h.1
    · exact h.2 x hx
theorem depthAll_le {t : Nat} : ∀ {ds : List PyData}, PyData.depthAll ds ≤ t ↔ ∀ d ∈ ds, d.depth ≤ t
  | [] => ⟨fun _ _ h => (nomatch h), fun _ => Nat.zero_le _⟩
  | d :: ds => by
    show max d.depth (PyData.depthAll ds) ≤ t ↔ _
    rw [Nat.max_le, depthAll_le (ds := ds)]
    refine ⟨fun h x hx => ?_, fun h => ⟨h d (by simp), fun x hx => h x (by simp [hx])⟩⟩
    rcases List.mem_cons.mp hx with rfl | hx
    · exact h.1
    · exact h.2 x hx
theorem bulkAll_app : ∀ (xs ys : List PyData), PyData.bulkAll (xs ++ ys) = PyData.bulkAll xs + PyData.bulkAll ys
  | [], ys => by show _ = 0 + _; rw [Nat.zero_add]; rfl
  | x :: xs, ys => by
    show x.bulk + 1 + PyData.bulkAll (xs ++ ys) = x.bulk + 1 + PyData.bulkAll xs + _
    rw [bulkAll_app xs ys]; omega
theorem bulkAll_take (n : Nat) (xs : List PyData) : PyData.bulkAll (xs.take n) ≤ PyData.bulkAll xs := by
  conv => rhs; rw [← List.take_append_drop n xs, bulkAll_app]
  omega
theorem bulkAll_drop (n : Nat) (xs : List PyData) : PyData.bulkAll (xs.drop n) ≤ PyData.bulkAll xs := by
  conv => rhs; rw [← List.take_append_drop n xs, bulkAll_app]
  omega
theorem bulkAll_rev : ∀ xs : List PyData, PyData.bulkAll xs.reverse = PyData.bulkAll xs
  | [] => rfl
  | x :: xs => by
    rw [List.reverse_cons, bulkAll_app, bulkAll_rev xs]
    show _ + (x.bulk + 1 + 0) = x.bulk + 1 + _
    omega
theorem bulkAll_at {xs : List PyData} {i : Nat} {x : PyData} (h : xs[i]? = some x) : PyData.bulkAll xs = PyData.bulkAll (xs.take i) + (x.bulk + 1) + PyData.bulkAll (xs.drop (i + 1)) := by
  have hl := (List.getElem?_eq_some_iff.mp h).1
  have e : xs.drop i = x :: xs.drop (i + 1) := by
    rw [List.drop_eq_getElem_cons hl]
    congr 1
    rw [List.getElem?_eq_getElem hl] at h
    exact Option.some.inj h
  conv => lhs; rw [← List.take_append_drop i xs, bulkAll_app, e]
  show _ + (x.bulk + 1 + _) = _
  omega
/-- a tuple's bounds -/
theorem bn_tup {L B t W : Nat} {ds : List PyData} : Bn L B (t + 1) W (.tuple ds) ↔ lfDs L B ds = true ∧ PyData.depthAll ds ≤ t ∧ PyData.bulkAll ds ≤ W :=
  ⟨fun h => ⟨h.lf, by have := h.dp; change PyData.depthAll ds + 1 ≤ t + 1 at this; omega, h.bk⟩, fun h => ⟨h.1, by show PyData.depthAll ds + 1 ≤ t + 1; omega, h.2.2⟩⟩
mutual
theorem lfD_mono {L B L' B' : Nat} (hL : L ≤ L') (hB : B ≤ B') : ∀ {d : PyData}, lfD L B d = true → lfD L' B' d = true
  | .none, _ => rfl
  | .bool _, _ => rfl
  | .int i, h => decide_eq_true (Nat.lt_of_lt_of_le (of_decide_eq_true h) (Nat.pow_le_pow_right (by decide) hB))
  | .str x, h => by
    have h' : (decide (x.length ≤ L) && x.cps.toList.all fun c => decide (c < 128)) = true := h
    rw [Bool.and_eq_true, decide_eq_true_iff] at h'
    show (decide (x.length ≤ L') && x.cps.toList.all fun c => decide (c < 128)) = true
    rw [Bool.and_eq_true, decide_eq_true_iff]
    exact ⟨Nat.le_trans h'.1 hL, h'.2⟩
  | .tuple ds, h => lfDs_mono hL hB (ds := ds) h
  | .list ds, h => lfDs_mono hL hB (ds := ds) h
  | .dict kvs, h => h
theorem lfDs_mono {L B L' B' : Nat} (hL : L ≤ L') (hB : B ≤ B') : ∀ {ds : List PyData}, lfDs L B ds = true → lfDs L' B' ds = true
  | [], _ => rfl
  | d :: ds, h => by
    have h' : (lfD L B d && lfDs L B ds) = true := h
    rw [Bool.and_eq_true] at h'
    show (lfD L' B' d && lfDs L' B' ds) = true
    rw [lfD_mono hL hB h'.1, lfDs_mono hL hB h'.2]; rfl
end
theorem Bn.mono {L B t W L' B' t' W' : Nat} {d : PyData} (h : Bn L B t W d) (hL : L ≤ L') (hB : B ≤ B') (ht : t ≤ t') (hW : W ≤ W') : Bn L' B' t' W' d := ⟨lfD_mono hL hB h.lf, Nat.le_trans h.dp ht, Nat.le_trans h.bk hW⟩
/-! ### what is shown of it -/
theorem int_len {i : Int} {B : Nat} (hB : 0 < B) (h : i.natAbs < 2 ^ B) : (PyData.shown (.int i)).length ≤ B + 1 := by
  have h1 := int_text_length_le hB (PySem.Flt.log2_lt_of hB h)
  rw [PyData.shown_int]
  show (Str.ofString (toString i)).length ≤ B + 1
  rw [PySem.ofString_length]
  exact h1
theorem int_plain (i : Int) : ∀ c ∈ (PyData.shown (.int i)).cps.toList, c < 128 := fun c hc => by
  by_cases h : c < 128
  · exact h
  · exact absurd hc (shown_int_free' ⟨by omega, by omega⟩ i)
mutual
theorem lf_short {L B C : Nat} (hB : 0 < B) (hC : B + 1 ≤ C) : ∀ {d : PyData}, lfD L B d = true → d.leavesShort C = true
  | .none, _ => rfl
  | .bool _, _ => rfl
  | .int i, h => decide_eq_true (Nat.le_trans (int_len hB (of_decide_eq_true h)) hC)
  | .str x, h => by
    have h' : (decide (x.length ≤ L) && x.cps.toList.all fun c => decide (c < 128)) = true := h
    rw [Bool.and_eq_true] at h'
    refine List.all_eq_true.mpr fun c hc => decide_eq_true ?_
    have := of_decide_eq_true (List.all_eq_true.mp h'.2 c hc)
    exact Nat.lt_of_lt_of_le this (by decide)
  | .tuple ds, h => lfs_short hB hC (ds := ds) h
  | .list ds, h => lfs_short hB hC (ds := ds) h
  | .dict [], h => rfl
  | .dict (_ :: _), h => by cases h
theorem lfs_short {L B C : Nat} (hB : 0 < B) (hC : B + 1 ≤ C) : ∀ {ds : List PyData}, lfDs L B ds = true → PyData.leavesShortAll C ds = true
  | [], _ => rfl
  | d :: ds, h => by
    have h' : (lfD L B d && lfDs L B ds) = true := h
    rw [Bool.and_eq_true] at h'
    show (d.leavesShort C && PyData.leavesShortAll C ds) = true
    rw [lf_short hB hC h'.1, lfs_short hB hC h'.2]; rfl
end
mutual
theorem lf_showable {L B : Nat} (hB : 0 < B) (hC : B ≤ 1920) : ∀ {d : PyData}, lfD L B d = true → d.showable = true
  | .none, _ => rfl
  | .bool _, _ => rfl
  | .int i, h => decide_eq_true (Nat.lt_of_lt_of_le (PySem.Flt.log2_lt_of hB (of_decide_eq_true h)) hC)
  | .str x, h => rfl
  | .tuple ds, h => lfs_showable hB hC (ds := ds) h
  | .list ds, h => lfs_showable hB hC (ds := ds) h
  | .dict [], h => rfl
  | .dict (_ :: _), h => by cases h
theorem lfs_showable {L B : Nat} (hB : 0 < B) (hC : B ≤ 1920) : ∀ {ds : List PyData}, lfDs L B ds = true → PyData.showableAll ds = true
  | [], _ => rfl
  | d :: ds, h => by
    have h' : (lfD L B d && lfDs L B ds) = true := h
    rw [Bool.and_eq_true] at h'
    show (d.showable && PyData.showableAll ds) = true
    rw [lf_showable hB hC h'.1, lfs_showable hB hC h'.2]; rfl
end
theorem Bn.shown {L B t W : Nat} {d : PyData} (h : Bn L B t W d) (hB : 0 < B) (h2 : B ≤ 100) (hW : W ≤ 150000) : d.showable = true ∧ d.shown.length ≤ sizeLine := by
  refine ⟨lf_showable hB (by omega) h.lf, ?_⟩
  have h1 := PyData.shown_le_bulk 101 (by decide) d (lf_short (C := 101) hB (by omega) h.lf)
  have h3 := h.bk
  have h4 : (101 + 2) * d.bulk ≤ 103 * 150000 := Nat.mul_le_mul_left _ (by omega)
  have h5 : 103 * 150000 + 101 ≤ sizeLine := by decide
  omega
/-! ### expressions that give odd data, in new places alone -/
section
variable {K : PySem.W.Frag} {S : Addr → Prop} {H0 : Hp} {σ : L2.St} {p : PyData → Prop}
def Gd (K : PySem.W.Frag) (S : Addr → Prop) (H0 : Hp) (σ : L2.St) (p : PyData → Prop) (te : TE) : Prop := ∀ (H : Hp) (Q : VK), Same H0 H → (∀ x d H', Same H H' → Od K S H' x d → p d → Q x H') → te σ H Q
def GdA (K : PySem.W.Frag) (S : Addr → Prop) (H0 : Hp) (σ : L2.St) (p : PyData → Prop) (n : Nat) (ta : TA) : Prop := ∀ (H : Hp) (Q : List V → Hp → Prop), Same H0 H → (∀ xs ds H', Same H H' → OdAll K S H' xs ds → (∀ d ∈ ds, p d) → xs.length = n → Q xs H') → ta σ H Q
theorem gda_nil : GdA K S H0 σ p 0 tNil := fun H Q s q => q [] [] H (Same.refl H) .nil (fun _ h => (nomatch h)) rfl
theorem gda_cons {te : TE} {ta : TA} {n : Nat} (a : Gd K S H0 σ p te) (b : GdA K S H0 σ p n ta) : GdA K S H0 σ p (n + 1) (tCons te ta) := fun H Q s q =>
  a H _ s fun x d H1 s1 o1 p1 => b H1 _ (s.trans s1) fun xs ds H2 s2 o2 p2 l2 => q (x :: xs) (d :: ds) H2 (s1.trans s2) (.cons (o1.mono (fo_same s2)) o2) (fun e he => by
    rcases List.mem_cons.mp he with rfl | he
    · exact p1
    · exact p2 e he) (by rw [List.length_cons, l2])
theorem gd_non (h : p .none) : Gd K S H0 σ p (tC .non) := fun H Q s q => q _ _ H (Same.refl H) .non h
theorem gd_bl (b : Bool) (h : p (.bool b)) : Gd K S H0 σ p (tC (.bl b)) := fun H Q s q => q _ _ H (Same.refl H) (.bl b) h
theorem gd_int (i : Int) (hs : SmI i) (h : p (.int i)) : Gd K S H0 σ p (tC (.int i)) := fun H Q s q => q _ _ H (Same.refl H) (.int i hs) h
theorem gd_neg (i : Int) (hs : SmI (-i)) (h : p (.int (-i))) : Gd K S H0 σ p (tUn (rU fun i => .int (-i)) (tC (.int i))) := fun H Q s q => ⟨i, rfl, q _ _ H (Same.refl H) (.int _ hs) h⟩
theorem gd_str (z : Str) (hs : z.length ≤ 100000) (h : p (.str z)) : Gd K S H0 σ p (tC (.str z)) := fun H Q s q => q _ _ H (Same.refl H) (.str z hs) h
theorem gd_tup0 (h : p (.tuple [])) : Gd K S H0 σ p (tTup tNil) := fun H Q s q => ⟨by show 0 ≤ sizeLine; decide, fun a ha => q _ _ _ (same_new ha) (.tup (.inl upd_same) .nil) h⟩
theorem gd_lst0 (hS : ∀ a, H0 a = none → S a) (h : p (.list [])) : Gd K S H0 σ p (tLstB tNil) := fun H Q s q => ⟨by show 0 ≤ sizeLine; decide, fun a ha hb => q _ _ _ (same_new ha) (.lst (hS a (s.free ha)) hb upd_same .nil) h⟩
theorem gd_dic0 (hS : ∀ a, H0 a = none → S a) (h : p (.dict [])) : Gd K S H0 σ p tDNewK := fun H Q s q a ha => q _ _ _ (same_new ha) (.dic (hS a (s.free ha)) upd_same) h
theorem gd_pair (i j : Int) (hi : SmI i) (hj : SmI j) (h : p (.tuple [.int i, .int j])) : Gd K S H0 σ p (tTup (tCons (tC (.int i)) (tCons (tC (.int j)) tNil))) := fun H Q s q => ⟨by show 2 ≤ sizeLine; decide, fun a ha => q _ _ _ (same_new ha) (.tup (.inl upd_same) (.cons (.int i hi) (.cons (.int j hj) .nil))) h⟩
theorem gd_pairN (i j : Int) (hi : SmI i) (hj : SmI (-j)) (h : p (.tuple [.int i, .int (-j)])) : Gd K S H0 σ p (tTup (tCons (tC (.int i)) (tCons (tUn (rU fun i => .int (-i)) (tC (.int j))) tNil))) := fun H Q s q => ⟨j, rfl, by show 2 ≤ sizeLine; decide, fun a ha => q _ _ _ (same_new ha) (.tup (.inl upd_same) (.cons (.int i hi) (.cons (.int (-j) hj) .nil))) h⟩
end
end Ly

set_option Elab.async false
set_option linter.all false
set_option maxRecDepth 100000
set_option maxHeartbeats 4000000
/-! -b for a bool; a tuple two or three times, an empty one too -/
namespace Ly
open PySem PySem.Spec PyProof.Rows L2
theorem neg_gives (b : Bool) : Gives (Builtin.«int.__neg__» ⟨[.bool b], []⟩) (.int (-(if b = true then (1 : Int) else 0))) :=
  .of_wp fun M A E s Q h => by obtain ⟨hp, g, d, tk, os⟩ := s; wp_walk; exact ⟨_, rfl, h⟩
theorem neg_bool {prog : Program} {w : World} {A : Around} {E : Value → Shared → Prop} {s : Shared} {b : Bool} {Q : Value → Shared → Prop} (h : Q (.int (-(if b = true then (1 : Int) else 0)) s.toks) { s with toks := s.toks + 1 }) : wpAny (model prog w) A (unaryOp .USub (.bool b)) Q E s :=
  unaryOp_gives (op := .USub) (PyProof.Rows.typeIs_bool' s b) rfl F.slot_bool_neg F.entry_int_neg (F.args_int_neg_1 _) (neg_gives b) h
section
variable {X : Cx}
def rNegB : V → Hp → VK → Prop := fun x H Q => ∃ n, numV x = some n ∧ Q (.int (-n)) H
theorem un_negB : UnR X (unaryOp .USub) rNegB := by
  intro pins s σ H x v Q I rx h
  obtain ⟨n, hn, q⟩ := h
  rcases numV_inv hn with rfl | ⟨b, rfl, rfl⟩
  · obtain ⟨t, rfl⟩ := rx
    exact neg_int ⟨.int _, H, I.tok _, ⟨_, rfl⟩, q⟩
  · cases rx
    exact neg_bool ⟨.int _, H, I.tok _, ⟨_, rfl⟩, q⟩
end
theorem tuple_mulE (l : Addr) (items : Array Value) (n : Nat) (dd : Option Addr) (sl : Array (Option Value)) (x : Int) (u : Tok) (c0 : (decide (x < -(2 ^ 63)) || decide (x ≥ 2 ^ 63)) = false) (hi : items.isEmpty = true) :
    Meets (Builtin.«tuple.__mul__» ⟨[.ref l, .int x u], []⟩) (fun _ R s => s.heap.get? l = some { cls := .type "tuple", dict := dd, data := .seq items n, slots := sl } ∧
      R (.ok (.ret (Value.ref l))) s) :=
  .of_wp fun prog w A R s h => by
    obtain ⟨hp, g, d, tk, os⟩ := s
    obtain ⟨hl, h⟩ := h
    have f1 := AutoSeq1.idx_int
    wp_walk using wpAny_loadPart' hl
    repeat (first
      | (refine wpAny_ite_false (decide_eq_false (by rw [c0]; exact Bool.false_ne_true)) ?_; wp_walk using wpAny_loadPart' hl)
      | (refine wpAny_ite_true (decide_eq_true (by rw [hi]; rfl)) ?_; wp_walk using wpAny_loadPart' hl))
    exact ⟨_, rfl, h⟩
/-- a tuple two or three times -/
def rRep3 (K : PySem.W.Frag) : R2 := fun x y H Q => ∃ l k xs, x = .ref l ∧ y = .int k ∧ SqT K H l xs ∧ 2 ≤ k ∧ k ≤ 3 ∧ xs.length ≤ 100000 ∧ (xs = [] → Q (.ref l) H) ∧ ∀ p, H p = none → Q (.ref p) (upd H p (.tup (List.replicate k.toNat xs).flatten))
theorem op_rep3 {X : Cx} : OpR X (binaryOp .Mult) (rRep3 X.K) := by
  intro pins s σ H x y v u Q I rx ry h
  obtain ⟨l, k, xs, rfl, rfl, hT, h1, h2, hz, q0, q⟩ := h
  cases rx
  obtain ⟨t, rfl⟩ := ry
  obtain ⟨its, r, ⟨⟨cls, dd, data, sl⟩, ho, hc, n, hd⟩, hs⟩ := I.tuple hT
  simp only at hc hd
  subst hc hd
  have hle : its.length = xs.length := r.length.symm
  have c0 : (decide (k < -(2 ^ 63)) || decide (k ≥ 2 ^ 63)) = false := by
    rw [decide_eq_false (by omega), decide_eq_false (by omega)] <;> rfl
  by_cases hne : its = []
  · have x0 : xs = [] := List.eq_nil_of_length_eq_zero (by rw [← hle, hne]; rfl)
    subst hne
    exact wpAny_binaryOp_repeat_ref (T := "tuple") (U := "int") (by decide) ⟨_, ho, rfl⟩ (fun s' => typeIs_int s' k t) noFill_tuple_mul F.fills_int_mul F.slot_int_rmul repeat_tuple F.slot_int_index.lookup
      (call_meets F.slot_int_rmul (typeIs_int s k t) F.entry_int_rmul (F.args_int_rmul_2 _ _) (int_rmul_tuple k t l _ n dd sl)
        ⟨ho, rfl, ⟨_, ho, rfl⟩, call_meets F.slot_tuple_mul ⟨_, ho, rfl⟩ F.entry_tuple_mul (F.args_tuple_mul_2 _ _) (tuple_mulE l _ n dd sl k t c0 rfl) ⟨ho, ⟨.ref l, H, I, rfl, q0 x0⟩⟩⟩)
  have hi : its.toArray.isEmpty = false := by
    cases its with
    | nil => exact absurd rfl hne
    | cons a b => rfl
  have hsz0 : its.toArray.size = xs.length := by rw [List.size_toArray, hle]
  have hm : ((its.toArray.size : Nat) : Int) * k ≤ 1000000 := by
    rw [hsz0]
    have a1 : ((xs.length : Nat) : Int) * k ≤ 100000 * k := Int.mul_le_mul_of_nonneg_right (by omega) (by omega)
    omega
  have flen : (List.replicate k.toNat its).flatten.length ≤ sizeLine := by
    rw [PyProof.Rows.lm_len_rep_flat, hle, sizeLine_eq]
    have a1 : k.toNat * xs.length ≤ 3 * 100000 := Nat.mul_le_mul (by omega) hz
    omega
  have c1 : (its.toArray.isEmpty || k == 1) = false := by
    rw [hi, Bool.false_or]
    exact beq_eq_false_iff_ne.mpr (by omega)
  have c2 : (decide (k ≤ 0) || its.toArray.isEmpty) = false := by
    rw [hi, Bool.or_false]
    exact decide_eq_false (by omega)
  have c4 : Builtin.Tuple.tupleTooMany (((its.toArray.size : Nat) : Int) * k) = false := by
    unfold Builtin.Tuple.tupleTooMany
    rw [sizeLine_eq]
    exact decide_eq_false (by omega)
  refine wpAny_binaryOp_repeat_ref (T := "tuple") (U := "int") (by decide) ⟨_, ho, rfl⟩ (fun s' => typeIs_int s' k t) noFill_tuple_mul F.fills_int_mul F.slot_int_rmul repeat_tuple F.slot_int_index.lookup
    (call_meets F.slot_int_rmul (typeIs_int s k t) F.entry_int_rmul (F.args_int_rmul_2 _ _) (int_rmul_tuple k t l its.toArray n dd sl)
      ⟨ho, rfl, ⟨_, ho, rfl⟩, call_meets F.slot_tuple_mul ⟨_, ho, rfl⟩ F.entry_tuple_mul (F.args_tuple_mul_2 _ _) (tuple_mulW l its.toArray n dd sl k t c0 c1 c2 (by omega) c4 (by rw [size_rep, List.size_toArray]; exact flen)) ⟨ho, ?_⟩⟩)
  rw [size_rep]
  refine ⟨.ref s.heap.objs.size, _, I.laid (t' := s.toks) (o := .tup (List.replicate k.toNat xs).flatten) (fun b ob q => Heap.get?_push_of_some _ q) (Nat.le_refl _) ?_, rfl, q _ (I.hok.fresh (Nat.le_refl _))⟩
  exact ⟨by rw [PyProof.Rows.lm_len_rep_flat, sizeLine_eq]; have a1 : k.toNat * xs.length ≤ 3 * 100000 := Nat.mul_le_mul (by omega) hz; omega, _, r.rep k.toNat, IsTup.new _ _⟩
theorem kop_rep3 {X : Cx} (K : PySem.W.Frag) (e : X.K = K := by rfl) : OpR X (binaryOp .Mult) (rRep3 K) := by subst e; exact op_rep3
end Ly

set_option Elab.async false
set_option linter.all false
set_option maxRecDepth 100000
set_option exponentiation.threshold 20000
set_option pp.deepTerms false
set_option pp.deepTerms.threshold 8
namespace K63
open PySem PySem.Spec PyProof.Rows L2 Ly Mt
/-! ### odd data made of odd data -/
mutual
theorem od_sub {K : PySem.W.Frag} {S S' : Addr → Prop} {H : Hp} (h : ∀ a, S a → S' a) : ∀ {v : V} {d : PyData}, Od K S H v d → Od K S' H v d
  | _, _, .non => .non
  | _, _, .bl b => .bl b
  | _, _, .int i l => .int i l
  | _, _, .str x l => .str x l
  | _, _, .tup e r => .tup e (odAll_sub h r)
  | _, _, .lst s b e r => .lst (h _ s) b e (odAll_sub h r)
  | _, _, .dic s e => .dic (h _ s) e
theorem odAll_sub {K : PySem.W.Frag} {S S' : Addr → Prop} {H : Hp} (h : ∀ a, S a → S' a) : ∀ {vs : List V} {ds : List PyData}, OdAll K S H vs ds → OdAll K S' H vs ds
  | _, _, .nil => .nil
  | _, _, .cons a r => .cons (od_sub h a) (odAll_sub h r)
end
theorem odAll_rep {K : PySem.W.Frag} {S : Addr → Prop} {H : Hp} {vs : List V} {ds : List PyData} (h : OdAll K S H vs ds) : ∀ n : Nat, OdAll K S H (List.replicate n vs).flatten (List.replicate n ds).flatten
  | 0 => .nil
  | n + 1 => by
    rw [List.replicate_succ, List.replicate_succ, List.flatten_cons, List.flatten_cons]
    exact h.app (odAll_rep h n)
theorem cat_bigO {K : PySem.W.Frag} {a b : Addr} {xs ys : List V} {H : Hp} {Q : VK} (h : ITup K H a xs) (h2 : ITup K H b ys) (hz : xs.length + ys.length ≤ sizeLine) (q : ∀ p H', Same H H' → ITup K H' p (xs ++ ys) → Q (.ref p) H') : rCatA K (.ref a) (.ref b) H Q := by
  refine ⟨a, b, xs, ys, rfl, rfl, h.sq, h2.sq, hz, fun e => q b H (Same.refl H) (by rw [e]; exact h2), fun _ e => q a H (Same.refl H) (by rw [e, List.append_nil]; exact h), fun _ _ p hp => q p _ (same_new hp) (.inl upd_same)⟩
theorem sl_any' {K : PySem.W.Frag} {a : Addr} {xs : List V} {lo hi : Option Int} {H : Hp} {Q : VK} (h : ITup K H a xs) (q : ∀ p H', Same H H' → ITup K H' p (cutV xs lo hi) → Q (.ref p) H') : rSlA K (.ref a) lo hi H Q :=
  ⟨a, xs, rfl, h.sq, fun w => q a H (Same.refl H) (by
    have e : cutV xs lo hi = xs := by
      unfold cutV
      rw [w.1, w.2]; simp
    rw [e]; exact h), fun _ p hp => q p _ (same_new hp) (.inl upd_same)⟩
theorem cut_from {ws : List V} {n : Nat} (h : n ≤ ws.length) : cutV ws (some (n : Int)) none = ws.drop n := by
  unfold cutV
  rw [HT.sIx_none, HT.sIx_nat, Nat.min_eq_left h]
  exact List.take_of_length_le (by rw [List.length_drop]; exact Nat.le_refl _)
theorem len_bulk : ∀ ds : List PyData, ds.length ≤ PyData.bulkAll ds
  | [] => Nat.le_refl _
  | d :: ds => by
    have := len_bulk ds
    show ds.length + 1 ≤ d.bulk + 1 + PyData.bulkAll ds
    omega
theorem sm_of {L B : Nat} {i : Int} (h : lfD L B (.int i) = true) (hB : B ≤ 1900) : SmI i := Nat.lt_of_lt_of_le (of_decide_eq_true h) (Nat.pow_le_pow_right (by decide) hB)
theorem set_lstB {K : PySem.W.Frag} {S : Addr → Prop} {H0 H : Hp} {σ : L2.St} {p : PyData → Prop} {n i : Nat} {ta : TA} {u : TS} {D : L2.Ends} (g : GdA K S H0 σ p n ta) (s : Same H0 H) (hn : n ≤ 999)
    (k : ∀ ws es H2 M, Same H H2 → OdAll K S H2 ws es → (∀ d ∈ es, p d) → ws.length = n → H2 M = none → sysModules < M → u D (σ.set i (some (.ref M))) (upd H2 M (.lst ws))) : tSeq (tAsg (tLstB ta) (gName i)) u D σ H :=
  g H _ s fun ws es H2 s2 o2 p2 l2 => ⟨Nat.le_of_lt (small1000 (by omega)), fun M hM hb => k ws es H2 M s2 o2 p2 l2 hM hb⟩
/-! ### what is made of a tuple, a text, a number -/
theorem cut_od {K : PySem.W.Frag} {S : Addr → Prop} {H : Hp} {xs : List V} {ds : List PyData} (h : OdAll K S H xs ds) (lo hi : Option Int) : ∃ es, OdAll K S H (cutV xs lo hi) es ∧ (∀ e ∈ es, e ∈ ds) ∧ PyData.bulkAll es ≤ PyData.bulkAll ds :=
  ⟨(ds.drop (HT.sIx xs.length 0 lo)).take (HT.sIx xs.length xs.length hi - HT.sIx xs.length 0 lo), (h.drop _).take _, fun e he => List.mem_of_mem_drop (List.mem_of_mem_take he), Nat.le_trans (bulkAll_take _ _) (bulkAll_drop _ _)⟩
abbrev rSlTT (K : PySem.W.Frag) : V → Option Int → Option Int → Hp → VK → Prop := fun x lo hi H Q => rSlS x lo hi H Q ∨ rSlA K x lo hi H Q
abbrev rAddS : R2 := fun x y H Q => ∃ i j, x = .str i ∧ y = .str j ∧ i.length + j.length ≤ sizeLine ∧ Q (.str (i ++ j)) H
section
variable {K : PySem.W.Frag} {S : Addr → Prop} {H0 : Hp} {σ : L2.St} {p : PyData → Prop} {v : V} {t : PyData}
theorem g_one (hv : σ[1]? = some (some v)) (o : Od K S H0 v t) (h : p (.tuple [t])) : Gd K S H0 σ p (tTup (tCons (tVar 1) tNil)) := fun H Q s q =>
  ⟨v, hv, by show 1 ≤ sizeLine; decide, fun l hl => q _ _ _ (same_new hl) (.tup (.inl upd_same) (.cons (o.mono (fo_same (s.trans (same_new hl)))) .nil)) h⟩
theorem g_lst (hv : σ[1]? = some (some v)) (o : Od K S H0 v t) (hS : ∀ a, H0 a = none → S a) (h : p (.list [t])) : Gd K S H0 σ p (tLstB (tCons (tVar 1) tNil)) := fun H Q s q =>
  ⟨v, hv, by show 1 ≤ sizeLine; decide, fun l hl hb => q _ _ _ (same_new hl) (.lst (hS l (s.free hl)) hb upd_same (.cons (o.mono (fo_same (s.trans (same_new hl)))) .nil)) h⟩
end
end K63

set_option Elab.async false
set_option linter.all false
set_option maxRecDepth 100000
/-! list of a dict with nested keys; xs[a::n] of a list -/
namespace Ly
open PySem PySem.Spec PyProof.Rows L2
def rListN (P : Program) (w : World) (K : PySem.W.Frag) : List V → Hp → VK → Prop := fun vs H Q => ∃ a xs, vs = [.ref a] ∧ H a = some (dN P w a xs) ∧ KeysIm K H xs ∧ ∀ p, H p = none → Q (.ref p) (upd H p (.lst (xs.map fun x => V.ref x.2.1)))
theorem call_listN {X : Cx} (hcalm : X.calm = true := by rfl) : CallR X (.type "list") (rListN X.prog X.w X.K) := by
  intro pins s σ H vs us Q I r q
  obtain ⟨a, xs, ex, e, ks, q⟩ := q
  subst ex
  obtain ⟨u, eu, rx⟩ := vals1 r
  subst eu
  cases rx
  obtain ⟨z, lo, dd⟩ := dN_of I e ks
  obtain ⟨es, ep, hr, hsz, he⟩ := dd.raw
  rw [List.length_map] at hsz
  refine PySem.W.kdl_call (PySem.KdlSrc.rawDict (es := es) (ep := ep) lo) (I.ok.hd hcalm) hr (by rw [hsz]; exact z) fun h' tk acc' c' kp e' it => ?_
  have hal : acc'.toList.length = xs.length := by rw [Array.length_toList, it.1, hsz]
  have rv : Vals (xs.map fun x => V.ref x.2.1) acc'.toList := by
    refine vals_of_at (by rw [List.length_map, hal]) fun j x u h1 h2 => ?_
    rw [Array.getElem?_toList] at h2
    obtain ⟨hi, e1⟩ := it.2 j u h2
    obtain ⟨y, hy, h3, _⟩ := he j hi
    rw [List.getElem?_map] at h1 hy
    obtain ⟨b, hb, rfl⟩ := Option.map_eq_some_iff.mp h1
    rw [hb] at hy
    obtain rfl := Option.some.inj hy
    rw [e1, h3]
    exact rfl
  have hz : (xs.map fun x => V.ref x.2.1).length ≤ sizeLine := by rw [List.length_map]; exact z
  refine ⟨.ref s.heap.objs.size, _, I.laid (t' := tk) (o := .lst (xs.map fun x => V.ref x.2.1)) kp (Nat.le_refl _) ?_, rfl, q _ (I.hok.fresh (Nat.le_refl _))⟩
  exact ⟨hz, acc'.toList, c', rv, by rw [Array.toArray_toList]; exact e'⟩
theorem kcall_listN {X : Cx} (P : Program) (w : World) (K : PySem.W.Frag) (hcalm : X.calm = true := by rfl) (e1 : X.prog = P := by rfl) (e2 : X.w = w := by rfl) (e3 : X.K = K := by rfl) : CallR X (.type "list") (rListN P w K) := by
  subst e1 e2 e3; exact call_listN hcalm
/-! ### every n-th item -/
def tStepL (K : PySem.W.Frag) (te tl : TE) : TE := fun σ H Q => te σ H fun x H1 => tPart tl σ H1 fun o H2 => ∃ i a xs, o = some i ∧ x = .ref a ∧ SqL K H2 a xs ∧ ∀ p ys, (∀ v ∈ ys, v ∈ xs) → ys.length ≤ xs.length → H2 p = none → Q (.ref p) (upd H2 p (.lst ys))
def pickV (xs : List V) (ix : List Nat) : List V := ix.filterMap (xs[·]?)
theorem pick_vals {xs : List V} {us : List Value} (r : Vals xs us) : ∀ ix : List Nat, Vals (pickV xs ix) (ix.filterMap (us.toArray[·]?))
  | [] => .nil
  | i :: ix => by
    have ih := pick_vals r ix
    unfold pickV at ih ⊢
    rw [List.filterMap_cons, List.filterMap_cons]
    have e : us.toArray[i]? = us[i]? := by simp
    rw [e]
    cases h : xs[i]? with
    | none =>
      have : us[i]? = none := by
        have hl := r.length
        have := List.getElem?_eq_none_iff.mp h
        exact List.getElem?_eq_none (by omega)
      rw [this]; exact ih
    | some x =>
      obtain ⟨u, h1, h2⟩ := r.get h
      rw [h1]
      exact .cons h2 ih
theorem pick_mem (xs : List V) (ix : List Nat) : ∀ v ∈ pickV xs ix, v ∈ xs := fun v hv => by
  obtain ⟨i, _, h⟩ := List.mem_filterMap.mp hv
  exact List.mem_of_getElem? h
theorem pe_stepL {X : Cx} {e lo : Expr} {te tl : TE} {n : Int} (n0 : n ≠ 0) {k : Nat} {p1 p3 pos : Pos} (he : PE X e te) (hl : PE X lo tl) : PE X (.Subscript e (.Slice (some lo) none (some (.Constant (.int n) k p1)) p3) pos) (tStepL X.K te tl) := by
  refine ⟨fun pins s σ H Q I h => ?_⟩
  refine Subscript_ (thn (he.run pins s σ H _ I h) fun v s1 ⟨x, H1, I1, r1, q1⟩ => ?_)
  have hst : PO X (some (.Constant (.int n) k p1)) (tPart (tC (.int n))) := po_some pe_int
  refine wpAny_Slice (thn ((po_some hl).run pins s1 σ H1 _ I1 q1) fun vl s2 ⟨l, H2, I2, pl, i, a, xs, el, ex, hx, q⟩ => ?_)
  subst el ex
  cases r1
  refine thn (po_none.run pins s2 σ H2 (fun o H3 => o = none ∧ H3 = H2) I2 ⟨rfl, rfl⟩) fun vu s3 ⟨u, H3, I3, pu, eu, e3⟩ => ?_
  subst eu e3
  refine thn (hst.run pins s3 σ H3 (fun o H4 => o = some n ∧ H4 = H3) I3 ⟨n, rfl, rfl, rfl⟩) fun vs s4 ⟨o, H4, I4, ps, eo, e4⟩ => ?_
  subst eo e4
  have I5 : Inv X pins σ H4 { s4 with heap := s4.heap.push { cls := .type "slice", data := .fields #[vl, vu, vs] } } := I4.kept (t' := s4.toks) fun b ob q => Heap.get?_push_of_some _ q
  obtain ⟨its, r, ht, hz⟩ := I5.list hx
  have hlen := r.length
  show wpAny (model X.prog X.w) X.A (subscriptTail e (.Slice (some lo) none (some (.Constant (.int n) k p1)) p3) (.ref a) (.ref s4.heap.objs.size)) (EP X pins σ Q) X.xe { s4 with heap := s4.heap.push { cls := .type "slice", data := .fields #[vl, vu, vs] } }
  refine tail_any (ops := [.ref a, .ref s4.heap.objs.size]) ht.isList.typeIs (PySem.slot_list_getitem.lookup) ?_ (by with_unfolding_all rfl)
  refine wpAny_getItem_list_slice ht.isList (Heap.IsSliceOf.new _ vl vu vs) pl pu ps (fun z => n0 (Option.some.inj z)) ?_ (by rw [List.size_toArray]; omega)
  have hsz := slicePick_size_le its.toArray (some i) none (some n)
  unfold slicePick at hsz ⊢
  rw [List.size_toArray, List.size_toArray] at hsz
  generalize sliceRange (sliceBounds (some i) none (some n) its.toArray.size).1 (sliceBounds (some i) none (some n) its.toArray.size).2.1 (sliceBounds (some i) none (some n) its.toArray.size).2.2 = ix at *
  have rp := pick_vals r ix
  have lp := rp.length
  refine ⟨.ref _, _, I5.laid (t' := s4.toks) (o := .lst (pickV xs ix)) (fun b ob q => Heap.get?_push_of_some _ q) (Nat.le_refl _) ?_, rfl, q _ _ (pick_mem xs ix) (by omega) (I5.hok.fresh (Nat.le_refl _))⟩
  exact ⟨by omega, _, 0, rp, Heap.get?_push_size _ rfl⟩
theorem kpe_stepL {X : Cx} (K : PySem.W.Frag) {e lo : Expr} {te tl : TE} {n : Int} (n0 : n ≠ 0) {k : Nat} {p1 p3 pos : Pos} (he : PE X e te) (hl : PE X lo tl) (eK : X.K = K := by rfl) : PE X (.Subscript e (.Slice (some lo) none (some (.Constant (.int n) k p1)) p3) pos) (tStepL K te tl) := by
  subst eK; exact pe_stepL n0 he hl
end Ly

set_option Elab.async false
set_option linter.all false
set_option maxRecDepth 100000
set_option exponentiation.threshold 20000
set_option pp.deepTerms false
set_option pp.deepTerms.threshold 8
namespace K63
open PySem PySem.Spec PyProof.Rows L2 Ly Mt
/-! ### the well of draws -/
/-- a well at w, its cells at l, drawn from at most n times -/
structure Wel (H : Hp) (w l : Addr) (n : Nat) : Prop where
  ex : ∃ (xs : List Int) (st c : Int), H w = some (.lst [.ref l, .int st, .int c]) ∧ H l = some (.lst (xs.map V.int)) ∧ xs.length ≤ 1000 ∧ 0 ≤ st ∧ st < 2147483647 ∧ 0 ≤ c ∧ c ≤ n
  ne : w ≠ l
/-- all stays but at two places -/
def But2 (w l : Addr) (H H' : Hp) : Prop := ∀ b o, b ≠ w → b ≠ l → H b = some o → H' b = some o
theorem But2.refl (w l : Addr) (H : Hp) : But2 w l H H := fun _ _ _ _ h => h
theorem But2.trans {w l : Addr} {H H1 H2 : Hp} (a : But2 w l H H1) (b : But2 w l H1 H2) : But2 w l H H2 := fun x o h1 h2 h => b x o h1 h2 (a x o h1 h2 h)
theorem but2_same {w l : Addr} {H H' : Hp} (s : Same H H') : But2 w l H H' := fun b o _ _ h => s b o h
section
variable {w l : Addr} {H H' : Hp} {n : Nat}
theorem Wel.mono (u : Wel H w l n) {m : Nat} (h : n ≤ m) : Wel H w l m := by
  obtain ⟨xs, st, c, h1, h2, h3, h4, h5, h6, h7⟩ := u.ex
  exact ⟨⟨xs, st, c, h1, h2, h3, h4, h5, h6, by omega⟩, u.ne⟩
theorem But2.tk (s : But2 w l H H') (u : Wel H w l n) : TK H H' := fun b xs e => by
  obtain ⟨_, _, _, h1, h2, _⟩ := u.ex
  exact s b _ (fun z => by subst z; rw [h1] at e; cases e) (fun z => by subst z; rw [h2] at e; cases e) e
theorem Wel.same (u : Wel H w l n) (s : Same H H') : Wel H' w l n := by
  obtain ⟨xs, st, c, h1, h2, r⟩ := u.ex
  exact ⟨⟨xs, st, c, s _ _ h1, s _ _ h2, r⟩, u.ne⟩
theorem Wel.w0 (u : Wel H w l n) : H w ≠ none := by
  obtain ⟨_, _, _, h1, _⟩ := u.ex
  rw [h1]; exact Option.some_ne_none _
theorem Wel.l0 (u : Wel H w l n) : H l ≠ none := by
  obtain ⟨_, _, _, _, h2, _⟩ := u.ex
  rw [h2]; exact Option.some_ne_none _
theorem Wel.nw (u : Wel H w l n) {D : Addr} (h : H D = none) : D ≠ w := fun z => u.w0 (by rw [← z]; exact h)
theorem Wel.nl (u : Wel H w l n) {D : Addr} (h : H D = none) : D ≠ l := fun z => u.l0 (by rw [← z]; exact h)
theorem Wel.upd {D : Addr} {o : HO} (u : Wel H w l n) (h1 : D ≠ w) (h2 : D ≠ l) : Wel (upd H D o) w l n := by
  obtain ⟨xs, st, c, e1, e2, r⟩ := u.ex
  exact ⟨⟨xs, st, c, by rw [upd_ne h1.symm]; exact e1, by rw [upd_ne h2.symm]; exact e2, r⟩, u.ne⟩
theorem But2.free {p : Addr} (s : But2 w l H H') (u : Wel H' w l n) (h : H' p = none) : H p = none := by
  cases e : H p with
  | none => rfl
  | some o => rw [s p o (u.nw h) (u.nl h) e] at h; cases h
/-- a list put elsewhere -/
theorem But2.put {D : Addr} {o : HO} (s : But2 w l H H') (h : H D = none) : But2 w l H (upd H' D o) := fun b o' h1 h2 e => by
  rw [upd_ne (ne_of_none e h)]; exact s b o' h1 h2 e
end
theorem ixN_nat {n p : Nat} (h : p < n) : ixN n (p : Int) = some p := by
  unfold ixN
  rw [if_pos (by omega), if_pos (by omega)]; rfl
theorem fmod_bd {x m : Int} (h : 0 < m) : 0 ≤ x.fmod m ∧ x.fmod m < m := by
  rw [Int.fmod_eq_emod_of_nonneg _ (by omega)]
  exact ⟨Int.emod_nonneg _ (by omega), Int.emod_lt_of_pos _ h⟩
def Cell (c : Int) : Prop := ∃ n, n ≤ 1100000 ∧ c.natAbs < 2 ^ n
section
variable {P : Program} {w : World} {K : PySem.W.Frag} {mg : Str → Option Value} {base : Heap}
abbrev s__law_well : Stmt := topS 33
theorem sc__law_well : FnScope ["script", "stir", "cell"] ["script"] (defScope s__law_well) := ⟨rfl, rfl, rfl, by decide +kernel, rfl, by decide +kernel, by decide +kernel⟩
def sp_well (K : PySem.W.Frag) : Sp := fun vs H Q _ => ∃ (a : Addr) (ns : List Int), vs = [.ref a] ∧ SqL K H a (ns.map V.int) ∧ ns.length ≤ 63 ∧ ∀ w l H', Same H H' → H w = none → H l = none → Wel H' w l 0 → Q (.ref w) H'
theorem ok__law_well {f : Addr} {fd : FuncData} {k : Nat} (F : Fun K "_law_well" "_law_well" s__law_well f fd) (T : Tx K mg) : FnOk P w K mg base CX0 (k + 1) f fd ["script"] (sp_well K) := by
  have nd := sc__law_well.nd
  refine F.ok sc__law_well (fun vs H Q E h => ?_) (fun cdv A outer s H vs Q E hr h => ?_)
  · obtain ⟨_, _, rfl, _⟩ := h
    rfl
  · obtain ⟨a, ns, rfl, hS, n63, q⟩ := h
    refine ⟨_, (pss_cons (ps_set (i := 1) nd rfl (.inl rfl) pe_int)
      (pss_cons (ps_for PassesOwn.never rfl (kpi_list K (pv 0)) (pg_name (i := 2) nd rfl (.inl rfl))
        (pss_one (ps_set (i := 1) nd rfl (.inl rfl) (pe_op op_modN (pe_callTy call_int1 (by rfl) T.m_int (by decide +kernel) (pa_cons (pe_op op_add (pe_op op_add (pe_op op_mulW (pv 1) pe_int) (pe_op op_modN (pe_callTy call_int1 (by rfl) T.m_int (by decide +kernel) (pa_cons (pv 2) pa_nil)) pe_int)) pe_int) pa_nil)) pe_int))))
      (pss_one (ps_ret (pe_lst (pa_cons (pe_lc (own := [("cell", 2)]) (g := gName 2) rfl nd (kpi_list K (pv 0)) (blkOk_by (by rfl)) (fun _ _ _ _ _ => (pg_name (i := 2) nd rfl (.inl rfl))) (fun _ _ _ _ _ => (pts_one (pt_cmpR op_gt (pv 2) (pe_op op_pow pe_int pe_int) (nomark _)))) (fun _ _ _ _ _ => (pe_op op_sub (pe_callTy call_int1 (by rfl) T.m_int (by decide +kernel) (pa_cons (pv 2) pa_nil)) (pe_op op_pow pe_int pe_int)))) (pa_cons (pv 1) (pa_cons pe_int pa_nil)))))))), ?_⟩
    refine ⟨.ref a, rfl, a, rfl, ⟨_, hS⟩, ?_⟩
    refine for_it (walk_list (xs := ns.map V.int)) (fun i σ Ha => ∃ (st : Int) (y2 : Option V), σ = [some (.ref a), some (.int st), y2] ∧ Same H Ha ∧ 0 ≤ st ∧ st < 2147483647) ⟨7, none, rfl, Same.refl _, by decide, by decide⟩ (fun i σ Ha _ z => ?_) ?_ ?_
    · obtain ⟨_, _, _, s, _⟩ := z
      exact sql_same' hS s
    · rintro i x σ Ha Hb hi ⟨st, y2, rfl, sa, s0, s1⟩ ⟨rfl, hxi⟩
      rw [List.getElem?_map] at hxi
      obtain ⟨cell, hc, rfl⟩ := Option.map_eq_some_iff.mp hxi
      have m1 := fmod_bd (x := cell) (m := 2147483629) (by decide)
      refine ⟨.int st, rfl, _, _, rfl, rfl, wide_mul (a := 32) (b := 20) (by omega) (by decide) (by decide) (by decide) (by decide), .int cell, rfl, .inl ⟨_, rfl, _, _, rfl, rfl, (by show (2147483629 : Int) ≠ 0; decide), _, _, rfl, rfl, _, _, rfl, rfl, .inl ⟨_, rfl, _, _, rfl, rfl, (by show (2147483647 : Int) ≠ 0; decide), ?_⟩⟩⟩
      have m2 := fmod_bd (x := st * 48271 + cell.fmod 2147483629 + 11) (m := 2147483647) (by decide)
      exact ⟨_, _, rfl, sa, m2.1, m2.2⟩
    · rintro σ Ha ⟨st, y2, rfl, sa, s0, s1⟩
      refine ⟨.ref a, rfl, a, rfl, ⟨_, sql_same' hS sa⟩, fun L hL => ?_⟩
      refine lc_it (walk_list (xs := ns.map V.int)) (fun i Hx => Same Ha Hx ∧ ∃ xs : List Int, Hx L = some (.lst (xs.map V.int)) ∧ xs.length ≤ i) ⟨same_new hL, [], upd_same, Nat.le_refl _⟩ (fun i Hx _ z => sql_same' hS (sa.trans z.1)) (fun i x Hx Hy hi z y => ?_) (fun Hx z => ?_)
      · obtain ⟨sx, xs, eL, lx⟩ := z
        obtain ⟨rfl, hxi⟩ := y
        rw [List.getElem?_map] at hxi
        obtain ⟨cell, hc, rfl⟩ := Option.map_eq_some_iff.mp hxi
        refine ⟨rfl, .int cell, rfl, _, _, rfl, rfl, ⟨by decide, by decide, by decide⟩, _, _, rfl, rfl, _, rfl, ?_⟩
        by_cases h : cell > (10 : Int) ^ (18 : Int).toNat
        · rw [decide_eq_true h]
          refine iteT ⟨.int cell, rfl, .inl ⟨_, rfl, _, _, rfl, rfl, ⟨by decide, by decide, by decide⟩, _, _, rfl, rfl, _, eL, small1000 (by rw [List.length_map]; rw [List.length_map] at hi; omega), fun b o e => ?_, xs ++ [cell - (10 : Int) ^ (18 : Int).toNat], ?_, ?_⟩⟩
          · rw [upd_ne (ne_of_none e hL)]; exact sx _ _ e
          · rw [upd_same, List.map_append]; rfl
          · rw [List.length_append]; show _ + 1 ≤ _; omega
        · rw [decide_eq_false h]
          exact iteF ⟨sx, xs, eL, by omega⟩
      · obtain ⟨sx, xs, eL, lx⟩ := z
        rw [List.length_map] at lx
        refine ⟨.int st, rfl, by show 3 ≤ sizeLine; decide, fun W hW => ?_⟩
        have sW := same_new (o := .lst [.ref L, .int st, .int 0]) hW
        have nWL : W ≠ L := (ne_of_none eL hW).symm
        exact q W L _ ((sa.trans sx).trans sW) ((sa.trans sx).free hW) (sa.free hL) ⟨⟨xs, st, 0, upd_same, sW _ _ eL, by omega, s0, s1, by omega, by omega⟩, nWL⟩
abbrev s__law_draw : Stmt := topS 34
theorem sc__law_draw : FnScope ["well", "many", "top"] ["well", "many"] (defScope s__law_draw) := ⟨rfl, rfl, rfl, by decide +kernel, rfl, by decide +kernel, by decide +kernel⟩
def sp_draw : Sp := fun vs H Q _ => ∃ (c l : Addr) (m : Int) (n : Nat), vs = [.ref c, .int m] ∧ Wel H c l n ∧ n < 2 ^ 60 ∧ 0 < m ∧ m.natAbs < 2 ^ 60 ∧ ∀ (d : Nat) H', (d : Int) < m → Wel H' c l (n + 1) → But2 c l H H' → Q (.int (d : Nat)) H'
theorem ok__law_draw {f : Addr} {fd : FuncData} {k : Nat} (F : Fun K "_law_draw" "_law_draw" s__law_draw f fd) (T : Tx K mg) : FnOk P w K mg base CX0 (k + 1) f fd ["well", "many"] sp_draw := by
  have nd := sc__law_draw.nd
  refine F.ok sc__law_draw (fun vs H Q E h => ?_) (fun cdv A outer s H vs Q E hr h => ?_)
  · obtain ⟨_, _, _, _, rfl, _⟩ := h
    rfl
  · obtain ⟨c, l, m, n, rfl, u, n60, m0, m60, q⟩ := h
    obtain ⟨xs, st, cn, h1, h2, h3, h4, h5, h6, h7⟩ := u.ex
    refine ⟨_, (pss_cons (ps_if (pt_cmpR (kop_neNil K hr.units) (pe_ix (kix_list K) (pv 0) pe_int (fun _ _ => rfl)) (pe_lst pa_nil) (nomark _))
        (pss_cons (ps_set (i := 2) nd rfl (.inl rfl) (pe_ix (kix_list K) (pe_ix (kix_list K) (pv 0) pe_int (fun _ _ => rfl)) pe_int (fun _ _ => rfl)))
        (pss_cons (ps_if (pt_cmpR op_lt (pv 2) (pv 1) (nomark _))
          (pss_one (ps_expr (pe_bm PySem.F.plainAttrs_list PySem.F.slot_list_pop PySem.F.type_list_pop mt_popAt (pe_ix (kix_list K) (pv 0) pe_int (fun _ _ => rfl)) (pa_cons pe_int pa_nil))))
          (pss_one (ps_asg (pe_op op_fdivW (pv 2) (pv 1)) (pg_sub (pe_ix (kix_list K) (pv 0) pe_int (fun _ _ => rfl)) pe_int set_list))))
        (pss_one (ps_ret (pe_op op_modN (pe_callTy call_int1 (by rfl) T.m_int (by decide +kernel) (pa_cons (pv 2) pa_nil)) (pv 1))))))
        pss_nil)
      (pss_cons (ps_asg (pe_op op_add (pe_ix (kix_list K) (pv 0) pe_int (fun _ _ => rfl)) pe_int) (pg_sub (pv 0) pe_int set_list))
      (pss_cons (ps_asg (pe_op op_modN (pe_callTy call_int1 (by rfl) T.m_int (by decide +kernel) (pa_cons (pe_op op_add (pe_op op_add (pe_op op_mulW (pe_ix (kix_list K) (pv 0) pe_int (fun _ _ => rfl)) pe_int) (pe_op op_mulW (pe_op op_mulW pe_int (pe_ix (kix_list K) (pv 0) pe_int (fun _ _ => rfl))) (pe_ix (kix_list K) (pv 0) pe_int (fun _ _ => rfl)))) pe_int) pa_nil)) pe_int) (pg_sub (pv 0) pe_int set_list))
      (pss_one (ps_ret (pe_op op_modN (pe_op op_fdivW (pe_op op_modN (pe_callTy call_int1 (by rfl) T.m_int (by decide +kernel) (pa_cons (pe_op op_mulW (pe_ix (kix_list K) (pv 0) pe_int (fun _ _ => rfl)) (pe_ix (kix_list K) (pv 0) pe_int (fun _ _ => rfl))) pa_nil)) pe_int) pe_int) (pv 1))))))), ?_⟩
    refine ⟨.ref c, rfl, c, _, 0, _, rfl, rfl, .of h1, atI_nat (j := 0) rfl, by show 0 ≤ sizeLine; decide, fun Z hZ => ?_⟩
    have sZ := same_new (o := .lst []) hZ
    have e1 := sZ _ _ h1
    have e2 := sZ _ _ h2
    have eZ : (upd H Z (.lst [])) Z = some (.lst []) := upd_same
    refine ⟨l, Z, _, rfl, rfl, .of e2, .of eZ, _, rfl, ?_⟩
    have ne := u.ne
    clear eZ
    generalize upd H Z (.lst []) = H1 at *
    have b1 : But2 c l H H1 := but2_same sZ
    cases xs with
    | nil =>
      refine iteF ?_
      refine ⟨.ref c, rfl, c, _, 2, _, rfl, rfl, .of e1, atI_nat (j := 2) rfl, _, _, rfl, rfl, .ref c, rfl, c, _, 2, 2, rfl, rfl, e1, ixN_nat (p := 2) (show 2 < 3 by decide), ?_⟩
      dsimp only [List.set]
      have f1 : (upd H1 c (.lst [.ref l, .int st, .int (cn + 1)])) c = some (.lst [.ref l, .int st, .int (cn + 1)]) := upd_same
      have f2 : (upd H1 c (.lst [.ref l, .int st, .int (cn + 1)])) l = some (.lst []) := by rw [upd_ne ne.symm]; exact e2
      have b2 : But2 c l H1 (upd H1 c (.lst [.ref l, .int st, .int (cn + 1)])) := fun b o g1 g2 e => by rw [upd_ne g1]; exact e
      show (tSeq _ _ : TS) _ _ (upd H1 c (.lst [.ref l, .int st, .int (cn + 1)]))
      generalize upd H1 c (.lst [.ref l, .int st, .int (cn + 1)]) = H2 at *
      have c62 : (cn + 1).natAbs < 2 ^ 62 := by omega
      refine ⟨.ref c, rfl, c, _, 1, _, rfl, rfl, .of f1, atI_nat (j := 1) rfl, _, _, rfl, rfl, wide_mul (a := 32) (b := 20) (by omega) (by decide) (by decide) (by decide) (by decide), ?_⟩
      refine ⟨.ref c, rfl, c, _, 2, _, rfl, rfl, .of f1, atI_nat (j := 2) rfl, _, _, rfl, rfl, wide_mul (a := 20) (b := 62) (by decide) c62 (by decide) (by decide) (by decide), ?_⟩
      have c82 : (69621 * (cn + 1)).natAbs < 2 ^ 82 := by omega
      refine ⟨.ref c, rfl, c, _, 2, _, rfl, rfl, .of f1, atI_nat (j := 2) rfl, _, _, rfl, rfl, wide_mul (a := 82) (b := 62) c82 c62 (by decide) (by decide) (by decide), _, _, rfl, rfl, _, _, rfl, rfl, .inl ⟨_, rfl, _, _, rfl, rfl, (by show (2147483647 : Int) ≠ 0; decide), .ref c, rfl, c, _, 1, 1, rfl, rfl, f1, ixN_nat (p := 1) (show 1 < 3 by decide), ?_⟩⟩
      have m1 := fmod_bd (x := st * 48271 + 69621 * (cn + 1) * (cn + 1) + 40692) (m := 2147483647) (by decide)
      dsimp only [List.set]
      show (tRet _ : TS) _ _ (upd H2 c (.lst [.ref l, .int ((st * 48271 + 69621 * (cn + 1) * (cn + 1) + 40692).fmod 2147483647), .int (cn + 1)]))
      generalize (st * 48271 + 69621 * (cn + 1) * (cn + 1) + 40692).fmod 2147483647 = st2 at *
      have g1 : (upd H2 c (.lst [.ref l, .int st2, .int (cn + 1)])) c = some (.lst [.ref l, .int st2, .int (cn + 1)]) := upd_same
      have g2 : (upd H2 c (.lst [.ref l, .int st2, .int (cn + 1)])) l = some (.lst []) := by rw [upd_ne ne.symm]; exact f2
      have b3 : But2 c l H2 (upd H2 c (.lst [.ref l, .int st2, .int (cn + 1)])) := fun b o g1 g2 e => by rw [upd_ne g1]; exact e
      generalize upd H2 c (.lst [.ref l, .int st2, .int (cn + 1)]) = H3 at *
      refine ⟨.ref c, rfl, c, _, 1, _, rfl, rfl, .of g1, atI_nat (j := 1) rfl, .ref c, rfl, c, _, 1, _, rfl, rfl, .of g1, atI_nat (j := 1) rfl, _, _, rfl, rfl, wide_mul (a := 32) (b := 32) (by omega) (by omega) (by decide) (by decide) (by decide), .inl ⟨_, rfl, _, _, rfl, rfl, (by show (2147483629 : Int) ≠ 0; decide), _, _, rfl, rfl, wide_div (b := 6) (by decide) (by decide) (by decide) (by decide), .int m, rfl, _, _, rfl, rfl, (by show m ≠ 0; omega), ?_⟩⟩
      have m2 := fmod_bd (x := (st2 * st2).fmod 2147483629 / 32) m0
      obtain ⟨d, hd⟩ := Int.eq_ofNat_of_zero_le m2.1
      show Q (.int (((st2 * st2).fmod 2147483629 / 32).fmod m)) H3
      rw [hd]
      exact q d _ (by omega) ⟨⟨[], st2, cn + 1, g1, g2, by decide, by omega, by omega, by omega, by omega⟩, ne⟩ ((b1.trans b2).trans b3)
    | cons x xs =>
      have e2' : H1 l = some (.lst (.int x :: xs.map V.int)) := e2
      refine iteT ⟨.ref c, rfl, c, _, 0, _, rfl, rfl, .of e1, atI_nat (j := 0) rfl, l, _, 0, _, rfl, rfl, .of e2', atI_nat (j := 0) rfl, ?_⟩
      have md := fmod_bd (x := x) m0
      obtain ⟨d, hd⟩ := Int.eq_ofNat_of_zero_le md.1
      have l9 : xs.length ≤ 999 := by rw [List.length_cons] at h3; omega
      refine ⟨.int x, rfl, .int m, rfl, _, _, rfl, rfl, _, rfl, ?_⟩
      by_cases hlt : x < m
      · rw [decide_eq_true hlt]
        refine iteT ⟨.ref c, rfl, c, _, 0, _, rfl, rfl, .of e1, atI_nat (j := 0) rfl, .inl ⟨rfl, _, .of e2'⟩, l, _, 0, 0, .int x, rfl, rfl, e2', by decide, by decide, by simp [seqIndex?], rfl, ?_⟩
        dsimp only [List.eraseIdx]
        refine ⟨.int x, rfl, .inl ⟨_, rfl, .int m, rfl, _, _, rfl, rfl, (by show m ≠ 0; omega), ?_⟩⟩
        show Q (.int (x.fmod m)) _
        rw [hd]
        exact q d _ (by omega) ⟨⟨xs, st, cn, by rw [upd_ne ne]; exact e1, upd_same, by omega, h4, h5, h6, by omega⟩, ne⟩ (b1.trans fun b o g1 g2 e => by rw [upd_ne g2]; exact e)
      · rw [decide_eq_false hlt]
        refine iteF ⟨.int x, rfl, .int m, rfl, _, _, rfl, rfl, wide_div (b := 60) m0 m60 (by decide) (by decide), .ref c, rfl, c, _, 0, _, rfl, rfl, .of e1, atI_nat (j := 0) rfl, l, _, 0, 0, rfl, rfl, e2', ixN_nat (p := 0) (Nat.succ_pos _), ?_⟩
        dsimp only [List.set]
        refine ⟨.int x, rfl, .inl ⟨_, rfl, .int m, rfl, _, _, rfl, rfl, (by show m ≠ 0; omega), ?_⟩⟩
        show Q (.int (x.fmod m)) _
        rw [hd]
        exact q d _ (by omega) ⟨⟨x / m :: xs, st, cn, by rw [upd_ne ne]; exact e1, upd_same, by rw [List.length_cons]; omega, h4, h5, h6, by omega⟩, ne⟩ (b1.trans fun b o g1 g2 e => by rw [upd_ne g2]; exact e)
end
end K63

set_option Elab.async false
set_option linter.all false
set_option maxRecDepth 100000
set_option exponentiation.threshold 20000
set_option pp.deepTerms false
set_option pp.deepTerms.threshold 8
namespace K63
open PySem PySem.Spec PyProof.Rows L2 Ly Mt
/-! ### names, drawn -/
def al (c : Nat) : Bool := lowC c || highC c || digC c
def alS : Str := "abcdefghijklmnopqrstuvwxyzABCDEFGHIJKLMNOPQRSTUVWXYZ0123456789"
theorem upE : Txt.upper lows = highs := by
  rw [upper_ascii (by decide +kernel)]
  decide +kernel
theorem sgE : lows ++ highs ++ digs = alS := by decide +kernel
theorem al_all : ∀ c ∈ alS.cps.toList, al c = true := by decide +kernel
theorem al_low : ∀ c ∈ lows.cps.toList, lowC c = true := by decide +kernel
theorem al_small {c : Nat} (h : al c = true) : c < 128 := by
  have : ∀ c ∈ lows.cps.toList ++ highs.cps.toList ++ digs.cps.toList, c < 128 := by decide +kernel
  refine this c ?_
  unfold al lowC highC digC at h
  simp only [Bool.or_eq_true, decide_eq_true_eq] at h
  simp only [List.mem_append]
  exact h
theorem sg_at {d : Nat} (h : (d : Int) < 62) : ∃ c, alS.cps.toList[d]? = some c ∧ al c = true := by
  have l : alS.cps.toList.length = 62 := by decide +kernel
  have hd : d < alS.cps.toList.length := by omega
  exact ⟨_, List.getElem?_eq_getElem hd, al_all _ (List.getElem_mem hd)⟩
theorem low_at {d : Nat} (h : (d : Int) < 26) : ∃ c, lows.cps.toList[d]? = some c ∧ lowC c = true := by
  have l : lows.cps.toList.length = 26 := by decide +kernel
  have hd : d < lows.cps.toList.length := by omega
  exact ⟨_, List.getElem?_eq_getElem hd, al_low _ (List.getElem_mem hd)⟩
/-- one of a written list of ints -/
theorem int_at (ms : List Int) {d : Nat} (h : d < ms.length) : ∃ m, (ms.map V.int)[d]? = some (.int m) ∧ m ∈ ms := ⟨ms[d], by rw [List.getElem?_map, List.getElem?_eq_getElem h]; rfl, List.getElem_mem h⟩
theorem join_ones' (cs : List Nat) : Txt.join "" (cs.map fun c => (⟨#[c]⟩ : Str)) = ⟨cs.toArray⟩ := by
  show Builtin.Str.glued _ _ = _
  rw [StrLaws.glued_eq_join]
  have key : ∀ cs : List Nat, TL.tl (Str.join "" (cs.map fun c => (⟨#[c]⟩ : Str))) = cs := by
    intro cs
    rw [TL.tl_join, List.map_map]
    have e : (TL.tl ∘ fun c => (⟨#[c]⟩ : Str)) = fun c : Nat => [c] := rfl
    rw [e, show TL.tl "" = [] from rfl]
    induction cs with
    | nil => rfl
    | cons a r ih =>
      cases r with
      | nil => rfl
      | cons b r =>
        show [a] ++ ([] ++ TL.joinL [] ((b :: r).map fun c => [c])) = _
        rw [ih]; rfl
  have h := key cs
  have : Str.join "" (cs.map fun c => (⟨#[c]⟩ : Str)) = ⟨(TL.tl (Str.join "" (cs.map fun c => (⟨#[c]⟩ : Str)))).toArray⟩ := by
    unfold TL.tl; simp
  rw [this, h]
theorem upper1 {c : Nat} (h : c < 128) : Txt.upper ⟨#[c]⟩ = ⟨#[up1 c]⟩ := by
  rw [upper_ascii (by simpa using h)]; simp
theorem lower1 {c : Nat} (h : c < 128) : Txt.lower ⟨#[c]⟩ = ⟨#[lo1 c]⟩ := by
  rw [lower_ascii (by simpa using h)]; simp
theorem up_low {c : Nat} (h : lowC c = true) : highC (up1 c) = true := by
  have : ∀ c ∈ lows.cps.toList, highC (up1 c) = true := by decide +kernel
  exact this c (of_decide_eq_true h)
theorem lo_name {c : Nat} (h : al c = true) (n : digC c = false) : lowC (lo1 c) = true := by
  have h1 : ∀ c ∈ lows.cps.toList, lowC (lo1 c) = true := by decide +kernel
  have h2 : ∀ c ∈ highs.cps.toList, lowC (lo1 c) = true := by decide +kernel
  unfold al at h
  rw [n, Bool.or_false, Bool.or_eq_true] at h
  rcases h with h | h
  · exact h1 c (of_decide_eq_true h)
  · exact h2 c (of_decide_eq_true h)
theorem al_of_low {c : Nat} (h : lowC c = true) : al c = true := by unfold al; rw [h]; rfl
theorem al_of_high {c : Nat} (h : highC c = true) : al c = true := by unfold al; rw [h, Bool.or_true]; rfl
theorem dig_low {c : Nat} (h : lowC c = true ∨ highC c = true) : digC c = false := by
  have h1 : ∀ c ∈ lows.cps.toList, digC c = false := by decide +kernel
  have h2 : ∀ c ∈ highs.cps.toList, digC c = false := by decide +kernel
  rcases h with h | h
  · exact h1 c (of_decide_eq_true h)
  · exact h2 c (of_decide_eq_true h)
theorem cutS_mem {z : Str} {lo hi : Option Int} : ∀ c ∈ (cutS z lo hi).cps.toList, c ∈ z.cps.toList := fun c hc => List.mem_of_mem_drop (List.mem_of_mem_take (by simpa [cutS] using hc))
theorem cut9 (z : Str) : (cutS z (some 1) (some 10)).length ≤ 9 := by
  show (List.toArray _).size ≤ _
  rw [List.size_toArray, List.length_take, List.length_drop, Array.length_toList]
  have e1 : HT.sIx z.length 0 (some 1) = min 1 z.length := HT.sIx_nat _ _ 1
  have e2 : HT.sIx z.length z.length (some 10) = min 10 z.length := HT.sIx_nat _ _ 10
  rw [e1, e2]
  omega
theorem len_app (x y : Str) : (x ++ y).length = x.length + y.length := by
  show (x.cps ++ y.cps).size = _
  rw [Array.size_append]; rfl
theorem ltl (x y : Str) : (x ++ y).cps.toList = x.cps.toList ++ y.cps.toList := by
  show (x.cps ++ y.cps).toList = _
  rw [Array.toList_append]
theorem mem_cat {x y : Str} {c : Nat} : c ∈ (x ++ y).cps.toList ↔ c ∈ x.cps.toList ∨ c ∈ y.cps.toList := by rw [ltl, List.mem_append]
theorem app_al {x y : Str} (hx : ∀ c ∈ x.cps.toList, al c = true) (hy : ∀ c ∈ y.cps.toList, al c = true) : ∀ c ∈ (x ++ y).cps.toList, al c = true := fun c hc => (mem_cat.mp hc).elim (hx c) (hy c)
/-- a letter and a few signs are a name, if no keyword -/
theorem name_of {h : Nat} {b : Str} (hh : lowC h = true ∨ highC h = true) (lb : b.length ≤ 9) (hb : ∀ c ∈ b.cps.toList, al c = true) (n1 : (⟨#[h]⟩ : Str) ++ b ≠ "fun") (n2 : (⟨#[h]⟩ : Str) ++ b ≠ "kind") (n3 : (⟨#[h]⟩ : Str) ++ b ≠ "number") : NameOk (⟨#[h]⟩ ++ b) := by
  refine ⟨by rw [len_app]; show 1 ≤ 1 + b.length ∧ 1 + b.length ≤ 10; omega, ⟨n1, n2, n3⟩, ⟨h, ?_, dig_low hh⟩, fun c hc => ?_⟩
  · rw [← Array.getElem?_toList, ltl]; rfl
  · refine app_al (fun c hc => ?_) hb c hc
    obtain rfl : c = h := by simpa using hc
    rcases hh with hh | hh
    · exact al_of_low hh
    · exact al_of_high hh
theorem name0 {h : Nat} {b : Str} : ((⟨#[h]⟩ : Str) ++ b).cps[0]? = some h := by
  rw [← Array.getElem?_toList, ltl]; rfl
/-! ### numerals -/
theorem num_al (k : Nat) (h : k < 400) : (∀ c ∈ ((toString ((k : Nat) : Int) : String) : Str).cps.toList, al c = true) ∧ ((toString ((k : Nat) : Int) : String) : Str).length ≤ 9 ∧ ∃ c ∈ ((toString ((k : Nat) : Int) : String) : Str).cps.toList, digC c = true := by
  have : ∀ k < 400, ((((toString ((k : Nat) : Int) : String) : Str).cps.toList.all al && decide (((toString ((k : Nat) : Int) : String) : Str).length ≤ 9)) && ((toString ((k : Nat) : Int) : String) : Str).cps.toList.any digC) = true := by decide +kernel
  have := this k h
  rw [Bool.and_eq_true, Bool.and_eq_true] at this
  exact ⟨List.all_eq_true.mp this.1.1, of_decide_eq_true this.1.2, List.any_eq_true.mp this.2⟩
def valS (z : Str) : Nat := z.cps.toList.foldl (fun a c => 10 * a + (c - 48)) 0
theorem num_val : ∀ k < 400, valS ((toString ((k : Nat) : Int) : String) : Str) = k := by decide +kernel
theorem kw_dig : (∀ c ∈ ("fun" : Str).cps.toList, digC c = false) ∧ (∀ c ∈ ("kind" : Str).cps.toList, digC c = false) ∧ (∀ c ∈ ("number" : Str).cps.toList, digC c = false) := by decide +kernel
end K63

set_option Elab.async false
set_option linter.all false
set_option maxRecDepth 100000
set_option exponentiation.threshold 20000
set_option pp.deepTerms false
set_option pp.deepTerms.threshold 8
namespace K63
open PySem PySem.Spec PyProof.Rows L2 Ly Mt
/-- kinds that may be too many, with makers that may be too many, with too many fields -/
structure WdK (ks : List Kd) : Prop where
  few : 1 ≤ ks.length ∧ ks.length ≤ 7
  nm : ∀ k ∈ ks, NameOk k.1
  mks : ∀ k ∈ ks, k.2.length ≤ 8
  mkk : ∀ k ∈ ks, ∀ m ∈ k.2, NameOk m.1 ∧ m.2.length ≤ 5
  flds : ∀ k ∈ ks, ∀ m ∈ k.2, ∀ f ∈ m.2, f = "number" ∨ NameOk f
/-! ### how great drawn kinds are; the things to be judged -/
mutual
theorem sh_lf {L B : Nat} (hL : L ≤ 100000) (hB : B ≤ 1900) : ∀ {d : PyData}, lfD L B d = true → shS d = true
  | .none, _ => rfl
  | .bool _, _ => rfl
  | .int i, h => decide_eq_true (sm_of h hB)
  | .str x, h => by
    have h' : (decide (x.length ≤ L) && x.cps.toList.all fun c => decide (c < 128)) = true := h
    rw [Bool.and_eq_true, decide_eq_true_iff] at h'
    exact decide_eq_true (Nat.le_trans h'.1 hL)
  | .tuple ds, h => shs_lf hL hB (ds := ds) h
  | .list _, _ => rfl
  | .dict _, _ => rfl
theorem shs_lf {L B : Nat} (hL : L ≤ 100000) (hB : B ≤ 1900) : ∀ {ds : List PyData}, lfDs L B ds = true → shSs ds = true
  | [], _ => rfl
  | d :: ds, h => by
    have h' : (lfD L B d && lfDs L B ds) = true := h
    rw [Bool.and_eq_true] at h'
    show (shS d && shSs ds) = true
    rw [sh_lf hL hB h'.1, shs_lf hL hB h'.2]; rfl
end
theorem _root_.Ly.Bn.shownW {L B t W : Nat} {d : PyData} (h : Bn L B t W d) (hB : 0 < B) (h2 : B ≤ 300) (hW : W ≤ 50000) : d.showable = true ∧ d.shown.length ≤ sizeLine := by
  refine ⟨lf_showable hB (by omega) h.lf, ?_⟩
  have h1 := PyData.shown_le_bulk 301 (by decide) d (lf_short (C := 301) hB (by omega) h.lf)
  have h3 := h.bk
  have h4 : (301 + 2) * d.bulk ≤ 303 * 50000 := Nat.mul_le_mul_left _ (by omega)
  have h5 : 303 * 50000 + 301 ≤ sizeLine := by decide
  omega
theorem lf_name {z : Str} (h : NameOk z) : lfD 10 10 (.str z) = true := by
  show (decide (z.length ≤ 10) && z.cps.toList.all fun c => decide (c < 128)) = true
  rw [decide_eq_true h.len.2, Bool.true_and]
  exact List.all_eq_true.mpr fun c hc => decide_eq_true (al_small (h.signs c hc))
theorem KindsOk.wd {ks : List Kd} (h : KindsOk ks) : WdK ks := by
  have f := h.few
  refine ⟨⟨f.1, by omega⟩, fun k hk => (h.nm k hk).1, fun k hk => by have := h.mks k hk; omega, fun k hk m hm => ⟨(h.mkk k hk m hm).1.1, by have := (h.mkk k hk m hm).2; omega⟩, fun k hk m hm f hf => ?_⟩
  rcases h.flds k hk m hm f hf with e | e
  · exact .inl e
  · obtain ⟨k', hk', rfl⟩ := List.mem_map.mp e
    exact .inr (h.nm k' hk').1
theorem bulk_le {c : Nat} : ∀ {l : List PyData}, (∀ d ∈ l, d.bulk ≤ c) → PyData.bulkAll l ≤ (c + 1) * l.length
  | [], _ => Nat.le_refl _
  | d :: l, h => by
    have h1 := h d (List.mem_cons_self ..)
    have h2 := bulk_le (l := l) fun x hx => h x (List.mem_cons_of_mem _ hx)
    show d.bulk + 1 + PyData.bulkAll l ≤ _
    rw [List.length_cons, Nat.mul_add]
    omega
theorem bn_list {L B t c n : Nat} {l : List PyData} (h : ∀ d ∈ l, Bn L B t c d) (hn : l.length ≤ n) : Bn L B (t + 1) ((c + 1) * n) (.tuple l) :=
  bn_tup.mpr ⟨lfDs_iff.mpr fun d hd => (h d hd).lf, depthAll_le.mpr fun d hd => (h d hd).dp, Nat.le_trans (bulk_le fun d hd => (h d hd).bk) (Nat.mul_le_mul_left _ hn)⟩
theorem bn_str {z : Str} (h : NameOk z ∨ z = "number") : Bn 10 10 0 10 (.str z) := by
  rcases h with h | rfl
  · exact ⟨lf_name h, Nat.le_refl _, h.len.2⟩
  · exact ⟨by decide +kernel, Nat.le_refl _, by decide⟩
theorem bn_mkW {m : Mk} (h : NameOk m.1 ∧ m.2.length ≤ 5) (hf : ∀ f ∈ m.2, f = "number" ∨ NameOk f) : Bn 10 10 2 70 (mkD m) := by
  have b2 : Bn 10 10 1 55 (sD m.2) := bn_list (t := 0) (c := 10) (n := 5) (fun d hd => by
    obtain ⟨f, hf', rfl⟩ := List.mem_map.mp hd
    exact bn_str ((hf f hf').symm)) (by rw [List.length_map]; exact h.2)
  have b1 := bn_str (.inl h.1)
  refine bn_tup.mpr ⟨by show (lfD _ _ (.str m.1) && (lfD _ _ (sD m.2) && true)) = true; rw [b1.lf, b2.lf]; rfl, ?_, ?_⟩
  · show max _ (max _ 0) ≤ 1
    have := b2.dp
    have : (PyData.str m.1).depth = 0 := rfl
    omega
  · show (PyData.str m.1).bulk + 1 + ((sD m.2).bulk + 1 + 0) ≤ 70
    have := b1.bk
    have := b2.bk
    omega
theorem bn_kdW {k : Kd} (h1 : NameOk k.1) (h2 : k.2.length ≤ 8) (h3 : ∀ m ∈ k.2, NameOk m.1 ∧ m.2.length ≤ 5) (h4 : ∀ m ∈ k.2, ∀ f ∈ m.2, f = "number" ∨ NameOk f) : Bn 10 10 4 582 (kdD k) := by
  have b2 : Bn 10 10 3 568 (.tuple (k.2.map mkD)) := bn_list (t := 2) (c := 70) (n := 8) (fun d hd => by
    obtain ⟨m, hm, rfl⟩ := List.mem_map.mp hd
    exact bn_mkW (h3 m hm) (h4 m hm)) (by rw [List.length_map]; exact h2)
  have b1 := bn_str (.inl h1)
  refine bn_tup.mpr ⟨by show (lfD _ _ (.str k.1) && (lfD _ _ (.tuple (k.2.map mkD)) && true)) = true; rw [b1.lf, b2.lf]; rfl, ?_, ?_⟩
  · show max _ (max _ 0) ≤ 3
    have := b2.dp
    have : (PyData.str k.1).depth = 0 := rfl
    omega
  · show (PyData.str k.1).bulk + 1 + ((PyData.tuple (k.2.map mkD)).bulk + 1 + 0) ≤ 582
    have := b1.bk
    have := b2.bk
    omega
theorem bn_kds {ks : List Kd} (h : WdK ks) : ∀ d ∈ ks.map kdD, Bn 10 10 4 582 d := fun d hd => by
  obtain ⟨k, hk, rfl⟩ := List.mem_map.mp hd
  exact bn_kdW (h.nm k hk) (h.mks k hk) (h.mkk k hk) (h.flds k hk)
theorem bn_ksW {ks : List Kd} (h : WdK ks) : Bn 10 10 5 4081 (ksD ks) := bn_list (t := 4) (c := 582) (n := 7) (bn_kds h) (by rw [List.length_map]; exact h.few.2)
theorem shKs {ks : List Kd} (h : KindsOk ks) : shS (ksD ks) = true := sh_lf (by decide) (by decide) (bn_ksW h.wd).lf
/-! ### written data -/
def Gc (K : PySem.W.Frag) (S : Addr → Prop) (H0 : Hp) (σ : L2.St) (te : TE) (d : PyData) : Prop := ∀ (H : Hp) (Q : VK), Same H0 H → (∀ x H', Same H H' → Od K S H' x d → Q x H') → te σ H Q
def GcA (K : PySem.W.Frag) (S : Addr → Prop) (H0 : Hp) (σ : L2.St) (ta : TA) (ds : List PyData) : Prop := ∀ (H : Hp) (Q : List V → Hp → Prop), Same H0 H → (∀ xs H', Same H H' → OdAll K S H' xs ds → Q xs H') → ta σ H Q
section
variable {K : PySem.W.Frag} {S : Addr → Prop} {H0 : Hp} {σ : L2.St} {p : PyData → Prop}
theorem gc_nil : GcA K S H0 σ tNil [] := fun H Q s q => q [] H (Same.refl H) .nil
theorem gc_cons {te : TE} {ta : TA} {d : PyData} {ds : List PyData} (a : Gc K S H0 σ te d) (b : GcA K S H0 σ ta ds) : GcA K S H0 σ (tCons te ta) (d :: ds) := fun H Q s q =>
  a H _ s fun x H1 s1 o1 => b H1 _ (s.trans s1) fun xs H2 s2 o2 => q (x :: xs) H2 (s1.trans s2) (.cons (o1.mono (fo_same s2)) o2)
theorem gc_str (z : Str) (hz : z.length ≤ 100000) : Gc K S H0 σ (tC (.str z)) (.str z) := fun H Q s q => q _ H (Same.refl H) (.str z hz)
theorem gc_tup {ta : TA} {ds : List PyData} (a : GcA K S H0 σ ta ds) (few : ds.length ≤ 100) : Gc K S H0 σ (tTup ta) (.tuple ds) := fun H Q s q =>
  a H _ s fun xs H1 s1 o1 => ⟨Nat.le_trans (show xs.length ≤ 100 by rw [o1.len]; exact few) (by decide), fun t ht => q _ _ (s1.trans (same_new ht)) (.tup (.inl upd_same) (o1.mono (fo_same (same_new ht))))⟩
theorem gd_of {te : TE} {d : PyData} (a : Gc K S H0 σ te d) (h : p d) : Gd K S H0 σ p te := fun H Q s q => a H _ s fun x H' s' o => q x d H' s' o h
theorem gd_var {i : Nat} {v : V} {d : PyData} (hv : σ[i]? = some (some v)) (o : Od K S H0 v d) (h : p d) : Gd K S H0 σ p (tVar i) := fun H Q s q => ⟨v, hv, q v d H (Same.refl H) (o.mono (fo_same s)) h⟩
end
end K63

set_option Elab.async false
set_option linter.all false
set_option maxRecDepth 100000
/-! a def that raises, called by its parameter's name -/
namespace Ly
open PySem PySem.Spec PyProof.Rows L2
def tCallKS (sp : Sp) (gV : List V → List V → List V) (E : L2.St → XK) (t tk : TA) : TE := fun σ H Q => t σ H fun vs H1 => tk σ H1 fun zs H2 => sp (gV vs zs) H2 Q (E σ)
section
variable {X : Cx} {k : Nat} {x : Str} {st : Stmt} {ps ks : List Str} {sp : Sp} {p pos : Pos} {f : Addr} {fd : FuncData} {kws : List Keyword} {tk : TA} {W : WX} {E : L2.St → XK} {CX : CXT} {g : List Value → List Value → List Value} {gV : List V → List V → List V}
theorem run_fnKS {pins : List (Addr × Obj)} {σ : L2.St} {H : Hp} {s : Shared} {Q : VK} {us ws : List Value} {vs zs : List V} (F : FnOk X.prog X.w X.K X.mg X.base CX k f fd ps sp) (hr : Room k X.A) (hb : KBinds X.K fd ps ks g gV) (hx : PassesAt CX X σ (E σ))
    (I : Inv X pins σ H s) (r : Vals vs us) (rz : Vals zs ws) (h : sp (gV vs zs) H Q (E σ)) : wpAny (model X.prog X.w) X.A (call (.ref f) us (ks.zip ws)) (EP X pins σ Q) X.xe s := by
  have r2 := hb.rel r rz
  have hl : (g us ws).length = ps.length := by rw [← r2.length]; exact F.len _ _ _ _ h
  refine wpAny_call (codeAny_mono (F.run X.A X.stack s H ⟨us, ks.zip ws⟩ (g us ws) (gV vs zs) Q (E σ) hr I.env0 (hb.to s us ws I.kIn hl) r2 h) fun r s' hq => ?_)
  cases r with
  | error e => exact hx pins H s e s' I hq
  | ok fl =>
    cases fl with
    | ret u => exact I.after hq
    | next => exact False.elim hq
    | brk => exact False.elim hq
    | cont => exact False.elim hq
theorem pe_defKX (O : DefX X.prog X.w X.K X.mg X.base k x st ps sp) (tw : Takes X W) (hr : Room k X.A) (hg : Gl X x) (kb : ∀ f fd, Fun X.K x x st f fd → KBinds X.K fd ps ks g gV) (hkw : PK X kws tk)
    (hall : (backToKw pos (keywordEach kws X.env)).all (·.1.isSome) = true := by rfl) (hks : (backToKw pos (keywordEach kws X.env)).filterMap (·.1) = ks := by rfl) (hdb : (x == ("__debug__" : Str)) = false := by decide)
    (hpl : ((backTo pos (starEach [] X.env)).any (·.1) || (backToKw pos (keywordEach kws X.env)).any (·.1.isNone)) = false := by rfl) :
    PE X (.Call (.Name x p) [] kws pos) (tCallKS sp gV (WE W) tNil tk) := by
  obtain ⟨f, fd, F, hm, hk, _, U⟩ := O.ex
  refine ⟨fun pins s σ H Q I h => wpAny_Call_Name_kw (ld_glob I hg hm (PySem.W.callWith_KW0 (h₀ := X.base) I.ok.mod.kin hk hall (thn (hkw.run pos pins s σ H _ I h) ?_) hpl) hdb)⟩
  rintro ws s2 ⟨zs, H2, I2, rz, q2⟩
  refine ⟨I2.kIn, ?_⟩
  rw [hks]
  exact run_fnKS F hr (kb f fd U) (passAt tw σ) I2 .nil rz q2
end
end Ly

set_option Elab.async false
set_option linter.all false
set_option maxRecDepth 100000
set_option exponentiation.threshold 20000
set_option pp.deepTerms false
set_option pp.deepTerms.threshold 8
namespace K63
open PySem PySem.Spec PyProof.Rows L2 Ly Mt
/-! ### makers looked up by name -/
/-- this maker stands there -/
structure AtN (ks : List Kd) (nm : Str) (i j : Nat) (kd : Kd) (m : Mk) : Prop where
  hk : ks[i]? = some kd
  hm : kd.2[j]? = some m
  nm : m.1 = nm
def ownRows (ks : List Kd) : List (Str × Str × List Str) := ks.flatMap fun k => k.2.map fun m => (m.1, k.1, m.2)
/-- a maker's kind and fields -/
def lkp (ks : List Kd) (nm : Str) : Option (Str × List Str) := ((ownRows ks).find? fun r => decide (r.1 = nm)).map (·.2)
theorem lkp_some {ks : List Kd} {nm : Str} {t : Str} {fs : List Str} (h : lkp ks nm = some (t, fs)) : ∃ i j kd m, AtN ks nm i j kd m ∧ t = kd.1 ∧ fs = m.2 := by
  obtain ⟨r, hr, er⟩ := Option.map_eq_some_iff.mp h
  have e0 : decide (r.1 = nm) = true := List.find?_some (p := fun r : Str × Str × List Str => decide (r.1 = nm)) hr
  have e1 := of_decide_eq_true e0
  obtain ⟨k, hk, hm⟩ := List.mem_flatMap.mp (List.mem_of_find?_eq_some hr)
  obtain ⟨m, hm2, rfl⟩ := List.mem_map.mp hm
  obtain ⟨i, hi⟩ := List.getElem?_of_mem hk
  obtain ⟨j, hj⟩ := List.getElem?_of_mem hm2
  injection er with e2 e3
  exact ⟨i, j, k, m, ⟨hi, hj, e1⟩, e2.symm, e3.symm⟩
theorem lkp_none {ks : List Kd} {nm : Str} (h : lkp ks nm = none) : nm ∉ (allMk ks).map (·.1) := fun z => by
  obtain ⟨m, hm, rfl⟩ := List.mem_map.mp z
  obtain ⟨k, hk, hm⟩ := List.mem_flatMap.mp hm
  have := List.find?_eq_none.mp (Option.map_eq_none_iff.mp h) (m.1, k.1, m.2) (List.mem_flatMap.mpr ⟨k, hk, List.mem_map.mpr ⟨m, hm, rfl⟩⟩)
  exact this (decide_eq_true rfl)
theorem row_memN {ks : List Kd} {nm : Str} {i j : Nat} {kd : Kd} {m : Mk} (h : AtN ks nm i j kd m) : mkRow (ks.map (·.1)) i j m ∈ rowsOf ks ks.length := by
  have hi := (List.getElem?_eq_some_iff.mp h.hk).1
  have e1 : ks.getD i (noS, []) = kd := by rw [List.getD_eq_getElem?_getD, h.hk]; rfl
  unfold rowsOf
  refine List.mem_flatMap.mpr ⟨i, List.mem_range.mpr hi, ?_⟩
  rw [e1]
  exact List.mem_of_getElem? (kindRows_at h.hm)
theorem tb_getN {K : PySem.W.Frag} {H : Hp} {d : Addr} {ks : List Kd} (tb : TableAt K H d (rowsOf ks ks.length)) (ok : KindsOk ks) {nm : Str} {i j : Nat} {kd : Kd} {m : Mk} (h : AtN ks nm i j kd m) : ∃ v, DGet H d (.str nm) (some v) ∧ Im K H v (rowD (mkRow (ks.map (·.1)) i j m)) := by
  obtain ⟨n, hn⟩ := List.getElem?_of_mem (row_memN h)
  have nd : ((rowsOf ks ks.length).map (·.1)).Nodup := by rw [rows_names]; exact ok.ndm
  obtain ⟨kvs, v, e, hv, iv⟩ := tb.get nd hn
  refine ⟨v, ?_, iv⟩
  have g : DGet H d (kV (Sum.inr m.1)) (valV kvs (Sum.inr m.1)) := .k e
  have hv' : valV kvs (Sum.inr m.1) = some v := hv
  rw [hv', h.nm] at g
  exact g
theorem tb_no {K : PySem.W.Frag} {H : Hp} {d : Addr} {ks : List Kd} (tb : TableAt K H d (rowsOf ks ks.length)) {nm : Str} (h : lkp ks nm = none) : DGet H d (.str nm) none := by
  obtain ⟨kvs, e, h1, h2⟩ := tb
  have hv : valV kvs (Sum.inr nm) = none := valV_none (by
    rw [h1]
    intro z
    obtain ⟨r, hr, er⟩ := List.mem_map.mp z
    have := lkp_none h
    rw [← rows_names] at this
    exact this (List.mem_map.mpr ⟨r, hr, Sum.inr.inj er⟩))
  have g : DGet H d (kV (Sum.inr nm)) (valV kvs (Sum.inr nm)) := .k e
  rw [hv] at g
  exact g
theorem im_intsN {K : PySem.W.Frag} {H : Hp} : ∀ {xs : List V} {ns : List Int}, ImAll K H xs (ns.map .int) → xs = ns.map V.int
  | _, [], h => by obtain rfl := h.nil_inv; rfl
  | _, n :: ns, h => by
    obtain ⟨x, r, rfl, i1, hr⟩ := h.cons_inv
    rw [i1.int_inv, im_intsN hr]; rfl
/-! ### rows judged -/
def jEnt (ts : List Str) (f : Str) (e : PyData) : Bool := match e with
  | .int i => decide (f = "number") || (decide (0 ≤ i) && decide (ts[i.toNat]? = some f))
  | _ => false
def kdOf (ks : List Kd) (d : PyData) : Str := ((lkp ks (stO (p0 d))).getD ("", [])).1
def jLine (ks : List Kd) (ts : List Str) (d : PyData) : Bool := jPair d && (jStr (p0 d) && match lkp ks (stO (p0 d)) with
  | none => false
  | some (_, fs) => jRow (p1 d) fs.length fs.length && (fs.zip (its (p1 d))).all fun p => jEnt ts p.1 p.2)
def jAt (ks : List Kd) (ds : List PyData) (t : Nat) : Bool := jLine ks ((ds.take t).map (kdOf ks)) (ds.getD t .none)
def jRows (ks : List Kd) (d : PyData) : Bool := jRow d 1 96 && (List.range (its d).length).all (jAt ks (its d))
theorem jRows_no {ks : List Kd} {ds : List PyData} {t : Nat} (ht : t < ds.length) (h : jAt ks ds t = false) : jRows ks (.tuple ds) = false := by
  unfold jRows
  rw [show (List.range (its (.tuple ds)).length).all (jAt ks (its (.tuple ds))) = false from all_no (i := t) (x := t) (List.getElem?_range ht) h, Bool.and_false]
theorem jRows_row {ks : List Kd} {d : PyData} (h : jRow d 1 96 = false) : jRows ks d = false := by
  unfold jRows
  rw [h]; rfl
theorem jRows_yes {ks : List Kd} {ds : List PyData} (h1 : jRow (.tuple ds) 1 96 = true) (h : ∀ t, t < ds.length → jAt ks ds t = true) : jRows ks (.tuple ds) = true := by
  unfold jRows
  rw [h1, Bool.true_and]
  exact List.all_eq_true.mpr fun t ht => h t (List.mem_range.mp ht)
/-- what a right line is -/
theorem jLine_is {ks : List Kd} {ts : List Str} {d : PyData} (h : jLine ks ts d = true) : ∃ (nm : Str) (es : List PyData) (i j : Nat) (kd : Kd) (m : Mk), d = .tuple [.str nm, .tuple es] ∧ AtN ks nm i j kd m ∧ lkp ks nm = some (kd.1, m.2) ∧ kdOf ks d = kd.1 ∧ es.length = m.2.length ∧ ∀ (s : Nat) (f : Str) (e : PyData), m.2[s]? = some f → es[s]? = some e → jEnt ts f e = true := by
  unfold jLine at h
  rw [Bool.and_eq_true, Bool.and_eq_true] at h
  obtain ⟨h1, h2, h3⟩ := h
  have ed := tup2 h1
  cases e0 : p0 d with
  | str nm =>
    rw [e0] at h3 ed
    cases el : lkp ks nm with
    | none =>
      rw [show stO (.str nm) = nm from rfl, el] at h3
      cases h3
    | some r =>
      obtain ⟨t, fs⟩ := r
      rw [show stO (.str nm) = nm from rfl, el] at h3
      have h3' : (jRow (p1 d) fs.length fs.length && (fs.zip (its (p1 d))).all fun p => jEnt ts p.1 p.2) = true := h3
      rw [Bool.and_eq_true] at h3'
      obtain ⟨es, e1, l1, l2⟩ := jRow_tup h3'.1
      obtain ⟨i, j, kd, m, at', rfl, rfl⟩ := lkp_some el
      refine ⟨nm, es, i, j, kd, m, by rw [ed, e1], at', el, by unfold kdOf; rw [e0, show stO (.str nm) = nm from rfl, el]; rfl, by omega, fun s f e hf he => ?_⟩
      have := List.all_eq_true.mp h3'.2 (f, e) (List.mem_of_getElem? (i := s) (by rw [e1, List.getElem?_zip_eq_some]; exact ⟨hf, he⟩))
      exact this
  | none => rw [e0] at h2; cases h2
  | bool _ => rw [e0] at h2; cases h2
  | int _ => rw [e0] at h2; cases h2
  | tuple _ => rw [e0] at h2; cases h2
  | list _ => rw [e0] at h2; cases h2
  | dict _ => rw [e0] at h2; cases h2
theorem place_eq {ks : List Kd} (ok : KindsOk ks) {i : Nat} {kd : Kd} (hk : ks[i]? = some kd) {f : Str} (hf : f ∈ ks.map (·.1)) : decide (((i : Nat) : Int) = placeOf (ks.map (·.1)) f) = decide (kd.1 = f) := by
  unfold placeOf
  rw [if_pos hf]
  have hi := (List.getElem?_eq_some_iff.mp hk).1
  have h2 := List.idxOf_lt_length_of_mem hf
  have e2 : (ks.map (·.1))[(ks.map (·.1)).idxOf f]? = some f := by rw [List.getElem?_eq_getElem h2]; exact congrArg some (List.getElem_idxOf h2)
  have e1 : (ks.map (·.1))[i]? = some kd.1 := by rw [List.getElem?_map, hk]; rfl
  refine decide_eq_decide.mpr ⟨fun h => ?_, fun h => ?_⟩
  · have h' : i = (ks.map (·.1)).idxOf f := by omega
    rw [← h', e1] at e2
    exact Option.some.inj e2
  · have : i = (ks.map (·.1)).idxOf f := (List.getElem?_inj (by rw [List.length_map]; exact hi) ok.nd).mp (e1.trans (by rw [h]; exact e2.symm))
    omega
theorem no_number {ks : List Kd} (ok : KindsOk ks) : ("number" : Str) ∉ ks.map (·.1) := fun h => by
  obtain ⟨k, hk, e⟩ := List.mem_map.mp h
  exact (ok.nm k hk).1.kw.2.2 e
theorem place_num {ks : List Kd} (ok : KindsOk ks) {f : Str} (hf : f = "number" ∨ f ∈ ks.map (·.1)) : decide (placeOf (ks.map (·.1)) f = -1) = decide (f = "number") := by
  unfold placeOf
  by_cases h : f ∈ ks.map (·.1)
  · rw [if_pos h, decide_eq_false (by omega), decide_eq_false (fun e => no_number ok (by rw [← e]; exact h))]
  · rw [if_neg h, decide_eq_true rfl, decide_eq_true (hf.resolve_right h)]
end K63

set_option Elab.async false
set_option linter.all false
set_option maxRecDepth 100000
set_option exponentiation.threshold 20000
set_option pp.deepTerms false
set_option pp.deepTerms.threshold 8
namespace K63
open PySem PySem.Spec PyProof.Rows L2 Ly Mt
/-- where the errors' classes stand -/
structure Er where
  (r e : Addr)
structure Tr (K : PySem.W.Frag) (mg : Str → Option Value) (er : Er) : Prop where
  g_BadRows : mg "BadRows" = some (.ref er.r)
  x_BadRows : PySem.W.excIn K er.r [.type "ValueError", .type "Exception", .type "BaseException", .type "object"] "ValueError.__new__" = true
  k_BadRows : PySem.W.keepIn K (.ref er.r) = true
  b_BadRows : PySem.W.subIn K (.ref er.r) (.type "BaseException") = some true
  t_BadRows : PySem.W.typeIn K (.ref er.r) = some (.type "type")
  e_rr : PySem.W.exmOne K (.ref er.r) (.ref er.r) = some true
  g_TreeError : mg "TreeError" = some (.ref er.e)
  x_TreeError : PySem.W.excIn K er.e [.type "ValueError", .type "Exception", .type "BaseException", .type "object"] "ValueError.__new__" = true
  k_TreeError : PySem.W.keepIn K (.ref er.e) = true
  b_TreeError : PySem.W.subIn K (.ref er.e) (.type "BaseException") = some true
  t_TreeError : PySem.W.typeIn K (.ref er.e) = some (.type "type")
/-! ### rows are judged -/
section
variable {P : Program} {w : World} {K : PySem.W.Frag} {mg : Str → Option Value} {base : Heap}
abbrev s_need_kinds : Stmt := topS 21
theorem sc_need_kinds : FnScope ["kinds"] ["kinds"] (defScope s_need_kinds) := ⟨rfl, rfl, rfl, by decide +kernel, rfl, by decide +kernel, by decide +kernel⟩
def sr_kinds (K : PySem.W.Frag) : Sp := fun vs H Q _ => ∃ v ks, vs = [v] ∧ Im K H v (ksD ks) ∧ KindsOk ks ∧ ∀ H', Same H H' → Q .non H'
theorem ok_need_kinds {f : Addr} {fd : FuncData} {k : Nat} (F : Fun K "need_kinds" "need_kinds" s_need_kinds f fd) (T : Tx K mg){k1 : Nat} (D_is_kinds : Def P w K mg base k1 "is_kinds" s_is_kinds ["thing"] (so_is_kinds K)) (e1 : k1 ≤ k) : FnOk P w K mg base CX0 (k + 1) f fd ["kinds"] (sr_kinds K) := by
  have nd := sc_need_kinds.nd
  refine F.ok sc_need_kinds (fun vs H Q E h => ?_) (fun cdv A outer s H vs Q E hr h => ?_)
  · obtain ⟨_, _, rfl, _⟩ := h
    rfl
  · obtain ⟨v, ks, rfl, iv, ok, q⟩ := h
    have sh := shKs ok
    refine ⟨_, (pss_one (ps_if (pt_not (pt_val (pe_def D_is_kinds (hr.mono (by omega)) rfl (pa_cons (pv 0) pa_nil))))
        (pss_one ps_never)
        pss_nil)), ?_⟩
    refine ⟨v, rfl, (fun _ => False), v, ksD ks, rfl, Im.od _ sh iv, fun H1 s1 => ⟨jKinds (ksD ks), rfl, ?_⟩⟩
    rw [jKinds_of ok]
    exact iteF (q H1 s1)
abbrev s_is_entry : Stmt := topS 23
theorem sc_is_entry : FnScope ["table", "rows", "field", "entry", "at"] ["table", "rows", "field", "entry", "at"] (defScope s_is_entry) := ⟨rfl, rfl, rfl, by decide +kernel, rfl, by decide +kernel, by decide +kernel⟩
def sr_entry (K : PySem.W.Frag) : Sp := fun vs H Q _ => ∃ (S : Addr → Prop) (d : Addr) (u v : V) (ks : List Kd) (ds : List PyData) (f : Str) (e : PyData) (t : Nat), vs = [.ref d, u, .int (placeOf (ks.map (·.1)) f), v, .int (t : Nat)] ∧ KindsOk ks ∧ TableAt K H d (rowsOf ks ks.length) ∧ Od K S H u (.tuple ds) ∧ Od K S H v e ∧ t ≤ ds.length ∧ (∀ s, s < t → jAt ks ds s = true) ∧ (f = "number" ∨ f ∈ ks.map (·.1)) ∧ Q (.bl (jEnt ((ds.take t).map (kdOf ks)) f e)) H
theorem ok_is_entry {f : Addr} {fd : FuncData} {k : Nat} (F : Fun K "is_entry" "is_entry" s_is_entry f fd) (T : Tx K mg){k1 : Nat} (D_is_int : Def P w K mg base k1 "is_int" s_is_int ["thing"] (so_is_int K)) (e1 : k1 ≤ k) : FnOk P w K mg base CX0 (k + 1) f fd ["table", "rows", "field", "entry", "at"] (sr_entry K) := by
  have nd := sc_is_entry.nd
  refine F.ok sc_is_entry (fun vs H Q E h => ?_) (fun cdv A outer s H vs Q E hr h => ?_)
  · obtain ⟨_, _, _, _, _, _, _, _, _, rfl, _⟩ := h
    rfl
  · obtain ⟨S, d, u, v, ks, ds, fl, e, t, rfl, ok, tb, ou, ov, ht, hs, hf, q⟩ := h
    obtain ⟨a, xs, rfl, ha, hx⟩ := ou.tuple_inv
    refine ⟨_, (pss_cons (ps_if (pt_not (pt_val (pe_def D_is_int (hr.mono (by omega)) rfl (pa_cons (pv 3) pa_nil))))
        (pss_one (ps_ret pe_bl))
        pss_nil)
      (pss_cons (ps_if (pt_cmpR op_eq (pv 2) (pe_gv rfl T.g_NUMBER) (nomark _))
        (pss_one (ps_ret pe_bl))
        pss_nil)
      (pss_one (ps_ret (pe_and (pe_chain op_le op_lt pe_int (pv 3) (pv 4)) (pe_one (pe_cmpR op_eq (pe_ix (kix_tup K) (pe_dget (hu_of hr) (pv 0) (pe_ix (kix_tup K) (pe_ix (kix_tup K) (pv 1) (pv 3) (fun _ _ => rfl)) pe_int (fun _ _ => rfl)) (fun _ _ => rfl)) pe_int (fun _ _ => rfl)) (pv 2) (nomark _)))))))), ?_⟩
    refine ⟨v, rfl, S, v, e, rfl, ov, jInt e, rfl, ?_⟩
    rcases ov.int_or with ⟨i, rfl, rfl, _⟩ | n
    rotate_left
    · rw [n]
      have : jEnt ((ds.take t).map (kdOf ks)) fl e = false := by cases e <;> first | rfl | cases n
      rw [this] at q
      exact iteT q
    have ej : jEnt ((ds.take t).map (kdOf ks)) fl (.int i) = (decide (fl = "number") || (decide (0 ≤ i) && decide (((ds.take t).map (kdOf ks))[i.toNat]? = some fl))) := rfl
    rw [ej] at q
    refine iteF ⟨.int (placeOf (ks.map (·.1)) fl), rfl, rfl, _, rfl, ?_⟩
    rw [dec_le, place_num ok hf]
    cases h1 : decide (fl = "number") with
    | true =>
      rw [h1] at q
      exact iteT q
    | false =>
      rw [h1] at q
      have fin : fl ∈ ks.map (·.1) := hf.resolve_left (of_decide_eq_false h1)
      refine iteF ⟨.int i, rfl, _, _, rfl, rfl, _, rfl, ?_⟩
      cases h2 : decide ((0 : Int) ≤ i) with
      | false =>
        rw [h2] at q
        exact iteF ⟨false, rfl, iteF q⟩
      | true =>
        rw [h2] at q
        obtain ⟨n, rfl⟩ := Int.eq_ofNat_of_zero_le (of_decide_eq_true h2)
        refine iteT ⟨.int (t : Nat), rfl, _, _, rfl, rfl, _, rfl, ?_⟩
        rw [Int.toNat_natCast] at q
        by_cases h3 : n < t
        rotate_left
        · rw [decide_eq_false (show ¬ ((n : Nat) : Int) < ((t : Nat) : Int) by omega)]
          rw [decide_eq_false (show ¬ ((ds.take t).map (kdOf ks))[n]? = some fl by
            rw [List.getElem?_eq_none (by rw [List.length_map, List.length_take]; omega)]
            exact fun h => by cases h)] at q
          exact iteF q
        · rw [decide_eq_true (show ((n : Nat) : Int) < ((t : Nat) : Int) by omega)]
          have en : ds[n]? = some (ds.getD n .none) := by rw [List.getD_eq_getElem?_getD, List.getElem?_eq_getElem (show n < ds.length by omega)]; rfl
          obtain ⟨nm, es, i', j, kd, m, ed, at', _, ek, _, _⟩ := jLine_is (hs n h3)
          rw [ed] at en ek
          rw [List.getElem?_map, List.getElem?_take_of_lt h3, en] at q
          have q' : Q (.bl (decide (some (kdOf ks (.tuple [.str nm, .tuple es])) = some fl))) H := q
          rw [ek, show decide (some kd.1 = some fl) = decide (kd.1 = fl) from decide_eq_decide.mpr ⟨fun h => Option.some.inj h, fun h => by rw [h]⟩, ← place_eq ok at'.hk fin] at q'
          obtain ⟨x, ex, ox⟩ := hx.get en
          obtain ⟨p, ys, rfl, hp, hy⟩ := ox.tuple_inv
          obtain ⟨y1, r1, rfl, oy1, hy⟩ := hy.cons_inv
          obtain ⟨y2, r2, rfl, oy2, hy⟩ := hy.cons_inv
          obtain rfl := hy.nil_inv
          obtain rfl := oy1.str_inv
          obtain ⟨vr, gr, ir⟩ := tb_getN tb ok at'
          obtain ⟨qr, z1, z2, z3, rfl, hqr, ir1, ir2, ir3⟩ := im_trip ir
          obtain rfl := ir1.int_inv
          refine iteT ⟨.ref d, rfl, .ref a, rfl, .int (n : Nat), rfl, a, xs, _, .ref p, rfl, rfl, ha.sq, atI_nat ex, p, _, 0, _, rfl, rfl, hp.sq, atI_nat (j := 0) rfl, d, _, rfl, gr, qr, _, 0, _, rfl, rfl, hqr.sq, atI_nat (j := 0) rfl, .int (placeOf (ks.map (·.1)) fl), rfl, rfl, ?_⟩
          have e9 : decide (V.int (((mkRow (ks.map (·.1)) i' j m).2.1 : Nat) : Int) = V.int (placeOf (ks.map (·.1)) fl)) = decide (((i' : Nat) : Int) = placeOf (ks.map (·.1)) fl) := dec_le _ _
          rw [e9]
          exact q'
abbrev s_rows_fit : Stmt := topS 24
theorem sc_rows_fit : FnScope ["table", "thing", "at", "row", "fields", "field", "entry"] ["table", "thing"] (defScope s_rows_fit) := ⟨rfl, rfl, rfl, by decide +kernel, rfl, by decide +kernel, by decide +kernel⟩
def sr_fit (K : PySem.W.Frag) : Sp := fun vs H Q _ => ∃ (S : Addr → Prop) (d : Addr) (u : V) (ks : List Kd) (e : PyData), vs = [.ref d, u] ∧ KindsOk ks ∧ TableAt K H d (rowsOf ks ks.length) ∧ Od K S H u e ∧ ∀ H', Same H H' → Q (.bl (jRows ks e)) H'
set_option maxHeartbeats 1000000 in
theorem ok_rows_fit {f : Addr} {fd : FuncData} {k : Nat} (F : Fun K "rows_fit" "rows_fit" s_rows_fit f fd) (T : Tx K mg){k1 : Nat} (D_is_row : Def P w K mg base k1 "is_row" s_is_row ["thing", "low", "high"] (so_is_row K)) {k2 : Nat} (D_is_pair : Def P w K mg base k2 "is_pair" s_is_pair ["thing"] (so_is_pair K)) {k3 : Nat} (D_is_entry : Def P w K mg base k3 "is_entry" s_is_entry ["table", "rows", "field", "entry", "at"] (sr_entry K)) (e1 : k1 ≤ k) (e2 : k2 ≤ k) (e3 : k3 ≤ k) : FnOk P w K mg base CX0 (k + 1) f fd ["table", "thing"] (sr_fit K) := by
  have nd := sc_rows_fit.nd
  refine F.ok sc_rows_fit (fun vs H Q E h => ?_) (fun cdv A outer s H vs Q E hr h => ?_)
  · obtain ⟨_, _, _, _, _, rfl, _⟩ := h
    rfl
  · obtain ⟨S, d, u, ks, e, rfl, ok, tb, ou, q⟩ := h
    refine ⟨_, (pss_cons (ps_if (pt_not (pt_val (pe_def D_is_row (hr.mono (by omega)) rfl (pa_cons (pv 1) (pa_cons pe_int (pa_cons (pe_gv rfl T.g_MOST_ROWS) pa_nil))))))
        (pss_one (ps_ret pe_bl))
        pss_nil)
      (pss_cons (ps_for PassesOwn.never rfl (kpi_enumT K (by rfl) T.m_enumerate (pa_cons (pv 1) pa_nil)) (kpg_tup K (n := 2) rfl (pgs_cons (pg_name (i := 2) nd rfl (.inr rfl)) (pgs_cons (pg_name (i := 3) nd rfl (.inl rfl)) pgs_nil)))
        (pss_cons (ps_if (PW.pt (pw_or (pt_not (pt_val (pe_def D_is_pair (hr.mono (by omega)) rfl (pa_cons (pv 3) pa_nil)))) (pw_or (pt_not (pt_val (pe_callB (kcall_isi K) (by rfl) T.m_isinstance (by decide +kernel) (pa_cons (pe_ix (kix_tup K) (pv 3) pe_int (fun _ _ => rfl)) (pa_cons (pe_bltn (v := .ty "str") (u := .type "str") (by rfl) T.m_str (by decide +kernel) rfl) pa_nil))))) (pw_or1 (pt_cmp (pc_dnotin (hu_of hr) (pe_ix (kix_tup K) (pv 3) pe_int (fun _ _ => rfl)) (pv 0)))))))
          (pss_one (ps_ret pe_bl))
          pss_nil)
        (pss_cons (ps_set (i := 4) nd rfl (.inl rfl) (pe_ix (kix_tup K) (pe_dget (hu_of hr) (pv 0) (pe_ix (kix_tup K) (pv 3) pe_int (fun _ _ => rfl)) (fun _ _ => rfl)) pe_int (fun _ _ => rfl)))
        (pss_cons (ps_if (pt_not (pt_val (pe_def D_is_row (hr.mono (by omega)) rfl (pa_cons (pe_ix (kix_tup K) (pv 3) pe_int (fun _ _ => rfl)) (pa_cons (pe_callB (kcall_len K) (by rfl) T.m_len PySem.boot_len (pa_cons (pv 4) pa_nil)) (pa_cons (pe_callB (kcall_len K) (by rfl) T.m_len PySem.boot_len (pa_cons (pv 4) pa_nil)) pa_nil))))))
          (pss_one (ps_ret pe_bl))
          pss_nil)
        (pss_one (ps_if (pt_not (pt_val (pe_callB (kcr_all K) (by rfl) T.m_all (by decide +kernel) (pa_cons (pe_lc (own := [("field", 5), ("entry", 6)]) (g := _) (tt := tYes) rfl nd (kpi_zip K (by rfl) T.m_zip (pa_cons (pv 4) (pa_cons (pe_ix (kix_tup K) (pv 3) pe_int (fun _ _ => rfl)) pa_nil))) (blkOk_by (by rfl)) (fun _ _ _ _ _ => (kpg_tup K (n := 2) rfl (pgs_cons (pg_name (i := 5) nd rfl (.inl rfl)) (pgs_cons (pg_name (i := 6) nd rfl (.inl rfl)) pgs_nil)))) (fun _ _ _ _ _ => pts_nil) (fun _ _ _ _ _ => (pe_def D_is_entry (hr.mono (by omega)) rfl (pa_cons (pv 0) (pa_cons (pv 1) (pa_cons (pv 5) (pa_cons (pv 6) (pa_cons (pv 2) pa_nil)))))))) pa_nil))))
          (pss_one (ps_ret pe_bl))
          pss_nil))))))
      (pss_one (ps_ret pe_bl)))), ?_⟩
    refine ⟨u, rfl, S, u, e, 1, 96, rfl, ou, jRow e 1 96, rfl, ?_⟩
    cases hrow : jRow e 1 96 with
    | false =>
      have := q H (Same.refl H)
      rw [jRows_row hrow] at this
      exact iteT this
    | true =>
    obtain ⟨ds, rfl, _, l96⟩ := jRow_tup hrow
    obtain ⟨a, xs, rfl, ha, hx⟩ := ou.tuple_inv
    have lx := hx.len
    refine iteF ⟨.ref a, rfl, a, xs, rfl, ha.sq, ?_⟩
    refine for_it (walk_enumT (xs := xs)) (fun t σ Ha => ∃ (y2 y3 y4 : Option V), σ = [some (.ref d), some (.ref a), y2, y3, y4, none, none] ∧ Same H Ha ∧ ∀ s, s < t → jAt ks ds s = true) ⟨_, _, _, rfl, Same.refl _, fun s h => absurd h (Nat.not_lt_zero _)⟩ (fun t σ Ha _ z => ?_) ?_ ?_
    · obtain ⟨_, _, _, _, sm, _⟩ := z
      exact (ha.mono (tk_same sm)).sq
    · rintro t x σ Ha Hb ht ⟨y2, y3, y4, rfl, sm, al⟩ ⟨T, x1, x2, rfl, hT, rfl, e1, e2⟩
      obtain rfl := Option.some.inj e1
      obtain ⟨r, hr', ox⟩ := (hx.mono (fo_same sm)).getV e2
      have ht' : t < ds.length := (List.getElem?_eq_some_iff.mp hr').1
      have ej0 : jAt ks ds t = jLine ks ((ds.take t).map (kdOf ks)) r := by
        unfold jAt
        rw [List.getD_eq_getElem?_getD, hr']; rfl
      have ej : jLine ks ((ds.take t).map (kdOf ks)) r = (jPair r && (jStr (p0 r) && match lkp ks (stO (p0 r)) with
        | none => false
        | some (_, fs) => jRow (p1 r) fs.length fs.length && (fs.zip (its (p1 r))).all fun p => jEnt ((ds.take t).map (kdOf ks)) p.1 p.2)) := rfl
      have no : jLine ks ((ds.take t).map (kdOf ks)) r = false → ∀ H', Same H H' → Q (.bl false) H' := fun h H' s => by
        have := q H' s
        rwa [jRows_no ht' (by rw [ej0]; exact h)] at this
      have sT := same_new (o := .tup [.int (t : Nat), x2]) hT
      have s2 := sm.trans sT
      have ox2 := ox.mono (fo_same sT)
      refine ⟨T, _, rfl, .of upd_same, rfl, .int (t : Nat), _, rfl, x2, _, rfl, rfl, ?_⟩
      generalize upd Ha T (.tup [.int (t : Nat), x2]) = H2 at *
      refine ⟨x2, rfl, S, x2, r, rfl, ox2, jPair r, rfl, ?_⟩
      cases hp : jPair r with
      | false => exact iteT (no (by rw [ej, hp]; rfl) _ s2)
      | true =>
      obtain ⟨p, z1, z2, rfl, er, hpp, oz1, oz2⟩ := ox2.pair hp
      refine iteF ⟨.ref p, rfl, p, _, 0, _, rfl, rfl, hpp.sq, atI_nat (j := 0) rfl, z1, _, .type (tyName (p0 r)), _, jStr (p0 r), rfl, .ty _, od_ty oz1, kit_ty (kit_str (p0 r)), jStr (p0 r), rfl, ?_⟩
      rcases oz1.str_or with ⟨nm, rfl, ep0, lz⟩ | n
      rotate_left
      · rw [n]
        exact iteT (no (by rw [ej, hp, n]; rfl) _ s2)
      rw [ep0] at ej ⊢
      refine iteF ⟨.ref p, rfl, p, _, 0, _, rfl, rfl, hpp.sq, atI_nat (j := 0) rfl, .ref d, rfl, d, ?_⟩
      cases el : lkp ks nm with
      | none => exact ⟨_, rfl, tb_no (tb.same s2) el, true, rfl, iteT (no (by rw [ej, hp, show stO (.str nm) = nm from rfl, el]; rfl) _ s2)⟩
      | some tf =>
      obtain ⟨tt, fs⟩ := tf
      obtain ⟨i, j, kd, m, at', rfl, rfl⟩ := lkp_some el
      have ej2 : jLine ks ((ds.take t).map (kdOf ks)) r = (jRow (p1 r) m.2.length m.2.length && (m.2.zip (its (p1 r))).all fun p => jEnt ((ds.take t).map (kdOf ks)) p.1 p.2) := by
        rw [ej, hp, show stO (.str nm) = nm from rfl, el]; rfl
      obtain ⟨vr, gr, irr⟩ := tb_getN (tb.same s2) ok at'
      obtain ⟨qr, r1, r2, r3, rfl, hqr, ir1, ir22, ir3⟩ := im_trip irr
      have ir3' : Im K H2 r3 (.tuple ((m.2.map (placeOf (ks.map (·.1)))).map .int)) := ir3
      obtain ⟨pf, fs, rfl, hpf, hfs⟩ := ir3'.tuple_inv
      obtain rfl := im_intsN hfs
      have kmem := List.mem_of_getElem? at'.hk
      have mmem := List.mem_of_getElem? at'.hm
      have l4 := (ok.mkk _ kmem _ mmem).2
      refine ⟨_, rfl, gr, false, rfl, iteF ?_⟩
      refine ⟨.ref d, rfl, .ref p, rfl, p, _, 0, _, rfl, rfl, hpp.sq, atI_nat (j := 0) rfl, d, _, rfl, gr, qr, _, 2, _, rfl, rfl, hqr.sq, atI_nat (j := 2) rfl, ?_⟩
      refine ⟨.ref p, rfl, p, _, 1, _, rfl, rfl, hpp.sq, atI_nat (j := 1) rfl, .ref pf, rfl, pf, _, rfl, .inr hpf.sq, .ref pf, rfl, pf, _, rfl, .inr hpf.sq, S, z2, p1 r, _, _, rfl, oz2, jRow (p1 r) m.2.length m.2.length, ?_, ?_⟩
      · simp only [List.length_map]
      cases hr2 : jRow (p1 r) m.2.length m.2.length with
      | false => exact iteT (no (by rw [ej2, hr2]; rfl) _ s2)
      | true =>
      obtain ⟨es, ep1, g1, g2⟩ := jRow_tup hr2
      have les : es.length = m.2.length := by omega
      rw [ep1] at oz2 ej2
      have ej3 : jLine ks ((ds.take t).map (kdOf ks)) r = (m.2.zip es).all fun p => jEnt ((ds.take t).map (kdOf ks)) p.1 p.2 := by
        rw [ep1] at hr2
        rw [ej2, hr2]; rfl
      obtain ⟨pe, us, rfl, hpe, hus⟩ := oz2.tuple_inv
      have lus := hus.len
      refine iteF ⟨.ref pf, rfl, .ref p, rfl, p, _, 1, _, rfl, rfl, hpp.sq, atI_nat (j := 1) rfl, pf, pe, _, _, rfl, .inr ⟨hpf.sq, hpe.sq, fun D hD => ?_⟩⟩
      have lz : (m.2.zip es).length = m.2.length := by rw [List.length_zip]; omega
      refine lc_all (walk_zipT (by simp only [List.length_map]; omega)) (fun s Hx => Same H2 Hx ∧ Hx D = some (.lst ((((m.2.zip es).take s).map fun p => jEnt ((ds.take t).map (kdOf ks)) p.1 p.2).map V.bl))) ⟨same_new hD, upd_same⟩ (fun s Hx _ z => ⟨(hpf.mono (tk_same z.1)).sq, (hpe.mono (tk_same z.1)).sq⟩) (fun s x Hx Hy hi z y => ?_) (fun Hx z => ?_)
      · obtain ⟨s3, eD⟩ := z
        obtain ⟨T2, x1, x2, rfl, hT2, rfl, f1, f2⟩ := y
        simp only [List.getElem?_map, List.map_map] at f1
        obtain ⟨fl, hfl, rfl⟩ := Option.map_eq_some_iff.mp f1
        obtain ⟨e, he, oe⟩ := (hus.mono (fo_same s3)).getV f2
        have sT2 := same_new (o := .tup [V.int (placeOf (ks.map (·.1)) fl), x2]) hT2
        have s4 := s3.trans sT2
        have eD4 := sT2 _ _ eD
        have f5 := fo_same (S := S) (s2.trans s4)
        have fin := bools_snoc s4 hD eD4 (show (m.2.zip es)[s]? = some (fl, e) from List.getElem?_zip_eq_some.mpr ⟨hfl, he⟩)
        have hfl2 := ok.flds _ kmem _ mmem fl (List.mem_of_getElem? hfl)
        refine ⟨T2, _, rfl, .of upd_same, rfl, .int _, _, rfl, x2, _, rfl, rfl, rfl, .ref d, rfl, .ref a, rfl, .int _, rfl, x2, rfl, .int (t : Nat), rfl, S, d, .ref a, x2, ks, ds, fl, e, t, rfl, ok, tb.same (s2.trans s4), .tup (ha.mono f5.1) (hx.mono f5), oe.mono (fo_same sT2), by omega, al, hfl2, ?_⟩
        exact ⟨_, eD4, small1000 (by rw [List.length_map, List.length_map, List.length_take]; omega), fin⟩
      · obtain ⟨s3, eD⟩ := z
        have eD' : Hx D = some (.lst (((m.2.zip es).map fun p => jEnt ((ds.take t).map (kdOf ks)) p.1 p.2).map V.bl)) := by
          rw [eD, List.take_of_length_le (l := m.2.zip es) (by rw [lz]; simp only [List.length_map]; omega)]
        refine ⟨D, _, rfl, .of eD', _, rfl, ?_⟩
        rw [all_map, ← ej3]
        cases hj : jLine ks ((ds.take t).map (kdOf ks)) r with
        | false => exact iteT (no hj _ (s2.trans s3))
        | true =>
          refine iteF ⟨_, _, _, rfl, s2.trans s3, fun s hs => ?_⟩
          by_cases h : s = t
          · rw [h, ej0]; exact hj
          · exact al s (by omega)
    · rintro σ Ha ⟨y2, y3, y4, rfl, sm, al⟩
      have := q Ha sm
      rw [jRows_yes hrow (by rw [← lx]; exact al)] at this
      exact this
abbrev s_need_rows : Stmt := topS 26
theorem sc_need_rows : FnScope ["kinds", "rows"] ["kinds", "rows"] (defScope s_need_rows) := ⟨rfl, rfl, rfl, by decide +kernel, rfl, by decide +kernel, by decide +kernel⟩
def sr_need (K : PySem.W.Frag) (er : Er) : Sp := fun vs H Q E => ∃ (S : Addr → Prop) (v u : V) (ks : List Kd) (e : PyData), vs = [v, u] ∧ Im K H v (ksD ks) ∧ KindsOk ks ∧ Od K S H u e ∧ (jRows ks e = true → ∀ H', Same H H' → Q .non H') ∧ (jRows ks e = false → ∀ H', Same H H' → E (.ref er.r) none H')
theorem ok_need_rows {f : Addr} {fd : FuncData} {k : Nat} (F : Fun K "need_rows" "need_rows" s_need_rows f fd) (T : Tx K mg){er : Er} (TE : Tr K mg er) {k1 : Nat} (D_rows_fit : Def P w K mg base k1 "rows_fit" s_rows_fit ["table", "thing"] (sr_fit K)) {k2 : Nat} (D_maker_table : Def P w K mg base k2 "maker_table" s_maker_table ["kinds"] (sp_maker_table K)) (e1 : k1 ≤ k) (e2 : k2 ≤ k) : FnOk P w K mg base (L2.CX P w) (k + 1) f fd ["kinds", "rows"] (sr_need K er) := by
  have nd := sc_need_rows.nd
  refine F.okX sc_need_rows (fun vs H Q E h => ?_) (fun cdv A outer s H vs Q E hr h => ?_)
  · obtain ⟨_, _, _, _, _, rfl, _⟩ := h
    rfl
  · obtain ⟨S, v, u, ks, e, rfl, iv, ok, od, q1, q2⟩ := h
    refine ⟨_, (pss_one (ps_if (pt_not (pt_val (pe_def D_rows_fit (hr.mono (by omega)) rfl (pa_cons (pe_def D_maker_table (hr.mono (by omega)) rfl (pa_cons (pv 0) pa_nil)) (pa_cons (pv 1) pa_nil)))))
        (pss_one (ps_raise rfl (takes_of rfl rfl rfl rfl) (pmk_own PySem.F.excBase_ValueError TE.x_BadRows TE.g_BadRows TE.k_BadRows (raises_own TE.b_BadRows TE.t_BadRows) rfl)))
        pss_nil)), ?_⟩
    refine ⟨v, rfl, v, ks, rfl, iv, ok, fun t H1 s1 _ tb => ⟨u, rfl, S, _, u, ks, e, rfl, ok, tb, od.mono (fo_same s1), fun H2 s2 => ⟨jRows ks e, rfl, ?_⟩⟩⟩
    cases hj : jRows ks e with
    | true => exact iteF (q1 hj _ (s1.trans s2))
    | false => exact iteT (q2 hj _ (s1.trans s2))
abbrev s_is_rows : Stmt := topS 25
theorem sc_is_rows : FnScope ["kinds", "thing"] ["kinds", "thing"] (defScope s_is_rows) := ⟨rfl, rfl, rfl, by decide +kernel, rfl, by decide +kernel, by decide +kernel⟩
def sr_rows (K : PySem.W.Frag) : Sp := fun vs H Q _ => ∃ (S : Addr → Prop) (v u : V) (ks : List Kd) (e : PyData), vs = [v, u] ∧ Im K H v (ksD ks) ∧ KindsOk ks ∧ Od K S H u e ∧ ∀ H', Same H H' → Q (.bl (jRows ks e)) H'
theorem ok_is_rows {f : Addr} {fd : FuncData} {k : Nat} (F : Fun K "is_rows" "is_rows" s_is_rows f fd) (T : Tx K mg){k1 : Nat} (D_need_kinds : Def P w K mg base k1 "need_kinds" s_need_kinds ["kinds"] (sr_kinds K)) {k2 : Nat} (D_rows_fit : Def P w K mg base k2 "rows_fit" s_rows_fit ["table", "thing"] (sr_fit K)) {k3 : Nat} (D_maker_table : Def P w K mg base k3 "maker_table" s_maker_table ["kinds"] (sp_maker_table K)) (e1 : k1 ≤ k) (e2 : k2 ≤ k) (e3 : k3 ≤ k) : FnOk P w K mg base CX0 (k + 1) f fd ["kinds", "thing"] (sr_rows K) := by
  have nd := sc_is_rows.nd
  refine F.ok sc_is_rows (fun vs H Q E h => ?_) (fun cdv A outer s H vs Q E hr h => ?_)
  · obtain ⟨_, _, _, _, _, rfl, _⟩ := h
    rfl
  · obtain ⟨S, v, u, ks, e, rfl, iv, ok, od, q⟩ := h
    refine ⟨_, (pss_cons (ps_expr (pe_def D_need_kinds (hr.mono (by omega)) rfl (pa_cons (pv 0) pa_nil)))
      (pss_one (ps_ret (pe_def D_rows_fit (hr.mono (by omega)) rfl (pa_cons (pe_def D_maker_table (hr.mono (by omega)) rfl (pa_cons (pv 0) pa_nil)) (pa_cons (pv 1) pa_nil)))))), ?_⟩
    refine ⟨v, rfl, v, ks, rfl, iv, ok, fun H0 s0 => ⟨v, rfl, v, ks, rfl, Im.mono (tk_same s0) _ iv, ok, fun t H1 s1 _ tb => ⟨u, rfl, S, _, u, ks, e, rfl, ok, tb, od.mono (fo_same (s0.trans s1)), fun H2 s2 => q _ ((s0.trans s1).trans s2)⟩⟩⟩
end
end K63

set_option Elab.async false
set_option linter.all false
set_option maxRecDepth 100000
set_option maxHeartbeats 2000000
/-! dicts whose keys are tuples: their items walked; such a dict made by a comprehension -/
namespace Ly
open PySem PySem.Spec PyProof.Rows L2
section
variable {prog : Program} {w : World} {A : Around} {E : Value → Shared → Prop} {s : Shared}
theorem call_itemsP {d : Addr} {Q : Value → Shared → Prop} (hT : s.TypeIs (.ref d) "dict") (hsm : (d == sysModules) = false) (h : Q (.ref s.heap.objs.size) { s with heap := s.heap.push (DSub.viewOb "dict_items" d) }) :
    wpAny (model prog w) A (call (.builtin "dict.items") [.ref d]) Q E s := by
  refine wpAny_call_entry PySem.F.slot_dict_items hT PySem.F.entry_dict_items ?_ (PySem.F.args_dict_items_1 _)
  unfold Builtin.«dict.items»
  refine wpAny_bind ?_
  unfold Builtin.Dict.noArgs
  refine wpAny_bind (wpAny_notOrdered_dict hT ?_)
  show wpAny _ _ (pure d) _ _ s
  refine wpAny_pure ?_
  show wpAny _ _ (Builtin.Dict.showsAll d >>= _) _ _ s
  unfold Builtin.Dict.showsAll
  rw [if_neg (by rw [hsm]; exact Bool.false_ne_true)]
  refine wpAny_bind (wpAny_pure ?_)
  exact wpAny_bind (wpAny_newObj_type (wpAny_pure ⟨_, rfl, h⟩))
end
section
variable {X : Cx} {pins : List (Addr × Obj)} {σ : L2.St} {H : Hp} {s : Shared} {d : Addr} {o : Obj}
theorem Inv.frzN {xs : List NK} (I : Inv X pins σ H s) (h : H d = some (.frz o (dN X.prog X.w d xs))) :
    (d == sysModules) = false ∧ s.heap.get? d = some o ∧ o.ExactDict ∧ ∃ (es : Array DictEntry) (ep : Nat), o.data = .dict es ep ∧ es.size = xs.length ∧
      ∀ (i : Nat) (x : NK), xs[i]? = some x → ∃ en : DictEntry, es[i]? = some en ∧ en.key = .ref x.2.1 ∧ en.val = .ref x.2.2 := by
  obtain ⟨hd, ⟨z, hs, o', es, ep, ho, hx, hdt, he, _⟩, _, _⟩ := I.hok d _ h
  rw [hd] at ho
  cases ho
  refine ⟨hs, hd, hx, es, ep, hdt, ?_, fun i x e => ?_⟩
  · have l1 : es.size = (xs.map rawN).length := size_of_entries he
    rw [l1, List.length_map]
  · have q := entry_at he i
    rw [List.getElem?_map, e] at q
    exact ⟨_, q, rfl, rfl⟩
end
/-- the items of the locked dict at d, each a new tuple -/
def ItnI (P : Program) (w : World) (d : Addr) (o : Obj) (xs : List NK) : It :=
  ⟨fun i H => H d = some (.frz o (dN P w d xs)) ∧ i < xs.length, fun i H x H' => ∃ T y, xs[i]? = some y ∧ x = .ref T ∧ H T = none ∧ H' = upd H T (.tup [.ref y.2.1, .ref y.2.2]), fun i H => H d = some (.frz o (dN P w d xs)) ∧ xs.length ≤ i⟩
theorem turn_itemsN {P : Program} {w : World} {K : PySem.W.Frag} {d : Addr} {o : Obj} {es : Array DictEntry} {ep : Nat} {xs : List NK} {elts : List Expr} {kk : Nat} {tpos : Pos} (it : Addr) (hod : o.data = .dict es ep) :
    Turn P w K (.Tuple elts kk tpos) (ItnI P w d o xs) [it] it (fun i h => ∃ ok ov, h.get? it = some (DVw.itmOb d .none i xs.length ep ok ov)) where
  mem := by simp
  obj := fun i h st b hb => by
    have e : b = it := by simpa using hb
    subst e
    obtain ⟨ok, ov, e⟩ := st
    exact ⟨_, e, fun v z => nomatch z⟩
  keep := fun i h h' st k => let ⟨ok, ov, e⟩ := st; ⟨ok, ov, k it (by simp) _ e⟩
  item := by
    intro X hP hw hK hc i pins s σ H E I hf st hg
    subst hP hw hK
    obtain ⟨hd, hi⟩ := hg
    obtain ⟨hs, hgd, hx, es', ep', hdt, hsz, ent⟩ := Inv.frzN I hd
    obtain ⟨rfl, rfl⟩ := dict_ep hod hdt
    obtain ⟨y, hy⟩ : ∃ p, xs[i]? = some p := ⟨xs[i], List.getElem?_eq_getElem hi⟩
    obtain ⟨e, he, hkey, hval⟩ := ent i y hy
    obtain ⟨ok, ov, hit⟩ := st
    have hlt : it < s.heap.objs.size := Heap.lt_size hit
    refine DVw.itm_item hit hgd hdt hsz he fun h' b1 b2 b3 b4 => ?_
    refine ⟨_, rfl, wpAny_letOwnedTupleGo_items (s := { s with heap := h' }) (d := d) (i := i + 1) (n := xs.length) (ep := ep') (ok := e.key) (ov := e.val) b1 fun h'' he' sb => ?_⟩
    have hT2 : h''.get? s.heap.objs.size = some { cls := .type "tuple", data := .seq #[e.key, e.val] } := (sb.2 _ (Nat.ne_of_gt hlt)).trans b2
    have new : ObjOk X.prog X.w (upd H s.heap.objs.size (.tup [.ref y.2.1, .ref y.2.2])) h'' s.heap.objs.size (.tup [.ref y.2.1, .ref y.2.2]) :=
      ⟨by show 2 ≤ sizeLine; decide, [e.key, e.val], .cons hkey (.cons hval .nil), ⟨_, hT2, rfl, _, rfl⟩⟩
    have I1 : Inv X pins σ (upd H s.heap.objs.size (.tup [.ref y.2.1, .ref y.2.2])) { s with heap := h'' } :=
      I.turnedNew (t' := s.toks) (ch := [it]) (fun b ob hb z => (sb.2 b (by simpa using hb)).trans (b4 b ob (by simpa using hb) z)) hf (Nat.le_refl _) new
    refine ⟨.ref s.heap.objs.size, _, I1, rfl, ⟨_, y, hy, rfl, I.hok.fresh (Nat.le_refl _), rfl⟩, ⟨e.key, e.val, he'⟩, fun b hb => ?_⟩
    have z : b = it := by simpa using hb
    rw [z, upd_ne (Nat.ne_of_lt hlt)]
    exact (hf it (by simp)).1
  done := by
    intro X hP hw hK hc i pins s σ H E I hf st hg
    subst hP hw hK
    obtain ⟨hd, hi⟩ := hg
    obtain ⟨f0, f1, f2, f3, f4, f5⟩ := hf it (by simp)
    obtain ⟨hs, hgd, hx, es', ep', hdt, hsz, ent⟩ := Inv.frzN I hd
    obtain ⟨rfl, rfl⟩ := dict_ep hod hdt
    obtain ⟨ok, ov, hit⟩ := st
    have he : es'[i]? = none := Array.getElem?_eq_none (by rw [hsz]; exact hi)
    exact DVw.itm_end (I.ok.hd hc) hit hgd hdt hsz he fun h' eb => ⟨rfl, I.turned (t' := s.toks) (fun b ob hb e => eb b ob hb e) f0 f1 f3 f4 f5⟩
  self := fun A i s Q E st h => let ⟨_, _, e⟩ := st; PySem.W.kcp_self e h
/-- .. in e.items(), the dict locked (tLock) -/
def iItemsN (X : Cx) (td : TE) : TI := fun σ H R => td σ H fun x H1 => ∃ d o xs, x = .ref d ∧ H1 d = some (.frz o (dN X.prog X.w d xs)) ∧ R (ItnI X.prog X.w d o xs) H1
theorem pi_itemsN {X : Cx} {e : Expr} {td : TE} {apos cpos : Pos} {elts : List Expr} {kk : Nat} {tpos : Pos} (he : PE X e td) (hbase : attributeBase e "items" X.env (eval e X.env) = eval e X.env := by rfl) (hline : (apos.endLine == cpos.line) = true := by rfl) :
    PI X (.Tuple elts kk tpos) (.Call (.Attribute e "items" apos) [] [] cpos) (iItemsN X td) := by
  refine ⟨fun pins s σ H R I h => ?_⟩
  refine wpAny_Call_method (T := "dict") (id := "dict.items") hbase rfl hline PySem.F.plainAttrs_dict PySem.F.slot_dict_items PySem.F.type_dict_items (thn (he.run pins s σ H _ I h) fun u s1 ⟨x, H1, I1, rx, d, o, xs, ex, hd, q⟩ => ?_)
  subst ex
  obtain rfl : u = Value.ref d := rx
  obtain ⟨hs, hgd, hx, es, ep, hdt, hsz, ent⟩ := Inv.frzN I1 hd
  have hT : s1.TypeIs (.ref d) "dict" := ⟨_, hgd, hx.1⟩
  refine ⟨hT, fun b q => ?_, ?_⟩
  · cases q
    exact ⟨o, hgd, hx.2.1⟩
  have I2 : Inv X pins σ H1 { s1 with heap := s1.heap.push (DSub.viewOb "dict_items" d) } := I1.kept (t' := s1.toks) fun b ob q => Heap.get?_push_of_some _ q
  refine callWith_method0 (first := [.ref d]) (call_itemsP hT hs ?_)
  refine DSub.iter_itms (Heap.get?_push_size _ rfl) (Heap.get?_push_of_some _ hgd) hdt ?_
  refine pi_one (tk := s1.toks) I2 _ (turn_itemsN _ hdt) ⟨.none, .none, ?_⟩ q
  rw [← hsz]
  exact Heap.get?_push_size _ rfl
theorem walk_itemsN {P : Program} {w : World} {d : Addr} {o : Obj} {xs : List NK} : Walk (ItnI P w d o xs) xs.length (fun H => H d = some (.frz o (dN P w d xs))) (fun i H x H' => ∃ T y, xs[i]? = some y ∧ x = .ref T ∧ H T = none ∧ H' = upd H T (.tup [.ref y.2.1, .ref y.2.2])) :=
  ⟨fun _ _ hi q => ⟨q, hi⟩, fun _ q => ⟨q, Nat.le_refl _⟩, fun _ _ _ _ _ _ y => y⟩
/-! ### such a dict by a comprehension -/
section
variable {X : Cx}
def tDcN (P : Program) (w : World) (K : PySem.W.Frag) (wi : TI) (g : TG) (tt : TT) (tk tv : TE) (vs : List Nat) : TE := fun σ H Q => wi σ H fun J H1 => ∀ D, H1 D = none → ∃ W : Nat → Nat → Hp → Prop, (∃ m, W 0 m (upd H1 D (dN P w D []))) ∧ ∀ i m H, W i m H →
  (J.stop i H ∧ Q (.ref D) H) ∨ (J.go i H ∧ ∃ Nx : Hp → Prop, (∀ H', Nx H' → ∃ m', m' < m ∧ W (i + 1) m' H') ∧ ∀ x H', J.yld i H x H' → g x (wipe σ vs) H' fun σ2 H2 => wipe σ2 vs = wipe σ vs ∧ tt σ2 H2 fun b H3 =>
    if b = true then tk σ2 H3 fun y H4 => tv σ2 H4 fun z H5 => ∃ xs k kb c, z = .ref c ∧ rGetN P w K H5 D y xs k kb ∧ xs.length < sizeLine ∧ Nx (upd H5 D (dN P w D (putN xs k kb c))) else Nx H3)
theorem d_dictSetN {pins : List (Addr × Obj)} {σ : L2.St} {H : Hp} {s : Shared} {E : Value → Shared → Prop} {D kb c : Addr} {xs : List NK} {k : NestedKey} {y : V} {u r : Value} {Q : Unit → Shared → Prop} (hu : X.A.units + 10 < cLine) (I : Inv X pins σ H s) (g : rGetN X.prog X.w X.K H D y xs k kb) (hz : xs.length < sizeLine)
    (ry : RelV y u) (rv : RelV (.ref c) r) (h : ∀ s', Inv X pins σ (upd H D (dN X.prog X.w D (putN xs k kb c))) s' → Q () s') : wpAny (model X.prog X.w) X.A (dictSet D u r) Q E s := by
  obtain ⟨e, ks, rfl, ib, dk⟩ := g
  obtain rfl : u = Value.ref kb := ry
  obtain rfl : r = Value.ref c := rv
  obtain ⟨z, hd, dd⟩ := dN_of I e ks
  refine wpAny_dictSet_heap (hsz := by rw [List.length_map]; exact z) (k := k) (by show X.A.units + 8 < cLine; omega) (show (nestedKind X.prog X.w).is s.heap k kb from ⟨nest_is I k ib rfl, dk⟩) dd fun h' dd' hs' => h _ ?_
  rw [← put_raw] at dd'
  have he : ∃ q, h'.get? D = some q := let ⟨q, _, _, hq, _⟩ := dd'; ⟨q, hq⟩
  exact d_write I (by rw [e]; exact True.intro) hs' he (dN_ok (by have := putN_length xs k kb c; omega) hd dd')
theorem dc_coreN {pins : List (Addr × Obj)} {s : Shared} {σ : L2.St} {H : Hp} {Q : VK} {kx vx tg iter : Expr} {ifs : List Expr} {scope : Scope} {own : List (Str × Nat)} {pos pos' : Pos} {wi : TI} {g : TG} {tt : TT} {tk tv : TE} {use : Option (Value → Sem Unit)} {Qf : Value → Shared → Prop}
    (hu : X.A.units + 10 < cLine) (hc : X.calm = true) (hN : X.N.Nodup) (I : Inv X pins σ H s) (hi : PI X tg iter wi) (ok : BlkOk X.N X.env.scope scope own)
    (hg : ∀ (s : Shared) (H : Hp) (C : Addr) (cl : List (Str × Addr)) (fp : List Addr), PG (X.blk s H scope (compEnvC scope cl C X.env) fp) tg g) (ht : ∀ (s : Shared) (H : Hp) (C : Addr) (cl : List (Str × Addr)) (fp : List Addr), PTs (X.blk s H scope (compEnvC scope cl C X.env) fp) ifs tt)
    (hk : ∀ (s : Shared) (H : Hp) (C : Addr) (cl : List (Str × Addr)) (fp : List Addr), PE (X.blk s H scope (compEnvC scope cl C X.env) fp) kx tk)
    (he : ∀ (s : Shared) (H : Hp) (C : Addr) (cl : List (Str × Addr)) (fp : List Addr), PE (X.blk s H scope (compEnvC scope cl C X.env) fp) vx tv) (hs : ∀ x, foldedSetIterable iter X.env x = pure x)
    (h : tDcN X.prog X.w X.K wi g tt tk tv (own.map (·.2)) σ H Q)
    (hRR : ∀ D C s' m H', Inv X pins σ H' s' → Q (.ref D) H' → s'.heap.Ns C m → FpOk X pins H' C → compPost (model X.prog X.w) X.A X.xe use Qf (.ref D) C (.ok .next) s') :
    wpAny (model X.prog X.w) X.A (comprehension (.DictComp kx vx [⟨tg, iter, ifs, 0⟩] scope pos) scope X.env pos' newDict false (eval iter X.env) use) Qf X.xe s := by
  have hfree : ∀ y ∈ scope.names, y.2 = .free → ∃ c, X.env.cells.lookup y.1 = some c := fun y hy e => by
    rcases ok.free y hy e with k | k
    · exact I.ok.has _ (.inl k)
    · exact I.ok.has _ (.inr k)
  refine wpAny_comprehension_free (use := use) rfl hs (closure_ok hfree) ok.kind (fun y hy e => by rw [ok.uniq y hy, e])
    (thn (hi.run pins s σ H _ I h) fun xv s1 hx => thn hx fun itv s2 h2 => ?_)
  obtain ⟨it, fp, tn, J, H2, e, I2, T, st2, f2, q⟩ := h2
  subst e
  refine wpAny_newObj_type (newEnv_comp ?_)
  generalize hD : s2.heap.objs.size = D
  have hDn : H2 D = none := I2.hok.fresh (Nat.le_of_eq hD)
  obtain ⟨W, ⟨m0, w0⟩, turn⟩ := q D hDn
  -- the new list
  generalize hs3 : ({ s2 with heap := s2.heap.push { cls := .type "dict", data := .dict #[] } } : Shared) = s3
  have I3 : Inv X pins σ (upd H2 D (dN X.prog X.w D [])) s3 := by
    rw [← hs3]
    refine I2.laid (t' := s2.toks) (fun b o e => Heap.get?_push_of_some _ e) (Nat.le_of_eq hD) ?_
    rw [← hD]
    exact dN_ok (Nat.zero_le _) (beq_eq_false_iff_ne.mpr (Ne.symm (Nat.ne_of_lt I2.big))) (Heap.DictOfH.new s2.heap)
  have h3 : s3.heap = s2.heap.push { cls := .type "dict", data := .dict #[] } := by rw [← hs3]
  have sz : ∀ b ∈ fp, b < s2.heap.objs.size := fun b hb => by
    obtain ⟨o, e, _⟩ := T.obj _ _ st2 b hb
    exact Heap.lt_size e
  have f3 : ∀ b ∈ fp, FpOk X pins (upd H2 D (dN X.prog X.w D [])) b ∧ b < s3.heap.objs.size := fun b hb => by
    have hlt := sz b hb
    refine ⟨⟨?_, (f2 b hb).2⟩, by rw [h3, Heap.size_push]; exact Nat.lt_succ_of_lt hlt⟩
    rw [upd_ne (by rw [← hD]; exact Nat.ne_of_lt hlt)]
    exact (f2 b hb).1
  have st3 : tn 0 s3.heap := T.keep _ _ _ st2 fun b _ o e => by rw [h3]; exact Heap.get?_push_of_some _ e
  have I4 := block_start I3 ok hN f3
  have pg := hg s3 (upd H2 D (dN X.prog X.w D [])) s3.heap.objs.size (cellsFrom (s3.heap.objs.size + 1) scope.names (cloFrom X.env.cells scope.names [])) fp
  have pt := ht s3 (upd H2 D (dN X.prog X.w D [])) s3.heap.objs.size (cellsFrom (s3.heap.objs.size + 1) scope.names (cloFrom X.env.cells scope.names [])) fp
  have pk := hk s3 (upd H2 D (dN X.prog X.w D [])) s3.heap.objs.size (cellsFrom (s3.heap.objs.size + 1) scope.names (cloFrom X.env.cells scope.names [])) fp
  have pe := he s3 (upd H2 D (dN X.prog X.w D [])) s3.heap.objs.size (cellsFrom (s3.heap.objs.size + 1) scope.names (cloFrom X.env.cells scope.names [])) fp
  show codeAny _ _ (.compStart (.DictComp kx vx [⟨tg, iter, ifs, 0⟩] scope pos) 0 (.ref it) (.ref D) (compEnvC scope (cellsFrom (s3.heap.objs.size + 1) scope.names (cloFrom X.env.cells scope.names [])) s3.heap.objs.size X.env)) (compPost (model X.prog X.w) X.A X.xe use Qf (.ref D) s3.heap.objs.size) { s3 with heap := pushCells (s3.heap.push { cls := .type "dict", data := .dict #[] }) scope.names }
  have nfp : ∀ b ∈ fp, (upd H2 D (dN X.prog X.w D [])) b = none := fun b hb => (f3 b hb).1.1
  generalize hce : compEnvC scope (cellsFrom (s3.heap.objs.size + 1) scope.names (cloFrom X.env.cells scope.names [])) s3.heap.objs.size X.env = ce at I4 pg pt pk pe ⊢
  have cL : ce.locals = s3.heap.objs.size := by subst hce; rfl
  generalize hH3 : upd H2 D (dN X.prog X.w D []) = H3 at I3 I4 pg pt pk pe w0 nfp f3
  generalize hs4 : ({ s3 with heap := pushCells (s3.heap.push { cls := .type "dict", data := .dict #[] }) scope.names } : Shared) = s4 at I4 ⊢
  have st4 : tn 0 s4.heap := T.keep _ _ _ st3 fun b _ o e => by rw [← hs4]; exact pushCells_keeps _ _ _ _ (Heap.get?_push_of_some _ e)
  have stat : ∀ {σ' : L2.St} {H' : Hp} {s' : Shared}, Inv (X.blk s3 H3 scope ce fp) [] σ' H' s' → (∀ b ∈ fp, H' b = none) → ∀ b ∈ fp, FpOk (X.blk s3 H3 scope ce fp) [] H' b := fun {σ' H' s'} I' hn b hb =>
    ⟨hn b hb, (I'.ok.exf b hb).1, I'.ok.exfs b hb, .inl hb, fun x c e => (I'.ok.exf b hb).2 x c e, fun p hp => absurd (show p ∈ ([] : List (Addr × Obj)) ++ [] from hp) (by simp)⟩
  have loop : codeAny (model X.prog X.w) X.A (.compLoop (.DictComp kx vx [⟨tg, iter, ifs, 0⟩] scope pos) 0 (.ref it) (.ref D) ce) (compPost (model X.prog X.w) X.A X.xe use Qf (.ref D) s3.heap.objs.size) s4 := by
    refine compLoop_anyD (fun n s' => ∃ i H', Inv (X.blk s3 H3 scope ce fp) [] (wipe σ (own.map (·.2))) H' s' ∧ tn i s'.heap ∧ (∀ b ∈ fp, H' b = none) ∧ W i n H') ?_ m0 ⟨0, H3, I4, st4, nfp, w0⟩
    rintro n s5 ⟨i, H5, I5, st5, n5, w5⟩
    rcases turn i n H5 w5 with ⟨stop, qq⟩ | ⟨go, Nx, hNx, step⟩
    · have td := T.done (X.blk s3 H3 scope ce fp) rfl rfl rfl hc i [] s5 _ H5 (fun _ _ => False) I5 (stat I5 n5) st5 stop
      refine thnF td fun r s6 ⟨hr, I6⟩ => ?_
      subst hr
      -- back in the def's context
      have I7 : Inv X pins σ H5 s6 := I3.call' (ch := fp) I6.os I6.base I6.hok I6.bare fun b hb => ⟨(f3 b hb).1.2.2.2.1, (f3 b hb).1.2.1, (f3 b hb).1.2.2.2.2.1, (f3 b hb).1.2.2.2.2.2⟩
      have nC : H5 s3.heap.objs.size = none := by
        have z : H5 ce.locals = none := I6.free
        rw [cL] at z
        exact z
      obtain ⟨m, hn, _⟩ := I6.loc
      have hn : s6.heap.Ns ce.locals m := hn
      rw [cL] at hn
      exact hRR D s3.heap.objs.size s6 m H5 I7 qq hn (I3.fpOk (Nat.le_refl _) nC)
    · have ti := T.item (X.blk s3 H3 scope ce fp) rfl rfl rfl hc i [] s5 _ H5 (fun _ _ => False) I5 (stat I5 n5) st5 go
      refine thnF ti fun r s6 ⟨u, hr, h6⟩ => ?_
      subst hr
      refine thnF h6 fun _ s7 ⟨x, H7, I7, r7, y7, st7, n7⟩ => ?_
      have I7' := I7.pinned (stat I7 n7) (T.obj _ _ st7)
      refine thnF (pg.run _ s7 _ H7 x u _ I7' r7 (step x H7 y7)) fun _ s8 ⟨σ8, H8, I8, hw8, q8⟩ => ?_
      refine thnF (pt.run _ s8 σ8 H8 _ I8 q8) fun b s9 ⟨H9, I9, q9⟩ => ?_
      -- the turn's end
      have fin : ∀ {s' : Shared} {H' : Hp}, Inv (X.blk s3 H3 scope ce fp) ([] ++ pinsAt fp s7.heap) σ8 H' s' → Nx H' → ∃ m, m < n ∧ ∃ i H', Inv (X.blk s3 H3 scope ce fp) [] (wipe σ (own.map (·.2))) H' s' ∧ tn i s'.heap ∧ (∀ b ∈ fp, H' b = none) ∧ W i m H' := fun {s' H'} I' nx => by
        obtain ⟨m', hm, w'⟩ := hNx H' nx
        have pin' : ∀ b ∈ fp, ∀ o, s7.heap.get? b = some o → s'.heap.get? b = some o ∧ H' b = none := fun b hb o e =>
          let z := I'.pin (b, o) (List.mem_append_right _ (List.mem_append_right _ (mem_pinsAt hb e)))
          ⟨z.1, z.2.1⟩
        have hl : (wipe σ (own.map (·.2))).length = σ8.length := by rw [← hw8, wipe_length]
        refine ⟨m', hm, i + 1, H', (I'.unpinned (pins := [])).weak hl (fun j v e => ?_), T.keep _ _ _ st7 fun b hb o e => (pin' b hb o e).1, fun b hb => ?_, w'⟩
        · rw [← hw8] at e
          exact (wipe_some e).1
        · obtain ⟨o, e, _⟩ := T.obj _ _ st7 b hb
          exact (pin' b hb o e).2
      cases b with
      | false =>
        simp only [Bool.false_eq_true, if_false] at q9 ⊢
        exact fin I9 q9
      | true =>
        simp only [if_true] at q9 ⊢
        refine thnF (pk.run _ s9 σ8 H9 _ I9 q9) fun z s10 ⟨yk, H10, I10, r10, q10⟩ => ?_
        refine thnF (pe.run _ s10 σ8 H10 _ I10 q10) fun z2 s11 ⟨yv, H11, I11, r11, kvs, k, kb, cc, ek, hD11, hz11, nx⟩ => ?_
        subst ek
        exact d_dictSetN (X := X.blk s3 H3 scope ce fp) hu I11 hD11 hz11 r10 r11 fun s12 I12 => fin I12 nx
  exact codeAny_compStart_dict loop (T.self X.A 0 _ _ _ st4 loop)
/-- as a value -/
theorem pe_dcN {kx vx tg iter : Expr} {ifs : List Expr} {scope : Scope} {own : List (Str × Nat)} {pos : Pos} {wi : TI} {g : TG} {tt : TT} {tk tv : TE} (hu : X.A.units + 10 < cLine) (hc : X.calm = true) (hN : X.N.Nodup) (hi : PI X tg iter wi) (ok : BlkOk X.N X.env.scope scope own)
    (hg : ∀ (s : Shared) (H : Hp) (C : Addr) (cl : List (Str × Addr)) (fp : List Addr), PG (X.blk s H scope (compEnvC scope cl C X.env) fp) tg g) (ht : ∀ (s : Shared) (H : Hp) (C : Addr) (cl : List (Str × Addr)) (fp : List Addr), PTs (X.blk s H scope (compEnvC scope cl C X.env) fp) ifs tt)
    (hk : ∀ (s : Shared) (H : Hp) (C : Addr) (cl : List (Str × Addr)) (fp : List Addr), PE (X.blk s H scope (compEnvC scope cl C X.env) fp) kx tk)
    (he : ∀ (s : Shared) (H : Hp) (C : Addr) (cl : List (Str × Addr)) (fp : List Addr), PE (X.blk s H scope (compEnvC scope cl C X.env) fp) vx tv) (hs : ∀ x, foldedSetIterable iter X.env x = pure x := by intro _; rfl) :
    PE X (.DictComp kx vx [⟨tg, iter, ifs, 0⟩] scope pos) (tDcN X.prog X.w X.K wi g tt tk tv (own.map (·.2))) := by
  refine ⟨fun pins s σ H Q I h => ?_⟩
  rw [arm_eval_DictComp]
  refine dc_coreN hu hc hN I hi ok hg ht hk he hs h fun D C s' m H' I' q hn f => ⟨m, hn, fun h'' sb => ?_⟩
  obtain ⟨f0, f1, f2, f3, f4, f5⟩ := f
  exact ⟨.ref D, H', I'.turned (t' := s'.toks) (fun b o hb e => (sb.2 b hb).trans e) f0 f1 f3 f4 f5, rfl, q⟩
end
end Ly

set_option Elab.async false
set_option linter.all false
set_option maxRecDepth 100000
set_option maxHeartbeats 2000000
/-! dict(zip(..)) of two tuples; list(d.items()) of a dict whose keys are tuples -/
namespace Ly
open PySem PySem.Spec PyProof.Rows L2
section
variable {prog : Program} {w : World} {A : Around} {E : Value → Shared → Prop} {s : Shared} {z TI TO T i1 i2 : Addr} {f : Bool} {oT : Obj} {fp1 fp2 : List Addr} {n1 n2 i : Nat} {P1 P2 : Nat → Value → Prop} {St1 St2 : Nat → Heap → Prop}
/-- next of a zip whose last tuple is still held elsewhere: a new tuple -/
theorem held_item {Q : Option Value → Shared → Prop} (S : ZipSep2 z TI TO i1 i2 fp1 fp2) (D1 : Draws prog w A.in1 i1 fp1 n1 P1 St1) (D2 : Draws prog w A.in1 i2 fp2 n2 P2 St2)
    (hz : IsZipHeld s.heap z TI TO T f) (hT : s.heap.get? T = some oT) (hTI : IsTupOf2 s.heap TI (.ref i1) (.ref i2)) (st1 : St1 i s.heap) (st2 : St2 i s.heap) (lt1 : i < n1) (lt2 : i < n2)
    (hQ : ∀ x1 x2 h' tk, P1 i x1 → P2 i x2 → IsZipHeld h' z TI TO T true → St1 (i + 1) h' → St2 (i + 1) h' → IsTupOf2 h' s.heap.objs.size x1 x2 → h'.objs.size = s.heap.objs.size + 1 →
      (∀ c o, c ≠ z → c ≠ i1 → c ≠ i2 → s.heap.get? c = some o → h'.get? c = some o) → Q (some (.ref s.heap.objs.size)) { s with heap := h', toks := tk }) :
    wpAny (model prog w) A (pyNext (.ref z)) Q E s := by
  have ty : s.TypeIs (.ref z) "zip" := ⟨_, hz, rfl⟩
  unfold pyNext
  refine wpAny_bind (wpAny_attempt (wpAny_callSpecial?_slot (name := Str.ofString "__next__") ty PySem.F.slot_zip_next (wpAny_call_entry PySem.F.slot_zip_next ty PySem.F.entry_zip_next ?_ (PySem.F.args_zip_next_1 _))))
  show wpAny _ A.in1 (field (.ref z) 2 >>= _) _ _ _
  refine wpAny_bind (wpAny_field hz rfl (x := .bool false) rfl ?_)
  show wpAny _ _ (field (.ref z) 3 >>= _) _ _ _
  refine wpAny_bind (wpAny_field hz rfl (x := .ref TI) rfl ?_)
  refine wpAny_bind (wpAny_seqItems hTI rfl ?_)
  show wpAny _ _ (Builtin.SmallTypes.ownedTupleIsFree (.ref z) >>= _) _ _ _
  refine wpAny_bind (wpAny_tupleHeld_zip hz hT fun g1 z1 b1 => ?_)
  simp only [Bool.false_eq_true, if_false]
  refine wpAny_bind ?_
  rw [← Array.forIn_toList]
  simp only [List.forIn_cons, List.forIn_nil]
  refine wpAny_bind (wpAny_bind (wpAny_holding ?_))
  show wpAny _ _ (Builtin.SmallTypes.nextOf (.ref i1) >>= _) _ _ _
  refine wpAny_bind (D1.item i { s with heap := g1 } _ _ lt1 (D1.over st1 b1 S.zf1) fun x1 g2 tk2 hx1 sn1 b2 => wpAny_pure ?_)
  replace b2 : Heap.SameBut i1 g1 g2 := b2
  refine wpAny_pure ?_
  refine wpAny_bind (wpAny_bind (wpAny_holding ?_))
  show wpAny _ _ (Builtin.SmallTypes.nextOf (.ref i2) >>= _) _ _ _
  refine wpAny_bind (D2.item i { s with heap := g2, toks := tk2 } _ _ lt2 (D2.over (D2.over st2 b1 S.zf2) b2 S.sep1_2) fun x2 g3 tk3 hx2 sn2 b3 => wpAny_pure ?_)
  replace b3 : Heap.SameBut i2 g2 g3 := b3
  refine wpAny_pure (wpAny_pure ?_)
  show wpAny _ _ (newTuple [x1, x2] >>= _) _ _ _
  refine wpAny_bind (wpAny_newTuple ?_)
  have sz : g3.objs.size = s.heap.objs.size := by rw [b3.1, b2.1, b1.1]
  have z3 : IsZipHeld g3 z TI TO T true := b3.extBut _ _ S.zi2 (b2.extBut _ _ S.zi1 z1)
  have keep : ∀ c o, c ≠ z → c ≠ i1 → c ≠ i2 → s.heap.get? c = some o → g3.get? c = some o := fun c o c1 c2 c3 e => b3.extBut _ _ c3 (b2.extBut _ _ c2 (b1.extBut _ _ c1 e))
  have s13 : St1 (i + 1) g3 := D1.over sn1 b3 S.sep2_1
  refine wpAny_pure ⟨_, rfl, wpAny_pure ?_⟩
  show Q (some (.ref g3.objs.size)) _
  have pr : IsTupOf2 (g3.push { cls := .type "tuple", data := .seq #[x1, x2] }) g3.objs.size x1 x2 := Heap.get?_push_size _ rfl
  have sz4 : (g3.push { cls := .type "tuple", data := .seq #[x1, x2] }).objs.size = g3.objs.size + 1 := Heap.size_push ..
  rw [sz] at pr sz4 ⊢
  exact hQ x1 x2 _ _ hx1 hx2 (Heap.get?_push_of_some _ z3) (D1.frame _ _ _ s13 fun b _ o e => Heap.get?_push_of_some _ e) (D2.frame _ _ _ sn2 fun b _ o e => Heap.get?_push_of_some _ e) pr sz4 fun c o c1 c2 c3 e => Heap.get?_push_of_some _ (keep c o c1 c2 c3 e)
theorem held_end {Q : Option Value → Shared → Prop} (S : ZipSep2 z TI TO i1 i2 fp1 fp2) (D1 : Draws prog w A.in1 i1 fp1 n1 P1 St1) (D2 : Draws prog w A.in1 i2 fp2 n2 P2 St2)
    (hz : IsZipHeld s.heap z TI TO T f) (hT : s.heap.get? T = some oT) (hTI : IsTupOf2 s.heap TI (.ref i1) (.ref i2)) (st1 : St1 n1 s.heap)
    (hQ : ∀ h', (∀ c o, c ≠ z → c ≠ i1 → c ≠ i2 → s.heap.get? c = some o → h'.get? c = some o) → Q none { s with heap := h' }) :
    wpAny (model prog w) A (pyNext (.ref z)) Q E s := by
  have ty : s.TypeIs (.ref z) "zip" := ⟨_, hz, rfl⟩
  unfold pyNext
  refine wpAny_bind (wpAny_attempt (wpAny_callSpecial?_slot (name := Str.ofString "__next__") ty PySem.F.slot_zip_next (wpAny_call_entry PySem.F.slot_zip_next ty PySem.F.entry_zip_next ?_ (PySem.F.args_zip_next_1 _))))
  show wpAny _ A.in1 (field (.ref z) 2 >>= _) _ _ _
  refine wpAny_bind (wpAny_field hz rfl (x := .bool false) rfl ?_)
  show wpAny _ _ (field (.ref z) 3 >>= _) _ _ _
  refine wpAny_bind (wpAny_field hz rfl (x := .ref TI) rfl ?_)
  refine wpAny_bind (wpAny_seqItems hTI rfl ?_)
  show wpAny _ _ (Builtin.SmallTypes.ownedTupleIsFree (.ref z) >>= _) _ _ _
  refine wpAny_bind (wpAny_tupleHeld_zip hz hT fun g1 z1 b1 => ?_)
  simp only [Bool.false_eq_true, if_false]
  refine wpAny_bind ?_
  rw [← Array.forIn_toList]
  simp only [List.forIn_cons, List.forIn_nil]
  refine wpAny_bind (wpAny_bind (wpAny_holding ?_))
  show wpAny _ _ (Builtin.SmallTypes.nextOf (.ref i1) >>= _) _ _ _
  refine wpAny_bind (D1.done { s with heap := g1 } _ _ (D1.over st1 b1 S.zf1) fun g2 e b2 he => ?_)
  obtain ⟨o, ho, hc⟩ := he
  refine wpAny_bind (wpAny_isInstance (T := "StopIteration") (b := true) ⟨o, ho, hc⟩ isSubtype_stop ?_)
  exact wpAny_pure (hQ _ fun c o c1 c2 _ x => b2 _ _ c2 (b1.extBut _ _ c1 x))
end
section
variable {prog : Program} {w : World}
/-- zip of two tuples as the argument of dict -/
theorem pairs_zipT {z TI TO i1 i2 a b : Addr} (S : ZipSep2 z TI TO i1 i2 [i1, a] [i2, b]) {xs ys : Array Value} (e : xs.size = ys.size) :
    PairArg prog w "zip" z [z, TI, TO, i1, i2, a, b] [z, TO, i1, i2] xs.size (fun i k v => xs[i]? = some k ∧ ys[i]? = some v)
      (fun h => IsZip h z TI TO .none ∧ IsTupOf2 h TI (.ref i1) (.ref i2) ∧ (∃ u v, IsTupOf2 h TO u v) ∧ (h.IsTupleIter i1 a 0 ∧ h.IsTuple a xs) ∧ h.IsTupleIter i2 b 0 ∧ h.IsTuple b ys) where
  type := fun s ok => ⟨_, ok.1, rfl⟩
  notDict := by decide
  keep := fun h h' ok hk => by
    obtain ⟨hz, hTI, ⟨u, v, hTO⟩, ⟨h1, l1⟩, h2, l2⟩ := ok
    exact ⟨hk _ _ hz, hk _ _ hTI, ⟨u, v, hk _ _ hTO⟩, ⟨h1.at fun o e => hk _ o e, l1.at fun o e => hk _ o e⟩, h2.at fun o e => hk _ o e, l2.at fun o e => hk _ o e⟩
  there := fun h ok c hc => by
    obtain ⟨hz, hTI, ⟨u, v, hTO⟩, ⟨⟨o1, h1, _⟩, o3, l1, _⟩, ⟨o2, h2, _⟩, o4, l2, _⟩ := ok
    simp only [List.mem_cons, List.not_mem_nil, or_false] at hc
    rcases hc with rfl | rfl | rfl | rfl | rfl | rfl | rfl
    all_goals first | exact ⟨_, hz⟩ | exact ⟨_, hTI⟩ | exact ⟨_, hTO⟩ | exact ⟨_, h1⟩ | exact ⟨_, h2⟩ | exact ⟨_, l1⟩ | exact ⟨_, l2⟩
  sub := fun c hc => by simp at hc ⊢; rcases hc with rfl | rfl | rfl | rfl <;> simp
  noKeys := fun A s Q E hA ok h => getAttrOr_miss_zip ok.1 rfl rfl rfl zip_no_keys (by decide +kernel) hA h
  iter := fun A s d Q E hA ok hd hdf h => by
    obtain ⟨hz, hTI, ⟨u, v, hTO⟩, ⟨h1, l1⟩, h2, l2⟩ := ok
    simp only [List.mem_cons, List.not_mem_nil, or_false, not_or] at hdf
    obtain ⟨dz, dTI, dTO, di1, di2, dl1, dl2⟩ := hdf
    have na : a ≠ i1 := fun q => by
      obtain ⟨o, ho, c, _⟩ := h1
      obtain ⟨o', ho', c', _⟩ := l1
      rw [← q, ho'] at ho; cases ho
      rw [c'] at c; simp at c
    have nb : b ≠ i2 := fun q => by
      obtain ⟨o, ho, c, _⟩ := h2
      obtain ⟨o', ho', c', _⟩ := l2
      rw [← q, ho'] at ho; cases ho
      rw [c'] at c; simp at c
    have D1 := Draws.tuple (prog := prog) (w := w) (A := A.in1) hA i1 a na xs
    have D2 := Draws.tuple (prog := prog) (w := w) (A := A.in1) hA i2 b nb ys
    refine wpAny_pyIter_zip hz (h z [z, TO, i1, i2] (fun i h => IsTupOf2 h TI (.ref i1) (.ref i2) ∧ (h.IsTupleIter i1 a i ∧ h.IsTuple a xs) ∧ (h.IsTupleIter i2 b i ∧ h.IsTuple b ys) ∧
      ((IsZip h z TI TO .none ∧ ∃ u v, IsTupOf2 h TO u v) ∨ ∃ T f oT, IsZipHeld h z TI TO T f ∧ h.get? T = some oT ∧ T ≠ z ∧ T ≠ i1 ∧ T ≠ i2 ∧ T ≠ d)) s.heap s.toks ?_
      ⟨hTI, ⟨h1, l1⟩, ⟨h2, l2⟩, .inl ⟨hz, u, v, hTO⟩⟩ (fun _ _ e => e) fun c hc => .inl hc)
    exact {
      off := fun hm => by
        simp only [List.mem_cons, List.not_mem_nil, or_false] at hm
        rcases hm with q | q | q | q
        · exact dz q
        · exact dTO q
        · exact di1 q
        · exact di2 q
      frame := fun i g1 g2 st hk => by
        obtain ⟨t0, ⟨t1, t2⟩, ⟨t3, t4⟩, t5⟩ := st
        refine ⟨hk _ _ (Ne.symm dTI) t0, ⟨t1.at fun o q => hk _ o (Ne.symm di1) q, t2.at fun o q => hk _ o (Ne.symm dl1) q⟩, ⟨t3.at fun o q => hk _ o (Ne.symm di2) q, t4.at fun o q => hk _ o (Ne.symm dl2) q⟩, ?_⟩
        rcases t5 with ⟨q1, u, v, q2⟩ | ⟨T, f, oT, q1, q2, r1, r2, r3, r4⟩
        · exact .inl ⟨hk _ _ (Ne.symm dz) q1, u, v, hk _ _ (Ne.symm dTO) q2⟩
        · exact .inr ⟨T, f, oT, hk _ _ (Ne.symm dz) q1, hk _ _ r4 q2, r1, r2, r3, r4⟩
      item := fun i g Q1 E1 hi st hds hQ => by
        obtain ⟨t0, t1, t3, t5⟩ := st
        have lt : ∀ {c o}, g.heap.get? c = some o → g.heap.objs.size ≠ c := fun q => Nat.ne_of_gt (Heap.lt_size q)
        have n1 : g.heap.objs.size ≠ i1 := let ⟨_, q, _⟩ := t1.1; lt q
        have n2 : g.heap.objs.size ≠ i2 := let ⟨_, q, _⟩ := t3.1; lt q
        rcases t5 with ⟨q1, u, v, q2⟩ | ⟨T, f, oT, q1, q2, r1, r2, r3, r4⟩
        · refine wpAny_pyNext_zipD2_item S D1 D2 q1 t0 q2 t1 t3 hi (by omega) fun x1 x2 h' tk y1 y2 b1 b2 c1 c2 b5 b6 hk => ?_
          exact hQ g.heap.objs.size _ _ h' tk ⟨y1, y2⟩ (.inl ⟨_, b5, rfl, _, rfl⟩) ⟨hk _ _ S.TIz S.TITO S.TIi1 S.TIi2 t0, c1, c2, .inr ⟨g.heap.objs.size, false, _, b1, b5, lt q1, n1, n2, Nat.ne_of_gt hds⟩⟩
            fun c o hc q => hk c o (fun x => hc (by simp [x])) (fun x => hc (by simp [x])) (fun x => hc (by simp [x])) (fun x => hc (by simp [x])) q
        · refine held_item S D1 D2 q1 q2 t0 t1 t3 hi (by omega) fun x1 x2 h' tk y1 y2 b1 c1 c2 b5 b6 hk => ?_
          exact hQ g.heap.objs.size _ _ h' tk ⟨y1, y2⟩ (.inl ⟨_, b5, rfl, _, rfl⟩) ⟨hk _ _ S.TIz S.TIi1 S.TIi2 t0, c1, c2, .inr ⟨T, true, oT, b1, hk _ _ r1 r2 r3 q2, r1, r2, r3, r4⟩⟩
            fun c o hc q => hk c o (fun x => hc (by simp [x])) (fun x => hc (by simp [x])) (fun x => hc (by simp [x])) q
      done := fun g Q1 E1 st hQ => by
        obtain ⟨t0, t1, t3, t5⟩ := st
        rcases t5 with ⟨q1, u, v, q2⟩ | ⟨T, f, oT, q1, q2, r1, r2, r3, r4⟩
        · exact wpAny_pyNext_zipD2_end S D1 D2 q1 t0 q2 t1 t3 (Nat.le_refl _) (by omega) (.inl rfl) fun h' tk hk => hQ h' tk fun c o hc q => hk c o (fun x => hc (by simp [x])) (fun x => hc (by simp [x])) (fun x => hc (by simp [x])) (fun x => hc (by simp [x])) q
        · exact held_end S D1 D2 q1 q2 t0 t1 fun h' hk => hQ h' g.toks fun c o hc q => hk c o (fun x => hc (by simp [x])) (fun x => hc (by simp [x])) (fun x => hc (by simp [x])) q }
end
/-! ### dict(zip(x, y)) -/
def tDictZip (K : PySem.W.Frag) (ta : TA) : TE := fun σ H Q => ta σ H fun vs H1 => ∃ (a b : Addr) (kvs : List (Key × V)), vs = [.ref a, .ref b] ∧ SqT K H1 a (kvs.map fun p => kV p.1) ∧ SqT K H1 b (kvs.map fun p => p.2) ∧ ∀ p, H1 p = none → Q (.ref p) (upd H1 p (.dK (mergeK [] kvs)))
theorem kv_zip : ∀ (kvs : List (Key × V)) {us : List Value}, Vals (kvs.map fun p => p.2) us → KV kvs ((kvs.map (·.1)).zip us)
  | [], _, _ => .nil
  | q :: kvs, us, r => by
    rw [List.map_cons] at r
    cases r with
    | cons h t => exact .cons ⟨rfl, h⟩ (kv_zip kvs t)
section
variable {X : Cx} {e1 e2 : Expr} {ta : TA} {p p2 pos pos2 : Pos}
theorem pe_dictZip (K : PySem.W.Frag) (hc : X.calm = true) (hg1 : Gl X "dict") (hm1 : X.mg "dict" = none) (hg2 : Gl X "zip") (hm2 : X.mg "zip" = none) (ha : PA X [e1, e2] ta) (eK : X.K = K := by rfl)
    (hs : starEach [.Call (.Name "zip" p2) [e1, e2] [] pos2] X.env = (false, eval (.Call (.Name "zip" p2) [e1, e2] [] pos2) X.env) :: starEach [] X.env := by rfl)
    (hs2 : starEach [e1, e2] X.env = (false, eval e1 X.env) :: starEach [e2] X.env := by rfl) (hpl : (backTo pos2 (starEach [e2] X.env)).any (·.1) = false := by rfl) :
    PE X (.Call (.Name "dict" p) [.Call (.Name "zip" p2) [e1, e2] [] pos2] [] pos) (tDictZip K ta) := by
  subst eK
  refine ⟨fun pins s σ H Q I h => ?_⟩
  refine wpAny_Call_Name_kw (ld_blt I hg1 hm1 (show bootBuiltins "dict" = some (.type "dict") by decide +kernel) ?_)
  refine PyProof.Rows.callWith_type1 ?_ hs rfl
  rw [hs]
  show wpAny _ _ (spliced ((false, eval (.Call (.Name "zip" p2) [e1, e2] [] pos2) X.env) :: backTo pos (starEach [] X.env))) _ _ s
  refine Calls.spliced_cons ?_
  refine Call_ (ld_blt I hg2 hm2 PyProof.Rows.boot_zip (PyProof.Rows.callWith_type1 (thn (ha.run pos2 pins s σ H _ I h) ?_) hs2 hpl))
  rintro us s1 ⟨vs, H1, I1, r1, a, b, kvs, rfl, qx, qy, q⟩
  cases r1 with | cons r rr => cases rr with | cons r' rr =>
  cases rr
  cases r
  cases r'
  obtain ⟨its, rv, t1, z1⟩ := I1.tuple qx
  obtain ⟨its2, rv2, t2, z2⟩ := I1.tuple qy
  obtain ⟨o1, ho1, _⟩ := id t1
  obtain ⟨o2, ho2, _⟩ := id t2
  have la : a < s1.heap.objs.size := Heap.lt_size ho1
  have lb : b < s1.heap.objs.size := Heap.lt_size ho2
  have S := zip_sep2 (N := s1.heap.objs.size) (fp1 := [a]) (fp2 := [b]) (fun c hc => by simp at hc; rw [hc]; exact la) (fun c hc => by simp at hc; rw [hc]; exact lb)
  have l1 := rv.length
  have l2 := rv2.length
  rw [List.length_map] at l1 l2 z1
  refine zip_begins2 (begins_tuple a its.toArray) (begins_tuple b its2.toArray) t1 t2 fun h' hz hT hO g1 g2 hsz hk => ?_
  refine Calls.spliced_nil ?_
  have kv1 : ∀ (j : Nat) (q : Key × V), kvs[j]? = some q → ∃ u r, its[j]? = some u ∧ its2[j]? = some r ∧ keyIs q.1 u = true ∧ RelV q.2 r := fun j q hq => by
    obtain ⟨u, hu, ru⟩ := rv.get (show (kvs.map fun p => kV p.1)[j]? = some (kV q.1) by rw [List.getElem?_map, hq]; rfl)
    obtain ⟨r, hr, rr⟩ := rv2.get (show (kvs.map fun p => p.2)[j]? = some q.2 by rw [List.getElem?_map, hq]; rfl)
    exact ⟨u, r, hu, hr, kV_is (P := X.prog) (w := X.w) ru, rr⟩
  refine PySem.call_dict_pairs (knd := mixKind X.prog X.w) (kvs := (kvs.map (·.1)).zip its2) (n := its.toArray.size) (pairs_zipT (xs := its.toArray) (ys := its2.toArray) S (by simp; omega)) (I1.ok.hd hc) ⟨hz, hT, ⟨_, _, hO⟩, ⟨⟨_, g1, rfl, rfl⟩, (show s1.heap.IsTuple a its.toArray from t1).at fun o e => hk _ o e⟩, ⟨_, g2, rfl, rfl⟩, (show s1.heap.IsTuple b its2.toArray from t2).at fun o e => hk _ o e⟩ ⟨by simp; omega, fun i key v ⟨x1, x2⟩ => ?_⟩ (by simp; omega) fun h2 tk hd' kp => ?_
  · have x1' : its[i]? = some key := by simpa using x1
    have x2' : its2[i]? = some v := by simpa using x2
    have li : i < kvs.length := by have := (List.getElem?_eq_some_iff.mp x1').1; omega
    obtain ⟨u, r, hu, hr, e1, e2⟩ := kv1 i kvs[i] (List.getElem?_eq_getElem li)
    rw [x1'] at hu
    cases hu
    rw [x2'] at hr
    cases hr
    exact ⟨kvs[i].1, by rw [List.getElem?_zip_eq_some]; exact ⟨by simp [List.getElem?_eq_getElem li], x2'⟩, e1⟩
  · have hm : (h'.objs.size == sysModules) = false := beq_eq_false_iff_ne.mpr (Nat.ne_of_gt (Nat.lt_of_lt_of_le I1.big (hsz ▸ Nat.le_add_right _ 5)))
    have hlen : (mergeK [] kvs).length ≤ sizeLine := by
      have := length_mergeK kvs []
      rw [List.length_nil] at this
      omega
    have kp2 : ∀ c o, s1.heap.get? c = some o → h2.get? c = some o := fun c o e => kp c o (by
      have l := Heap.lt_size e
      simp only [List.mem_cons, List.not_mem_nil, or_false]
      rintro (q | q | q | q)
      · exact Nat.not_lt.mpr (Nat.le_add_right _ 4) (q ▸ l)
      · exact Nat.not_lt.mpr (Nat.le_add_right _ 3) (q ▸ l)
      · exact Nat.lt_irrefl _ (q ▸ l)
      · exact Nat.not_lt.mpr (Nat.le_add_right _ 1) (q ▸ l)) (hk _ _ e)
    have hge : s1.heap.objs.size ≤ h'.objs.size := by omega
    exact ⟨.ref h'.objs.size, upd H1 h'.objs.size (.dK (mergeK [] kvs)), I1.laid (t' := tk) kp2 hge (show ObjOk X.prog X.w _ _ _ (.dK (mergeK [] kvs)) from ⟨hlen, hm, merged [] ((kvs.map (·.1)).zip its2), KV.merge (kv_zip kvs rv2) .nil, hd'⟩), rfl, q _ (I1.hok.fresh hge)⟩
end
end Ly

set_option Elab.async false
set_option linter.all false
set_option maxRecDepth 100000
set_option maxHeartbeats 2000000
/-! list(d.items()) of a dict whose keys are tuples; {k: v} with such a key; max of a tuple of ints -/
namespace Ly
open PySem PySem.Spec PyProof.Rows L2
/-- tuples laid at addresses -/
def putP : Hp → List Addr → List (List V) → Hp
  | H, a :: as, p :: ps => putP (upd H a (.tup p)) as ps
  | H, _, _ => H
theorem putP_off {b : Addr} : ∀ (as : List Addr) (ps : List (List V)) (H : Hp), b ∉ as → putP H as ps b = H b
  | [], _, _, _ => rfl
  | _ :: _, [], _, _ => rfl
  | a :: as, p :: ps, H, h => by
    show putP (upd H a (.tup p)) as ps b = H b
    rw [putP_off as ps _ (fun z => h (List.mem_cons_of_mem _ z)), upd_ne (fun z => h (by rw [z]; exact List.mem_cons_self))]
theorem putP_at : ∀ (as : List Addr) (ps : List (List V)) (H : Hp), as.length = ps.length → as.Nodup → ∀ (i : Nat) (t : Addr), as[i]? = some t → ∃ p, ps[i]? = some p ∧ putP H as ps t = some (.tup p)
  | [], _, _, _, _, i, t, e => by simp at e
  | _ :: _, [], _, h, _, _, _, _ => by cases h
  | a :: as, p :: ps, H, h, hn, i, t, e => by
    have hn' := List.nodup_cons.mp hn
    cases i with
    | zero =>
      have e' : a = t := by simpa using e
      subst e'
      refine ⟨p, rfl, ?_⟩
      show putP (upd H a (.tup p)) as ps a = _
      rw [putP_off as ps _ hn'.1, upd_same]
    | succ i => exact putP_at as ps (upd H a (.tup p)) (Nat.succ.inj h) hn'.2 i t (by simpa using e)
section
variable {X : Cx} {pins : List (Addr × Obj)} {σ : L2.St} {H : Hp} {s : Shared} {d : Addr} {o : Obj}
theorem Inv.dnRaw {xs : List NK} (I : Inv X pins σ H s) (h : H d = some (dN X.prog X.w d xs)) :
    xs.length ≤ sizeLine ∧ (d == sysModules) = false ∧ ∃ (o : Obj) (es : Array DictEntry) (ep : Nat), s.heap.get? d = some o ∧ o.ExactDict ∧ o.data = .dict es ep ∧ es.size = xs.length ∧
      ∀ (i : Nat) (x : NK), xs[i]? = some x → ∃ en : DictEntry, es[i]? = some en ∧ en.key = .ref x.2.1 ∧ en.val = .ref x.2.2 := by
  obtain ⟨⟨z, hs, o, es, ep, ho, hx, hdt, he, _⟩, _, _⟩ := I.hok d _ h
  refine ⟨z, hs, o, es, ep, ho, hx, hdt, ?_, fun i x e => ?_⟩
  · have l1 : es.size = (xs.map rawN).length := size_of_entries he
    rw [l1, List.length_map]
  · have q := entry_at he i
    rw [List.getElem?_map, e] at q
    exact ⟨_, q, rfl, rfl⟩
theorem itemsN_laid {h' : Heap} {tk : Nat} {xs : List NK} {es : Array DictEntry} {acc : Array Value} {c : Nat} {as : List Addr} (I : Inv X pins σ H s) (hz : xs.length ≤ sizeLine) (hsz : es.size = xs.length)
    (ent : ∀ (i : Nat) (x : NK), xs[i]? = some x → ∃ en : DictEntry, es[i]? = some en ∧ en.key = .ref x.2.1 ∧ en.val = .ref x.2.2)
    (hk : ∀ b o, s.heap.get? b = some o → h'.get? b = some o) (hS : h'.get? s.heap.objs.size = some { cls := .type "list", dict := none, data := .seq acc c, slots := #[] }) (hl : as.length = es.size) (hG : PySem.W.DilG es s.heap.objs.size h' as) (hacc : acc.toList = as.map Value.ref) :
    ∃ H' : Hp, (∀ b o, H b = some o → H' b = some o) ∧ H s.heap.objs.size = none ∧ (∀ t ∈ as, H t = none) ∧ s.heap.objs.size ∉ as ∧ as.Nodup ∧ H' s.heap.objs.size = some (.lst (as.map V.ref)) ∧ (∀ b, b ∉ as → b ≠ s.heap.objs.size → H' b = H b) ∧
      (∀ (i : Nat) (x : NK), xs[i]? = some x → ∃ t, as[i]? = some t ∧ H' t = some (.tup [.ref x.2.1, .ref x.2.2])) ∧ Inv X pins σ H' { s with heap := h', toks := tk } := by
  have hSn : s.heap.objs.size ∉ as := fun z => Nat.lt_irrefl _ (hG.above _ z)
  have nd : as.Nodup := List.Pairwise.imp (fun {a b} (h : a < b) => Nat.ne_of_lt h) hG.rise
  have new : ∀ t ∈ as, H t = none := fun t ht => I.hok.fresh (Nat.le_of_lt (hG.above t ht))
  have newS : H s.heap.objs.size = none := I.hok.fresh (Nat.le_refl _)
  generalize hps : xs.map (fun x : NK => [V.ref x.2.1, V.ref x.2.2]) = ps
  have lp : as.length = ps.length := by rw [← hps, List.length_map]; omega
  have atP := putP_at as ps (upd H s.heap.objs.size (.lst (as.map V.ref))) lp nd
  have off : ∀ b, b ∉ as → b ≠ s.heap.objs.size → putP (upd H s.heap.objs.size (.lst (as.map V.ref))) as ps b = H b := fun b h1 h2 => by rw [putP_off as ps _ h1, upd_ne h2]
  have low : ∀ b o, s.heap.get? b = some o → b ∉ as ∧ b ≠ s.heap.objs.size := fun b o e => ⟨fun z => absurd (Heap.lt_size e) (Nat.not_lt.mpr (Nat.le_of_lt (hG.above b z))), Nat.ne_of_lt (Heap.lt_size e)⟩
  have kp : ∀ b u, H b = some u → (putP (upd H s.heap.objs.size (.lst (as.map V.ref))) as ps) b = some u := fun b u e => by
    rw [off b (fun z => by rw [new b z] at e; cases e) (fun z => by rw [z, newS] at e; cases e)]
    exact e
  have eS : putP (upd H s.heap.objs.size (.lst (as.map V.ref))) as ps s.heap.objs.size = some (.lst (as.map V.ref)) := by rw [putP_off as ps _ hSn, upd_same]
  refine ⟨putP (upd H s.heap.objs.size (.lst (as.map V.ref))) as ps, kp, newS, new, hSn, nd, eS, off, fun i x e => ?_, ?_⟩
  · have li : i < as.length := by rw [hl, hsz]; exact (List.getElem?_eq_some_iff.mp e).1
    obtain ⟨p, e1, e2⟩ := atP i _ (List.getElem?_eq_getElem li)
    refine ⟨as[i], List.getElem?_eq_getElem li, ?_⟩
    rw [← hps, List.getElem?_map, e] at e1
    cases e1
    exact e2
  refine I.call' (ch := []) rfl ⟨fun b o q _ _ _ => hk b o q, fun b o q _ _ _ => ⟨o.slots, hk b o q⟩, fun b o q n _ => ?_, fun b o q _ => ⟨o, hk b o q⟩, fun b xs q => kp b _ q, fun b o u q => kp b _ q, fun b ps q => ⟨#[], by rw [kp b _ q]; simp⟩⟩ (fun b u q => ?_) I.bare fun b z => by simp at z
  · obtain ⟨z1, z2⟩ := low b o q
    rw [off b z1 z2]
    exact n
  · by_cases hb : b ∈ as
    · obtain ⟨j, lj, ej⟩ := List.mem_iff_getElem.mp hb
      have e1 : as[j]? = some b := by rw [← ej]; exact List.getElem?_eq_getElem lj
      obtain ⟨p, e2, e3⟩ := atP j b e1
      rw [e3] at q
      cases q
      obtain ⟨hj, f3⟩ := hG.pairs j b e1
      obtain ⟨x, ex⟩ : ∃ x, xs[j]? = some x := ⟨xs[j]'(by omega), List.getElem?_eq_getElem _⟩
      obtain ⟨en, g1, g2, g3⟩ := ent j x ex
      rw [← hps, List.getElem?_map, ex] at e2
      cases e2
      have ge : es[j] = en := by
        rw [Array.getElem?_eq_getElem hj] at g1
        exact Option.some.inj g1
      rw [ge, g2, g3] at f3
      exact ⟨by show 2 ≤ sizeLine; decide, [.ref x.2.1, .ref x.2.2], .cons rfl (.cons rfl .nil), ⟨_, f3, rfl, _, rfl⟩⟩
    · by_cases hb2 : b = s.heap.objs.size
      · rw [hb2] at q ⊢
        rw [eS] at q
        cases q
        refine ⟨by rw [List.length_map]; omega, acc.toList, c, by rw [hacc]; exact LiI.vals_refs as, ?_⟩
        rw [Array.toArray_toList]
        exact hS
      · rw [off b hb hb2] at q
        exact (I.hok b u q).stay (fun d v _ y => hk d v y) (fun d y => kp d _ y) fun d xs y => kp d _ y
end
/-- list(d.items()), d's keys tuples -/
def tItemsLN (P : Program) (w : World) (te : TE) : TE := fun σ H Q => te σ H fun x H1 => ∃ (d : Addr) (xs : List NK), x = .ref d ∧ H1 d = some (dN P w d xs) ∧
  ∀ (H' : Hp) (p : Addr) (ts : List Addr), (∀ b o, H1 b = some o → H' b = some o) → H1 p = none → (∀ t ∈ ts, H1 t = none) → ts.length = xs.length → H' p = some (.lst (ts.map V.ref)) → (∀ b, b ∉ ts → b ≠ p → H' b = H1 b) →
    (∀ (i : Nat) (x : NK), xs[i]? = some x → ∃ t, ts[i]? = some t ∧ H' t = some (.tup [.ref x.2.1, .ref x.2.2])) → Q (.ref p) H'
section
variable {X : Cx} {e : Expr} {te : TE} {p apos cpos pos : Pos}
theorem pe_itemsLN (hc : X.calm = true) (he : PE X e te) (hg : Gl X "list") (hm : X.mg "list" = none) (hbase : attributeBase e "items" X.env (eval e X.env) = eval e X.env := by rfl) (hline : (apos.endLine == cpos.line) = true := by rfl)
    (hs : starEach [.Call (.Attribute e "items" apos) [] [] cpos] X.env = (false, eval (.Call (.Attribute e "items" apos) [] [] cpos) X.env) :: starEach [] X.env := by rfl) :
    PE X (.Call (.Name "list" p) [.Call (.Attribute e "items" apos) [] [] cpos] [] pos) (tItemsLN X.prog X.w te) := by
  refine ⟨fun pins s σ H Q I hq => ?_⟩
  refine wpAny_Call_Name_kw (ld_blt I hg hm (show bootBuiltins "list" = some (.type "list") by decide +kernel) ?_)
  refine PyProof.Rows.callWith_type1 ?_ hs rfl
  rw [hs]
  show wpAny _ _ (spliced ((false, eval (.Call (.Attribute e "items" apos) [] [] cpos) X.env) :: backTo pos (starEach [] X.env))) _ _ s
  refine Calls.spliced_cons ?_
  refine wpAny_Call_method (T := "dict") (id := "dict.items") hbase rfl hline PySem.F.plainAttrs_dict PySem.F.slot_dict_items PySem.F.type_dict_items (thn (he.run pins s σ H _ I hq) fun u s1 ⟨x, H1, I1, rx, d, xs, ex, hd, q⟩ => ?_)
  subst ex
  obtain rfl : u = Value.ref d := rx
  obtain ⟨hz, hs0, o, es, ep, ho, hx, hdt, hsz, ent⟩ := Inv.dnRaw I1 hd
  have hT : s1.TypeIs (.ref d) "dict" := ⟨_, ho, hx.1⟩
  refine ⟨hT, fun b q => ?_, ?_⟩
  · cases q
    exact ⟨o, ho, hx.2.1⟩
  have I2 : Inv X pins σ H1 { s1 with heap := s1.heap.push (DSub.viewOb "dict_items" d) } := I1.kept (t' := s1.toks) fun b ob q => Heap.get?_push_of_some _ q
  refine callWith_method0 (first := [.ref d]) (call_itemsP hT hs0 ?_)
  refine Calls.spliced_nil ?_
  refine PySem.W.dil_call (es := es) (ep := ep) (I1.ok.hd hc) ⟨_, Heap.get?_push_size _ rfl, rfl, rfl⟩ ⟨o, Heap.get?_push_of_some _ ho, hx, hdt⟩ (by omega) fun h' tk acc c as hk hS hl hG hacc => ?_
  obtain ⟨H', k1, k2, k3, k4, k5, k6, k7, k8, J⟩ := itemsN_laid (tk := tk) I2 hz hsz ent hk hS hl hG hacc
  exact ⟨.ref _, H', J, rfl, q H' _ as k1 k2 k3 (by omega) k6 k7 k8⟩
end
/-- {k: v}, k a tuple -/
def tDisp1N (P : Program) (w : World) (K : PySem.W.Frag) (tk tv : TE) : TE := fun σ H Q => ∀ p, H p = none → tk σ (upd H p (dN P w p [])) fun y H1 => tv σ H1 fun z H2 => ∃ k kb c, z = .ref c ∧ rGetN P w K H2 p y [] k kb ∧ Q (.ref p) (upd H2 p (dN P w p [(k, kb, c)]))
theorem pe_disp1N {X : Cx} (P : Program) (w : World) (K : PySem.W.Frag) {k v : Expr} {tk tv : TE} {pos : Pos} (hu : X.A.units + 10 < cLine) (hk : PE X k tk) (hv : PE X v tv) (eP : X.prog = P := by rfl) (eW : X.w = w := by rfl) (eK : X.K = K := by rfl) : PE X (.Dict [some k] [v] pos) (tDisp1N P w K tk tv) := by
  subst eP eW eK
  refine ⟨fun pins s σ H Q I q => ?_⟩
  have hn := I.hok.fresh (Nat.le_refl s.heap.objs.size)
  have I1 := I.laid (a := s.heap.objs.size) (o := dN X.prog X.w s.heap.objs.size []) (h' := s.heap.push { cls := .type "dict", data := .dict #[] }) (t' := s.toks) (fun _ _ q => Heap.get?_push_of_some _ q) (Nat.le_refl _)
    (dN_ok (Nat.zero_le _) (beq_eq_false_iff_ne.mpr (Ne.symm (Nat.ne_of_lt I.big))) (Heap.DictOfH.new s.heap))
  rw [arm_eval_Dict, zip_pairTrees [some k] [v] X.env pos rfl rfl, dictDisplay_pairs _ (by simp [pairTrees]) (by simp [pairTrees])]
  refine wpAny_bind (wpAny_standAt (wpAny_bind (wpAny_subDictH (knd := nestedKind X.prog X.w) (Q := fun d s' => wpAny (model X.prog X.w) X.A (pure (Value.ref d)) (fun u s' => ∃ x H', Inv X pins σ H' s' ∧ RelV x u ∧ Q x H') X.xe s') (by show X.A.units + 8 < cLine; omega) (by simp [pairTrees]) ?_)))
  refine pairTrees_cons_walk (thn (hk.run pins _ σ _ _ I1 (q _ hn)) fun u s1 ⟨y, H1, I2, ry, q1⟩ => thn (hv.run pins s1 σ H1 _ I2 q1) fun r s2 ⟨z, H2, I3, rz, kk, kb, c, ez, g, q2⟩ => pairTrees_nil_walk ?_)
  subst ez
  obtain ⟨e, ks, ey, ib, dk⟩ := g
  subst ey
  obtain ⟨_, hd, dd⟩ := dN_of I3 e ks
  refine ⟨[(kk, kb, .ref c)], ⟨ry, rz, ⟨nest_is I3 kk ib rfl, dk⟩, trivial⟩, dd, fun h' tk dd' hs => wpAny_pure ⟨.ref s.heap.objs.size, _, ?_, rfl, q2⟩⟩
  have he : ∃ q, h'.get? s.heap.objs.size = some q := let ⟨q, _, _, hq, _⟩ := dd'; ⟨q, hq⟩
  exact d_write I3 (by rw [e]; exact True.intro) hs he (dN_ok (by show 1 ≤ sizeLine; decide) hd dd')
/-- max(t) of a tuple of ints: one of them -/
def rMaxT (K : PySem.W.Frag) : List V → Hp → VK → Prop := fun vs H Q => ∃ (a : Addr) (ns : List Int), vs = [V.ref a] ∧ SqT K H a (ns.map V.int) ∧ 0 < ns.length ∧ ∀ m, m ∈ ns → Q (.int m) H
theorem reads_ints {h : Heap} : ∀ (ns : List Int) {us : List Value}, Vals (ns.map V.int) us → ReadsAll h us (ns.map PyData.int) []
  | [], _, .nil => .nil
  | n :: ns, _, .cons r t => by
    obtain ⟨tk, rfl⟩ := r
    exact .cons (as := []) (bs := []) (.int _ _) (reads_ints ns t)
theorem depth_ints : ∀ ns : List Int, PyData.depthAll (ns.map PyData.int) ≤ 1
  | [] => by decide
  | n :: ns => by
    have := depth_ints ns
    show max (PyData.depth (.int n)) (PyData.depthAll (ns.map PyData.int)) ≤ 1
    exact Nat.max_le.mpr ⟨by show PyData.depth (.int n) ≤ 1; simp [PyData.depth], this⟩
theorem cr_maxT {X : Cx} (K : PySem.W.Frag) (hu : X.A.units + 10 < cLine) (hc : X.calm = true := by rfl) (eK : X.K = K := by rfl) : CallR X (.builtin "max") (rMaxT K) := by
  subst eK
  intro pins s σ H vs us Q I r h
  obtain ⟨a, ns, rfl, hs, hne, q⟩ := h
  obtain ⟨its, rv, ht, _⟩ := I.tuple hs
  rw [Vals.ref1 r]
  cases ns with
  | nil => cases hne
  | cons n ns =>
    have d1 := depth_ints (n :: ns)
    refine PySem.W.max_tuple_data (x := .int n) (xs := ns.map PyData.int) (as := []) (vs := its.toArray) (I.ok.hd hc) ht (reads_ints (n :: ns) rv) ⟨fun x hx y hy => ?_, fun x hx => ?_⟩ (by
      show X.A.units + 1 + PyData.depthAll ((n :: ns).map PyData.int) < cLine
      omega) fun i v h' tk bs hi hr hk => ?_
    · obtain ⟨a, _, rfl⟩ := List.mem_map.mp (show x ∈ (n :: ns).map PyData.int from hx)
      obtain ⟨b, _, rfl⟩ := List.mem_map.mp (show y ∈ (n :: ns).map PyData.int from hy)
      rfl
    · obtain ⟨a, _, rfl⟩ := List.mem_map.mp (show x ∈ (n :: ns).map PyData.int from hx)
      exact fun z => nomatch z
    · have hi' : its[i]? = some v := by simpa using hi
      have li : i < (n :: ns).length := by
        have l1 := rv.length
        rw [List.length_map] at l1
        have := (List.getElem?_eq_some_iff.mp hi').1
        omega
      obtain ⟨u, hu', ru⟩ := rv.get (show ((n :: ns).map V.int)[i]? = some (V.int (n :: ns)[i]) by rw [List.getElem?_map, List.getElem?_eq_getElem li]; rfl)
      rw [hi'] at hu'
      cases hu'
      exact ⟨.int _, H, I.kept hk, ru, q _ (List.getElem_mem li)⟩
end Ly

set_option Elab.async false
set_option linter.all false
set_option maxRecDepth 100000
set_option maxHeartbeats 2000000
/-! list(zip(x, y)) of two tuples -/
namespace Ly
open PySem PySem.Spec PyProof.Rows L2
/-- new pairs, in order -/
structure LzG (xs ys : Array Value) (lo : Addr) (h : Heap) (as : List Addr) : Prop where
  rise : as.Pairwise (· < ·)
  above : ∀ a ∈ as, lo < a
  pairs : ∀ (j : Nat) (a : Addr), as[j]? = some a → ∃ u v, xs[j]? = some u ∧ ys[j]? = some v ∧ h.get? a = some { cls := .type "tuple", data := .seq #[u, v] }
structure ZSt (z TI TO i1 i2 a b S : Addr) (xs ys : Array Value) (i : Nat) (h : Heap) : Prop where
  tI : IsTupOf2 h TI (.ref i1) (.ref i2)
  st1 : h.IsTupleIter i1 a i ∧ h.IsTuple a xs
  st2 : h.IsTupleIter i2 b i ∧ h.IsTuple b ys
  zip : (IsZip h z TI TO .none ∧ ∃ u v, IsTupOf2 h TO u v) ∨ ∃ T f oT, IsZipHeld h z TI TO T f ∧ h.get? T = some oT ∧ T ≠ z ∧ T ≠ i1 ∧ T ≠ i2 ∧ T ≠ S
section
variable {prog : Program} {w : World} {A : Around} {E : Value → Shared → Prop} {s : Shared} {z TI TO i1 i2 a b S : Addr} {xs ys : Array Value}
theorem LzG.there {lo : Addr} {h : Heap} {as : List Addr} (g : LzG xs ys lo h as) {a : Addr} (ha : a ∈ as) : a < h.objs.size := by
  obtain ⟨j, hj⟩ := List.mem_iff_getElem?.mp ha
  obtain ⟨_, _, _, _, e⟩ := g.pairs j a hj
  exact Heap.lt_size e
/-- what the list is put to leaves the zip as it is -/
theorem ZSt.keep {i : Nat} {h h' : Heap} (st : ZSt z TI TO i1 i2 a b S xs ys i h) (n : S ∉ [z, TI, TO, i1, i2, a, b]) (hk : ∀ c o, c ≠ S → h.get? c = some o → h'.get? c = some o) : ZSt z TI TO i1 i2 a b S xs ys i h' := by
  simp only [List.mem_cons, List.not_mem_nil, or_false, not_or] at n
  obtain ⟨n1, n2, n3, n4, n5, n6, n7⟩ := n
  obtain ⟨t0, ⟨t1, t2⟩, ⟨t3, t4⟩, t5⟩ := st
  refine ⟨hk _ _ (Ne.symm n2) t0, ⟨t1.at fun o q => hk _ o (Ne.symm n4) q, t2.at fun o q => hk _ o (Ne.symm n6) q⟩, ⟨t3.at fun o q => hk _ o (Ne.symm n5) q, t4.at fun o q => hk _ o (Ne.symm n7) q⟩, ?_⟩
  rcases t5 with ⟨q1, u, v, q2⟩ | ⟨T, f, oT, q1, q2, r1, r2, r3, r4⟩
  · exact .inl ⟨hk _ _ (Ne.symm n1) q1, u, v, hk _ _ (Ne.symm n3) q2⟩
  · exact .inr ⟨T, f, oT, hk _ _ (Ne.symm n1) q1, hk _ _ r4 q2, r1, r2, r3, r4⟩
theorem z_item {Q : Option Value → Shared → Prop} {i : Nat} (hA : A.in1.handled = none) (Z : ZipSep2 z TI TO i1 i2 [i1, a] [i2, b]) (e : xs.size = ys.size) (hi : i < xs.size) (st : ZSt z TI TO i1 i2 a b S xs ys i s.heap) (hS : S < s.heap.objs.size)
    (hQ : ∀ h' tk u v, xs[i]? = some u → ys[i]? = some v → ZSt z TI TO i1 i2 a b S xs ys (i + 1) h' → h'.get? s.heap.objs.size = some { cls := .type "tuple", data := .seq #[u, v] } → h'.objs.size = s.heap.objs.size + 1 →
      (∀ c o, c ∉ [z, TO, i1, i2] → s.heap.get? c = some o → h'.get? c = some o) → Q (some (.ref s.heap.objs.size)) { s with heap := h', toks := tk }) :
    wpAny (model prog w) A (pyNext (.ref z)) Q E s := by
  obtain ⟨t0, t1, t3, t5⟩ := st
  have na : a ≠ i1 := fun q => by
    obtain ⟨⟨o, ho, c, _⟩, o', ho', c', _⟩ := t1
    rw [← q, ho'] at ho; cases ho
    rw [c'] at c; simp at c
  have nb : b ≠ i2 := fun q => by
    obtain ⟨⟨o, ho, c, _⟩, o', ho', c', _⟩ := t3
    rw [← q, ho'] at ho; cases ho
    rw [c'] at c; simp at c
  have D1 := Draws.tuple (prog := prog) (w := w) (A := A.in1) hA i1 a na xs
  have D2 := Draws.tuple (prog := prog) (w := w) (A := A.in1) hA i2 b nb ys
  have lt : ∀ {c o}, s.heap.get? c = some o → s.heap.objs.size ≠ c := fun q => Nat.ne_of_gt (Heap.lt_size q)
  have n1 : s.heap.objs.size ≠ i1 := let ⟨_, q, _⟩ := t1.1; lt q
  have n2 : s.heap.objs.size ≠ i2 := let ⟨_, q, _⟩ := t3.1; lt q
  rcases t5 with ⟨q1, u, v, q2⟩ | ⟨T, f, oT, q1, q2, r1, r2, r3, r4⟩
  · refine wpAny_pyNext_zipD2_item Z D1 D2 q1 t0 q2 t1 t3 hi (by omega) fun x1 x2 h' tk y1 y2 b1 b2 c1 c2 b5 b6 hk => ?_
    exact hQ h' tk x1 x2 y1 y2 ⟨hk _ _ Z.TIz Z.TITO Z.TIi1 Z.TIi2 t0, c1, c2, .inr ⟨s.heap.objs.size, false, _, b1, b5, lt q1, n1, n2, Nat.ne_of_gt hS⟩⟩ b5 b6
      fun c o hc q => hk c o (fun x => hc (by simp [x])) (fun x => hc (by simp [x])) (fun x => hc (by simp [x])) (fun x => hc (by simp [x])) q
  · refine held_item Z D1 D2 q1 q2 t0 t1 t3 hi (by omega) fun x1 x2 h' tk y1 y2 b1 c1 c2 b5 b6 hk => ?_
    exact hQ h' tk x1 x2 y1 y2 ⟨hk _ _ Z.TIz Z.TIi1 Z.TIi2 t0, c1, c2, .inr ⟨T, true, oT, b1, hk _ _ r1 r2 r3 q2, r1, r2, r3, r4⟩⟩ b5 b6
      fun c o hc q => hk c o (fun x => hc (by simp [x])) (fun x => hc (by simp [x])) (fun x => hc (by simp [x])) q
theorem z_done {Q : Option Value → Shared → Prop} (hA : A.in1.handled = none) (Z : ZipSep2 z TI TO i1 i2 [i1, a] [i2, b]) (e : xs.size = ys.size) (st : ZSt z TI TO i1 i2 a b S xs ys xs.size s.heap)
    (hQ : ∀ h' tk, (∀ c o, c ∉ [z, TO, i1, i2] → s.heap.get? c = some o → h'.get? c = some o) → Q none { s with heap := h', toks := tk }) : wpAny (model prog w) A (pyNext (.ref z)) Q E s := by
  obtain ⟨t0, t1, t3, t5⟩ := st
  have na : a ≠ i1 := fun q => by
    obtain ⟨⟨o, ho, c, _⟩, o', ho', c', _⟩ := t1
    rw [← q, ho'] at ho; cases ho
    rw [c'] at c; simp at c
  have nb : b ≠ i2 := fun q => by
    obtain ⟨⟨o, ho, c, _⟩, o', ho', c', _⟩ := t3
    rw [← q, ho'] at ho; cases ho
    rw [c'] at c; simp at c
  have D1 := Draws.tuple (prog := prog) (w := w) (A := A.in1) hA i1 a na xs
  have D2 := Draws.tuple (prog := prog) (w := w) (A := A.in1) hA i2 b nb ys
  rcases t5 with ⟨q1, u, v, q2⟩ | ⟨T, f, oT, q1, q2, r1, r2, r3, r4⟩
  · exact wpAny_pyNext_zipD2_end Z D1 D2 q1 t0 q2 t1 t3 (Nat.le_refl _) (by omega) (.inl rfl) fun h' tk hk => hQ h' tk fun c o hc q => hk c o (fun x => hc (by simp [x])) (fun x => hc (by simp [x])) (fun x => hc (by simp [x])) (fun x => hc (by simp [x])) q
  · exact held_end Z D1 D2 q1 q2 t0 t1 fun h' hk => hQ h' s.toks fun c o hc q => hk c o (fun x => hc (by simp [x])) (fun x => hc (by simp [x])) (fun x => hc (by simp [x])) q
end
section
variable {prog : Program} {w : World} {A : Around} {s : Shared} {R : Result → Shared → Prop} {z TI TO i1 i2 a b S : Addr} {xs ys : Array Value}
theorem z_loop (hh : A.in1.in1.handled = none) (Z : ZipSep2 z TI TO i1 i2 [i1, a] [i2, b]) (e : xs.size = ys.size) (nS : S ∉ [z, TI, TO, i1, i2, a, b]) (hn : xs.size ≤ sizeLine) (res : Value) {h₁ : Heap} (low : ∀ c ∈ [z, TI, TO, i1, i2, a, b], c < S)
    (hR : ∀ h' tk acc c as, (∀ d o, d ≠ S → d ∉ [z, TO, i1, i2] → h₁.get? d = some o → h'.get? d = some o) → h'.get? S = some { cls := .type "list", dict := none, data := .seq acc c, slots := #[] } → as.length = xs.size → LzG xs ys S h' as →
      acc.toList = as.map Value.ref → R (.ok (.ret res)) { s with heap := h', toks := tk }) :
    ∀ (k i : Nat) (h : Heap) (tk c : Nat) (acc : Array Value) (as : List Addr), xs.size - i = k → i ≤ xs.size → ZSt z TI TO i1 i2 a b S xs ys i h → (∀ d o, d ≠ S → d ∉ [z, TO, i1, i2] → h₁.get? d = some o → h.get? d = some o) →
      h.get? S = some { cls := .type "list", dict := none, data := .seq acc c, slots := #[] } → acc.toList = as.map Value.ref → as.length = i → LzG xs ys S h as →
      codeAny (model prog w) A (.builtin "list.extend.loop" ⟨[.ref S, .ref z, res], []⟩) R { s with heap := h, toks := tk } := by
  have nSw : S ∉ [z, TO, i1, i2] := fun hm => nS (by
    simp only [List.mem_cons, List.not_mem_nil, or_false] at hm ⊢
    rcases hm with rfl | rfl | rfl | rfl <;> simp)
  have above_w : ∀ {d : Addr}, S < d → d ∉ [z, TO, i1, i2] := fun {d} hd hm => by
    have : d ∈ [z, TI, TO, i1, i2, a, b] := by
      simp only [List.mem_cons, List.not_mem_nil, or_false] at hm ⊢
      rcases hm with rfl | rfl | rfl | rfl <;> simp
    exact Nat.lt_irrefl _ (Nat.lt_trans hd (low d this))
  intro k
  induction k with
  | zero =>
    intro i h tk c acc as hk hi hst hkeep hS hacc hal hG
    have hin : i = xs.size := by omega
    subst hin
    refine codeAny_builtin PySem.F.entry_extend_loop ?_
    rw [Around.under_plainId PySem.F.plain_extend_loop _]
    show wpAny _ A.in1 (pyNext (.ref z) >>= _) _ _ _
    refine wpAny_bind (z_done (s := { s with heap := h, toks := tk }) (A := A.in1) hh Z e hst fun h' tk' he => ?_)
    refine wpAny_pure (hR h' tk' acc c as (fun d o h1 h2 e => he d o h2 (hkeep d o h1 h2 e)) (he S _ nSw hS) hal ⟨hG.rise, hG.above, fun j a' hj => ?_⟩ hacc)
    obtain ⟨u, v, e1, e2, e3⟩ := hG.pairs j a' hj
    exact ⟨u, v, e1, e2, he a' _ (above_w (hG.above a' (List.mem_of_getElem? hj))) e3⟩
  | succ k ih =>
    intro i h tk c acc as hk hi hst hkeep hS hacc hal hG
    have hlt : i < xs.size := by omega
    have hsz : acc.size = i := by rw [← Array.length_toList, hacc, List.length_map, hal]
    have hSl : S < h.objs.size := Heap.lt_size hS
    refine codeAny_builtin PySem.F.entry_extend_loop ?_
    rw [Around.under_plainId PySem.F.plain_extend_loop _]
    show wpAny _ A.in1 (pyNext (.ref z) >>= _) _ _ _
    refine wpAny_bind (z_item (s := { s with heap := h, toks := tk }) (A := A.in1) hh Z e hlt hst hSl fun h' tk' u v eu ev hst' ht hz hkp => ?_)
    dsimp only at ht hz hkp ⊢
    have hS' := hkp S _ nSw hS
    have up : ∀ d o, d ≠ S → h'.get? d = some o → (h'.update S (Obj.mapSeq (·.push (Value.ref h.objs.size)))).get? d = some o := fun d o hb e => (Heap.get?_update_other _ _ (Ne.symm hb)).trans e
    show wpAny _ A.in1 (updateSeq S (·.push (Value.ref h.objs.size)) >>= _) _ _ _
    refine wpAny_bind ?_
    refine wpAny_updateSeq hS' rfl (wpAny_pure ⟨plainId_quiet PySem.F.plain_extend_loop _, ih (i + 1) _ tk' _ (acc.push (Value.ref h.objs.size)) (as ++ [h.objs.size]) (by omega) hlt (hst'.keep nS up)
      (fun d o h1 h2 e => up d o h1 (hkp d o h2 (hkeep d o h1 h2 e))) (Heap.get?_update_self _ hS' rfl) (by rw [Array.toList_push, hacc, List.map_append]; rfl) (by rw [List.length_append, hal]; rfl) ⟨?_, ?_, ?_⟩⟩) (by rw [hsz]; omega) (by show (acc.push (Value.ref h.objs.size)).size ≤ sizeLine + 1; rw [Array.size_push, hsz]; omega)
    · refine List.pairwise_append.mpr ⟨hG.rise, List.pairwise_singleton _ _, fun a ha b hb => ?_⟩
      rw [List.mem_singleton.mp hb]
      exact hG.there ha
    · intro a ha
      rcases List.mem_append.mp ha with ha | ha
      · exact hG.above a ha
      · rw [List.mem_singleton.mp ha]; exact hSl
    · intro j b' hj
      rcases Nat.lt_trichotomy j as.length with h1 | h1 | h1
      · rw [List.getElem?_append_left h1] at hj
        obtain ⟨u', v', e1, e2, e3⟩ := hG.pairs j b' hj
        have hb := hG.above b' (List.mem_of_getElem? hj)
        exact ⟨u', v', e1, e2, up b' _ (Nat.ne_of_gt hb) (hkp b' _ (above_w hb) e3)⟩
      · subst h1
        have hb : h.objs.size = b' := by simpa using hj
        subst hb
        exact ⟨u, v, by rw [hal]; exact eu, by rw [hal]; exact ev, up _ _ (Nat.ne_of_gt hSl) ht⟩
      · have hnone : (as ++ [h.objs.size])[j]? = none := List.getElem?_eq_none (by rw [List.length_append, List.length_singleton]; omega)
        rw [hnone] at hj; cases hj
end
theorem zip_no_len : typeLookup (.type "zip") "__len__" = pure none := am_miss_of_fast (by decide +kernel)
theorem zip_no_hint : typeLookup (.type "zip") "__length_hint__" = pure none := am_miss_of_fast (by decide +kernel)
section
variable {prog : Program} {w : World} {A : Around} {E : Value → Shared → Prop} {s : Shared} {z TI TO i1 i2 a b : Addr} {xs ys : Array Value}
theorem z_extend {R : Result → Shared → Prop} {S : Addr} (hh : A.in1.in1.handled = none) (Z : ZipSep2 z TI TO i1 i2 [i1, a] [i2, b]) (e : xs.size = ys.size) (nS : S ∉ [z, TI, TO, i1, i2, a, b]) (hn : xs.size ≤ sizeLine) (low : ∀ c ∈ [z, TI, TO, i1, i2, a, b], c < S)
    (hz : IsZip s.heap z TI TO .none) (st : ZSt z TI TO i1 i2 a b S xs ys 0 s.heap) (res : Value) (c₀ : Nat) (hS : s.heap.get? S = some { cls := .type "list", data := .seq #[] c₀ })
    (hR : ∀ h' tk acc c as, (∀ d o, d ≠ S → d ∉ [z, TO, i1, i2] → s.heap.get? d = some o → h'.get? d = some o) → h'.get? S = some { cls := .type "list", dict := none, data := .seq acc c, slots := #[] } → as.length = xs.size → LzG xs ys S h' as →
      acc.toList = as.map Value.ref → R (.ok (.ret res)) { s with heap := h', toks := tk }) :
    wpAny (model prog w) A.in1 (Builtin.List.listExtendWith (.ref S) (.ref z) res)
      (fun fin s' => match fin with | .done f => R (.ok f) s' | .again c' => c'.quiet = true ∧ codeAny (model prog w) A c' R s') (fun e s' => R (.error e) s') s := by
  have hSz : S ≠ z := fun q => nS (by rw [q]; exact List.mem_cons_self ..)
  have hT : s.TypeIs (.ref z) "zip" := ⟨_, hz, rfl⟩
  unfold Builtin.List.listExtendWith
  refine wpAny_bind (wpAny_typeOf hT ?_)
  have h1 : Builtin.List.listSameRef (.ref S) (.ref z) = false := by simp [Builtin.List.listSameRef, hSz]
  have h2 : (Value.type "zip" == Value.type "list") = false := by decide
  have h3 : (Value.type "zip" == Value.type "tuple") = false := by decide
  simp only [h1, h2, h3, Bool.or_false, Bool.false_eq_true, if_false]
  refine wpAny_bind (wpAny_pyIter_zip hz ?_)
  refine wpAny_bind (wpAny_holding ?_)
  unfold Builtin.List.listLengthHint
  refine wpAny_bind (wpAny_specialOf hT zip_no_len ?_)
  show wpAny _ A.in1 (specialOf (Value.ref z) (Str.ofString "__length_hint__") >>= _) _ _ _
  refine wpAny_bind (wpAny_specialOf hT zip_no_hint ?_)
  refine wpAny_pure ?_
  show wpAny _ A.in1 (rule "list.extend.makes-room" >>= fun _ => Builtin.List.listTouch (.ref S) >>= fun _ =>
    again (.builtin "list.extend.loop" ⟨[.ref S, .ref z, res], []⟩)) _ _ _
  refine wpAny_bind (wpAny_rule ?_)
  refine wpAny_bind ?_
  show wpAny _ A.in1 (updateSeq S (·.push .none) >>= fun _ => updateSeq S (·.pop)) _ _ _
  refine wpAny_bind (wpAny_updateSeq hS rfl ?_)
  have hS₂ := Heap.get?_update_self (Obj.mapSeq (·.push Value.none)) hS rfl
  refine wpAny_updateSeq (hz := by seq_fits) hS₂ rfl ?_
  have hS₃ := Heap.get?_update_self (Obj.mapSeq (·.pop)) hS₂ rfl
  have oth : ∀ d o, d ≠ S → s.heap.get? d = some o → ((s.heap.update S (Obj.mapSeq (·.push Value.none))).update S (Obj.mapSeq (·.pop))).get? d = some o :=
    fun d o hb e => (Heap.get?_update_other _ _ (Ne.symm hb)).trans ((Heap.get?_update_other _ _ (Ne.symm hb)).trans e)
  refine wpAny_pure ⟨plainId_quiet PySem.F.plain_extend_loop _, ?_⟩
  exact z_loop (s := s) hh Z e nS hn res (h₁ := s.heap) low hR xs.size 0 _ _ _ #[] [] (Nat.sub_zero _) (Nat.zero_le _) (st.keep nS oth) (fun d o h1 _ q => oth d o h1 q) hS₃ rfl rfl ⟨List.Pairwise.nil, (fun _ ha => nomatch ha), fun j a hj => by simp at hj⟩
theorem z_init {R : Result → Shared → Prop} {S : Addr} (hh : A.in1.in1.handled = none) (Z : ZipSep2 z TI TO i1 i2 [i1, a] [i2, b]) (e : xs.size = ys.size) (nS : S ∉ [z, TI, TO, i1, i2, a, b]) (hn : xs.size ≤ sizeLine) (low : ∀ c ∈ [z, TI, TO, i1, i2, a, b], c < S)
    (hz : IsZip s.heap z TI TO .none) (st : ZSt z TI TO i1 i2 a b S xs ys 0 s.heap) (hS : s.heap.get? S = some { cls := .type "list", data := .seq #[] })
    (hR : ∀ h' tk acc c as, (∀ d o, d ≠ S → d ∉ [z, TO, i1, i2] → s.heap.get? d = some o → h'.get? d = some o) → h'.get? S = some { cls := .type "list", dict := none, data := .seq acc c, slots := #[] } → as.length = xs.size → LzG xs ys S h' as →
      acc.toList = as.map Value.ref → R (.ok (.ret .none)) { s with heap := h', toks := tk }) :
    wpAny (model prog w) A.in1 (Builtin.«list.__init__» ⟨[.ref S, .ref z], []⟩)
      (fun fin s' => match fin with | .done f => R (.ok f) s' | .again c' => c'.quiet = true ∧ codeAny (model prog w) A c' R s') (fun e s' => R (.error e) s') s := by
  have hSz : S ≠ z := fun q => nS (by rw [q]; exact List.mem_cons_self ..)
  show wpAny _ _ (do let old ← Builtin.List.listItems (.ref S); Builtin.List.listUpdate (.ref S) (fun _ => #[]); letGo old.toList.reverse; Builtin.List.listExtendWith (.ref S) (.ref z) .none) _ _ s
  refine wpAny_bind ?_
  unfold Builtin.List.listItems
  refine wpAny_bind (wpAny_seqItems hS rfl (wpAny_pure ?_))
  show wpAny _ _ (updateSeq S (fun _ => #[]) >>= fun _ => letGo (#[] : Array Value).toList.reverse >>= fun _ => Builtin.List.listExtendWith (.ref S) (.ref z) .none) _ _ s
  refine wpAny_bind (wpAny_updateSeq hS rfl ?_)
  have hS₂ := Heap.get?_update_self (Obj.mapSeq (fun _ => (#[] : Array Value))) hS rfl
  have oth : ∀ d o, d ≠ S → s.heap.get? d = some o → (s.heap.update S (Obj.mapSeq (fun _ => (#[] : Array Value)))).get? d = some o :=
    fun d o hb e => (Heap.get?_update_other _ _ (Ne.symm hb)).trans e
  refine wpAny_bind (wpAny_letGo ?_)
  refine z_extend hh Z e nS hn low (oth _ _ hSz.symm hz) (st.keep nS oth) .none _ hS₂ (fun h' tk acc c as hk hS' hl hG hacc => ?_)
  exact hR h' tk acc c as (fun d o hb hw e => hk d o hb hw (oth d o hb e)) hS' hl hG hacc
theorem z_call {Q : Value → Shared → Prop} (hh : A.handled = none) (Z : ZipSep2 z TI TO i1 i2 [i1, a] [i2, b]) (e : xs.size = ys.size) (hn : xs.size ≤ sizeLine)
    (hz : IsZip s.heap z TI TO .none) (hTI : IsTupOf2 s.heap TI (.ref i1) (.ref i2)) (hTO : ∃ u v, IsTupOf2 s.heap TO u v) (st1 : s.heap.IsTupleIter i1 a 0 ∧ s.heap.IsTuple a xs) (st2 : s.heap.IsTupleIter i2 b 0 ∧ s.heap.IsTuple b ys)
    (hQ : ∀ h' tk acc c as, (∀ d o, d ∉ [z, TO, i1, i2] → s.heap.get? d = some o → h'.get? d = some o) → h'.get? s.heap.objs.size = some { cls := .type "list", dict := none, data := .seq acc c, slots := #[] } → as.length = xs.size → LzG xs ys s.heap.objs.size h' as →
      acc.toList = as.map Value.ref → Q (.ref s.heap.objs.size) { s with heap := h', toks := tk }) :
    wpAny (model prog w) A (call (.type "list") [.ref z]) Q E s := by
  refine callType_codes (Q₁ := fun obj s₁ => obj = .ref s.heap.objs.size ∧ s₁ = { s with heap := s.heap.push { cls := .type "list", data := .seq #[] } }) PySem.F.called_list (PySem.F.typeCall_list_1 _) PySem.F.entry_list_init
    (code_list_new _ ⟨rfl, rfl⟩) fun obj s₁ h₁ => ?_
  obtain ⟨rfl, rfl⟩ := h₁
  have hS : (s.heap.push { cls := .type "list", data := .seq #[] }).get? s.heap.objs.size = some { cls := .type "list", data := .seq #[] } := Heap.get?_push_size _ rfl
  have low : ∀ c ∈ [z, TI, TO, i1, i2, a, b], c < s.heap.objs.size := fun c hc => by
    obtain ⟨u, v, hTO⟩ := hTO
    obtain ⟨⟨o1, h1, _⟩, o3, l1, _⟩ := st1
    obtain ⟨⟨o2, h2, _⟩, o4, l2, _⟩ := st2
    simp only [List.mem_cons, List.not_mem_nil, or_false] at hc
    rcases hc with rfl | rfl | rfl | rfl | rfl | rfl | rfl
    all_goals first | exact Heap.lt_size hz | exact Heap.lt_size hTI | exact Heap.lt_size hTO | exact Heap.lt_size h1 | exact Heap.lt_size h2 | exact Heap.lt_size l1 | exact Heap.lt_size l2
  have nS : s.heap.objs.size ∉ [z, TI, TO, i1, i2, a, b] := fun hm => Nat.lt_irrefl _ (low _ hm)
  have up : ∀ d o, s.heap.get? d = some o → (s.heap.push { cls := .type "list", data := .seq #[] }).get? d = some o := fun d o q => Heap.get?_push_of_some _ q
  refine ⟨⟨_, hS, rfl⟩, PySem.F.args_list_init_2 _ _, z_init (A := A.in1) hh Z e nS hn low (up _ _ hz) ⟨up _ _ hTI, ⟨st1.1.at fun o q => up _ o q, st1.2.at fun o q => up _ o q⟩, ⟨st2.1.at fun o q => up _ o q, st2.2.at fun o q => up _ o q⟩, .inl ⟨up _ _ hz, let ⟨u, v, q⟩ := hTO; ⟨u, v, up _ _ q⟩⟩⟩ hS (fun h' tk acc c as hk hS' hl hG hacc => ?_)⟩
  exact ⟨rfl, hQ h' tk acc c as (fun d o hw e => hk d o (Nat.ne_of_lt (Heap.lt_size e)) hw (up _ _ e)) hS' hl hG hacc⟩
end
section
variable {X : Cx} {pins : List (Addr × Obj)} {σ : L2.St} {H : Hp} {s : Shared}
theorem zipL_laid {h' : Heap} {tk : Nat} {us vs : List V} {xs ys : List Value} {acc : Array Value} {c : Nat} {as : List Addr} {S : Addr} (I : Inv X pins σ H s) (hz : xs.length ≤ sizeLine) (rv : Vals us xs) (rv2 : Vals vs ys) (el : xs.length = ys.length) (hSz : s.heap.objs.size ≤ S)
    (hk : ∀ b o, s.heap.get? b = some o → h'.get? b = some o) (hS : h'.get? S = some { cls := .type "list", dict := none, data := .seq acc c, slots := #[] }) (hl : as.length = xs.length) (hG : LzG xs.toArray ys.toArray S h' as) (hacc : acc.toList = as.map Value.ref) :
    ∃ H' : Hp, (∀ b o, H b = some o → H' b = some o) ∧ H S = none ∧ (∀ t ∈ as, H t = none) ∧ S ∉ as ∧ as.Nodup ∧ H' S = some (.lst (as.map V.ref)) ∧ (∀ b, b ∉ as → b ≠ S → H' b = H b) ∧
      (∀ (i : Nat) (u v : V), us[i]? = some u → vs[i]? = some v → ∃ t, as[i]? = some t ∧ H' t = some (.tup [u, v])) ∧ Inv X pins σ H' { s with heap := h', toks := tk } := by
  have hSn : S ∉ as := fun z => Nat.lt_irrefl _ (hG.above _ z)
  have nd : as.Nodup := List.Pairwise.imp (fun {a b} (h : a < b) => Nat.ne_of_lt h) hG.rise
  have new : ∀ t ∈ as, H t = none := fun t ht => I.hok.fresh (Nat.le_trans hSz (Nat.le_of_lt (hG.above t ht)))
  have newS : H S = none := I.hok.fresh hSz
  have lu := rv.length
  have lv := rv2.length
  generalize hps : (us.zip vs).map (fun p : V × V => [p.1, p.2]) = ps
  have lp : as.length = ps.length := by rw [← hps, List.length_map, List.length_zip]; omega
  have atP := putP_at as ps (upd H S (.lst (as.map V.ref))) lp nd
  have off : ∀ b, b ∉ as → b ≠ S → putP (upd H S (.lst (as.map V.ref))) as ps b = H b := fun b h1 h2 => by rw [putP_off as ps _ h1, upd_ne h2]
  have low : ∀ b o, s.heap.get? b = some o → b ∉ as ∧ b ≠ S := fun b o e => ⟨fun z => absurd (Heap.lt_size e) (Nat.not_lt.mpr (Nat.le_trans hSz (Nat.le_of_lt (hG.above b z)))), fun z => absurd (Heap.lt_size e) (Nat.not_lt.mpr (z ▸ hSz))⟩
  have kp : ∀ b u, H b = some u → (putP (upd H S (.lst (as.map V.ref))) as ps) b = some u := fun b u e => by
    rw [off b (fun z => by rw [new b z] at e; cases e) (fun z => by rw [z, newS] at e; cases e)]
    exact e
  have eS : putP (upd H S (.lst (as.map V.ref))) as ps S = some (.lst (as.map V.ref)) := by rw [putP_off as ps _ hSn, upd_same]
  refine ⟨putP (upd H S (.lst (as.map V.ref))) as ps, kp, newS, new, hSn, nd, eS, off, fun i u v e e' => ?_, ?_⟩
  · have li : i < as.length := by rw [hl]; have := (List.getElem?_eq_some_iff.mp e).1; omega
    obtain ⟨p, e1, e2⟩ := atP i _ (List.getElem?_eq_getElem li)
    refine ⟨as[i], List.getElem?_eq_getElem li, ?_⟩
    have ez : (us.zip vs)[i]? = some (u, v) := by rw [List.getElem?_zip_eq_some]; exact ⟨e, e'⟩
    rw [← hps, List.getElem?_map, ez] at e1
    cases e1
    exact e2
  refine I.call' (ch := []) rfl ⟨fun b o q _ _ _ => hk b o q, fun b o q _ _ _ => ⟨o.slots, hk b o q⟩, fun b o q n _ => ?_, fun b o q _ => ⟨o, hk b o q⟩, fun b xs q => kp b _ q, fun b o u q => kp b _ q, fun b ps q => ⟨#[], by rw [kp b _ q]; simp⟩⟩ (fun b u q => ?_) I.bare fun b z => by simp at z
  · obtain ⟨z1, z2⟩ := low b o q
    rw [off b z1 z2]
    exact n
  · by_cases hb : b ∈ as
    · obtain ⟨j, lj, ej⟩ := List.mem_iff_getElem.mp hb
      have e1 : as[j]? = some b := by rw [← ej]; exact List.getElem?_eq_getElem lj
      obtain ⟨p, e2, e3⟩ := atP j b e1
      rw [e3] at q
      cases q
      obtain ⟨x, y, f1, f2, f3⟩ := hG.pairs j b e1
      have f1' : xs[j]? = some x := by simpa using f1
      have f2' : ys[j]? = some y := by simpa using f2
      have ju : j < us.length := by have := (List.getElem?_eq_some_iff.mp f1').1; omega
      have jv : j < vs.length := by have := (List.getElem?_eq_some_iff.mp f2').1; omega
      obtain ⟨x', hx', rx⟩ := rv.get (List.getElem?_eq_getElem ju)
      obtain ⟨y', hy', ry⟩ := rv2.get (List.getElem?_eq_getElem jv)
      rw [f1'] at hx'
      rw [f2'] at hy'
      cases hx'
      cases hy'
      have ez : (us.zip vs)[j]? = some (us[j], vs[j]) := by rw [List.getElem?_zip_eq_some]; exact ⟨List.getElem?_eq_getElem ju, List.getElem?_eq_getElem jv⟩
      rw [← hps, List.getElem?_map, ez] at e2
      cases e2
      exact ⟨by show 2 ≤ sizeLine; decide, [x, y], .cons rx (.cons ry .nil), ⟨_, f3, rfl, _, rfl⟩⟩
    · by_cases hb2 : b = S
      · rw [hb2] at q ⊢
        rw [eS] at q
        cases q
        refine ⟨by rw [List.length_map]; omega, acc.toList, c, by rw [hacc]; exact LiI.vals_refs as, ?_⟩
        rw [Array.toArray_toList]
        exact hS
      · rw [off b hb hb2] at q
        exact (I.hok b u q).stay (fun d v _ y => hk d v y) (fun d y => kp d _ y) fun d xs y => kp d _ y
end
/-- list(zip(x, y)) of tuples -/
def tListZip (K : PySem.W.Frag) (ta : TA) : TE := fun σ H Q => ta σ H fun ws H1 => ∃ (a b : Addr) (us vs : List V), ws = [.ref a, .ref b] ∧ SqT K H1 a us ∧ SqT K H1 b vs ∧ us.length = vs.length ∧
  ∀ (H' : Hp) (p : Addr) (ts : List Addr), (∀ b o, H1 b = some o → H' b = some o) → H1 p = none → (∀ t ∈ ts, H1 t = none) → ts.length = us.length → H' p = some (.lst (ts.map V.ref)) → (∀ b, b ∉ ts → b ≠ p → H' b = H1 b) →
    (∀ (i : Nat) (u v : V), us[i]? = some u → vs[i]? = some v → ∃ t, ts[i]? = some t ∧ H' t = some (.tup [u, v])) → Q (.ref p) H'
section
variable {X : Cx} {e1 e2 : Expr} {ta : TA} {p p2 pos pos2 : Pos}
theorem pe_listZip (K : PySem.W.Frag) (hc : X.calm = true) (hg1 : Gl X "list") (hm1 : X.mg "list" = none) (hg2 : Gl X "zip") (hm2 : X.mg "zip" = none) (ha : PA X [e1, e2] ta) (eK : X.K = K := by rfl)
    (hs : starEach [.Call (.Name "zip" p2) [e1, e2] [] pos2] X.env = (false, eval (.Call (.Name "zip" p2) [e1, e2] [] pos2) X.env) :: starEach [] X.env := by rfl)
    (hs2 : starEach [e1, e2] X.env = (false, eval e1 X.env) :: starEach [e2] X.env := by rfl) (hpl : (backTo pos2 (starEach [e2] X.env)).any (·.1) = false := by rfl) :
    PE X (.Call (.Name "list" p) [.Call (.Name "zip" p2) [e1, e2] [] pos2] [] pos) (tListZip K ta) := by
  subst eK
  refine ⟨fun pins s σ H Q I h => ?_⟩
  refine wpAny_Call_Name_kw (ld_blt I hg1 hm1 (show bootBuiltins "list" = some (.type "list") by decide +kernel) ?_)
  refine PyProof.Rows.callWith_type1 ?_ hs rfl
  rw [hs]
  show wpAny _ _ (spliced ((false, eval (.Call (.Name "zip" p2) [e1, e2] [] pos2) X.env) :: backTo pos (starEach [] X.env))) _ _ s
  refine Calls.spliced_cons ?_
  refine Call_ (ld_blt I hg2 hm2 PyProof.Rows.boot_zip (PyProof.Rows.callWith_type1 (thn (ha.run pos2 pins s σ H _ I h) ?_) hs2 hpl))
  rintro us0 s1 ⟨vs0, H1, I1, r1, a, b, us, vs, rfl, qx, qy, el, q⟩
  cases r1 with | cons r rr => cases rr with | cons r' rr =>
  cases rr
  cases r
  cases r'
  obtain ⟨its, rv, t1, z1⟩ := I1.tuple qx
  obtain ⟨its2, rv2, t2, z2⟩ := I1.tuple qy
  obtain ⟨o1, ho1, _⟩ := id t1
  obtain ⟨o2, ho2, _⟩ := id t2
  have la : a < s1.heap.objs.size := Heap.lt_size ho1
  have lb : b < s1.heap.objs.size := Heap.lt_size ho2
  have S := zip_sep2 (N := s1.heap.objs.size) (fp1 := [a]) (fp2 := [b]) (fun c hc => by simp at hc; rw [hc]; exact la) (fun c hc => by simp at hc; rw [hc]; exact lb)
  have l1 := rv.length
  have l2 := rv2.length
  refine zip_begins2 (begins_tuple a its.toArray) (begins_tuple b its2.toArray) t1 t2 fun h' hz hT hO g1 g2 hsz hk => ?_
  refine Calls.spliced_nil ?_
  refine z_call (xs := its.toArray) (ys := its2.toArray) (I1.ok.hd hc) S (by simp; omega) (by simp; omega) hz hT ⟨_, _, hO⟩ ⟨⟨_, g1, rfl, rfl⟩, (show s1.heap.IsTuple a its.toArray from t1).at fun o e => hk _ o e⟩ ⟨⟨_, g2, rfl, rfl⟩, (show s1.heap.IsTuple b its2.toArray from t2).at fun o e => hk _ o e⟩ fun h2 tk acc c as kp hS' hl hG hacc => ?_
  have kp2 : ∀ c o, s1.heap.get? c = some o → h2.get? c = some o := fun c o e => kp c o (by
    have l := Heap.lt_size e
    simp only [List.mem_cons, List.not_mem_nil, or_false]
    rintro (q | q | q | q)
    · exact Nat.not_lt.mpr (Nat.le_add_right _ 4) (q ▸ l)
    · exact Nat.not_lt.mpr (Nat.le_add_right _ 3) (q ▸ l)
    · exact Nat.lt_irrefl _ (q ▸ l)
    · exact Nat.not_lt.mpr (Nat.le_add_right _ 1) (q ▸ l)) (hk _ _ e)
  obtain ⟨H', k1, k2, k3, k4, k5, k6, k7, k8, J⟩ := zipL_laid (tk := tk) I1 (by rw [← l1]; exact z1) rv rv2 (by omega) (by show s1.heap.objs.size ≤ h'.objs.size; omega) kp2 hS' (by simpa using hl) hG hacc
  exact ⟨.ref _, H', J, rfl, q H' _ as k1 k2 k3 (by rw [List.size_toArray] at hl; omega) k6 k7 k8⟩
end
end Ly

set_option Elab.async false
set_option linter.all false
set_option maxRecDepth 100000
/-! a key not in such a dict; set(xs) of a tuple of ints -/
namespace Ly
open PySem PySem.Spec PyProof.Rows L2
/-- y not in d -/
def tNNotIn (X : Cx) (ty td : TE) : TE := fun σ H Q => ty σ H fun y H1 => td σ H1 fun x H2 => ∃ a xs k b, x = .ref a ∧ rGetN X.prog X.w X.K H2 a y xs k b ∧ Q (.bl (!(valN xs k).isSome)) H2
theorem pc_nnotin {X : Cx} {o i : Expr} {td ty : TE} (hu : X.A.units + 10 < cLine) (hi : PE X i ty) (ho : PE X o td) : PC X .NotIn i o (tNNotIn X ty td) := by
  refine ⟨fun pins s σ H Q I h => ?_⟩
  refine thn (hi.run pins s σ H _ I h) fun iv s1 ⟨y, H1, I1, ry, q1⟩ => thn (ho.run pins s1 σ H1 _ I1 q1) fun u s2 ⟨x, H2, I2, rx, a, xs, k, b, ex, g, q2⟩ => ?_
  subst ex
  obtain rfl : u = Value.ref a := rx
  obtain ⟨e, ks, rfl, ib, dk⟩ := g
  obtain rfl : iv = Value.ref b := ry
  obtain ⟨z, hd, dd⟩ := dN_of I2 e ks
  show wpAny _ _ (do return Value.bool (!(← contains (.ref a) (.ref b)))) _ _ s2
  refine wpAny_bind (wpAny_contains_heap (k := k) (by show X.A.in1.units + 8 < cLine; show X.A.units + 1 + 8 < cLine; omega) (show (nestedKind X.prog X.w).is s2.heap k b from ⟨nest_is I2 k ib rfl, dk⟩) hd dd (wpAny_pure ?_))
  rw [isSome_raw]
  exact ⟨.bl (!(valN xs k).isSome), H2, I2.tok _, rfl, q2⟩
/-- set(xs) of a tuple of ints -/
def rSetI (w : World) (K : PySem.W.Frag) : List V → Hp → VK → Prop := fun vs H Q => ∃ (l : Addr) (ns : List Int), vs = [.ref l] ∧ SqT K H l (ns.map V.int) ∧ ns.length ≤ 60 ∧
  ∀ p c, H p = none → c ≤ ns.length → Q (.ref p) (upd H p (SetO w p (fun j => decide (j ∈ ns)) c))
theorem cr_setI {X : Cx} (K : PySem.W.Frag) (hc : X.calm = true := by rfl) (eK : X.K = K := by rfl) : CallR X (.type "set") (rSetI X.w K) := by
  subst eK
  intro pins s σ H vs us Q I r h
  obtain ⟨l, ns, rfl, hs, hn, q⟩ := h
  obtain ⟨its, rv, ht, _⟩ := I.tuple hs
  rw [Vals.ref1 r]
  refine call_set_tupI (items := its.toArray) ns (I.ok.hd hc) ht (by simpa using ints_of_vals rv) (by unfold scanBound; omega) fun h' tk c R hc' hk => ?_
  exact ⟨.ref _, upd H s.heap.objs.size (SetO X.w s.heap.objs.size (fun j => decide (j ∈ ns)) c), I.laid (t' := tk) (fun b u e => hk b u e) (Nat.le_refl _) (setO_new R), rfl, q _ c (I.hok.fresh (Nat.le_refl _)) hc'⟩
/-- sorted(set(xs)): the one asked of the other -/
theorem kcr_sortedSet {X : Cx} (hc : X.calm = true := by rfl) : CallR X (.builtin "sorted") (rSortedSet X.w) := cr_sortedSet hc
theorem kcr_sortedI {X : Cx} (K : PySem.W.Frag) (e : X.K = K := by rfl) : CallR X (.builtin "sorted") (rSorted K) := by subst e; exact cr_sorted
theorem kcr_sum {X : Cx} (K : PySem.W.Frag) (hc : X.calm = true := by rfl) (e : X.K = K := by rfl) : CallR X (.builtin "sum") (rSum K) := by subst e; exact cr_sum hc
/-! ### keys that are unlike -/
theorem putN_fresh {xs : List NK} {k : NestedKey} (b v : Addr) (h : valN xs k = none) : putN xs k b v = xs ++ [(k, b, v)] := by
  unfold putN
  rw [h]; rfl
theorem valN_mem : ∀ {xs : List NK} {k : NestedKey} {v : Addr}, valN xs k = some v → ∃ b, (k, b, v) ∈ xs := by
  intro xs k v h
  unfold valN at h
  obtain ⟨x, hx, rfl⟩ := Option.map_eq_some_iff.mp h
  have h1 := List.mem_of_find?_eq_some hx
  have h3 := List.find?_some hx
  have h2 := of_decide_eq_true h3
  obtain ⟨a, b, c⟩ := x
  subst h2
  exact ⟨b, h1⟩
theorem valN_not {xs : List NK} {k : NestedKey} (h : valN xs k = none) : k ∉ xs.map (·.1) := by
  intro z
  obtain ⟨x, hx, rfl⟩ := List.mem_map.mp z
  unfold valN at h
  have := List.find?_eq_none.mp (Option.map_eq_none_iff.mp h) x hx
  simp at this
theorem valN_snoc (xs : List NK) (k : NestedKey) (b v : Addr) (h : valN xs k = none) : valN (xs ++ [(k, b, v)]) k = some v := by
  unfold valN at *
  rw [List.find?_append, Option.map_eq_none_iff.mp h]
  simp
theorem valN_put {xs : List NK} {k : NestedKey} {b v : Addr} : valN (putN xs k b v) k = some v := by
  cases h : valN xs k with
  | none => rw [putN_fresh b v h]; exact valN_snoc xs k b v h
  | some a =>
    unfold putN
    rw [if_pos (show (valN xs k).isSome = true by rw [h]; rfl)]
    unfold valN at h ⊢
    have e : (fun x : NK => decide (x.1 = k)) ∘ (fun x : NK => if x.1 = k then (x.1, x.2.1, v) else x) = fun x : NK => decide (x.1 = k) := by
      funext x
      show decide ((if x.1 = k then (x.1, x.2.1, v) else x).1 = k) = decide (x.1 = k)
      split <;> rfl
    obtain ⟨x, hx, _⟩ := Option.map_eq_some_iff.mp h
    have hk := List.find?_some hx
    have hk2 : x.1 = k := of_decide_eq_true hk
    rw [List.find?_map, e, hx]
    show some (if x.1 = k then (x.1, x.2.1, v) else x).2.2 = some v
    rw [if_pos hk2]
theorem putN_names {xs : List NK} {k : NestedKey} {b v : Addr} (h : (valN xs k).isSome = true) : (putN xs k b v).map (·.1) = xs.map (·.1) := by
  unfold putN
  rw [if_pos h, List.map_map]
  refine List.map_congr_left fun x _ => ?_
  show (if x.1 = k then (x.1, x.2.1, v) else x).1 = x.1
  split <;> rfl
theorem nodup_sub_len {α : Type} [DecidableEq α] : ∀ {l m : List α}, l.Nodup → (∀ x ∈ l, x ∈ m) → l.length ≤ m.length
  | [], _, _, _ => Nat.zero_le _
  | a :: l, m, nd, h => by
    obtain ⟨h1, h2⟩ := List.nodup_cons.mp nd
    have hm := h a (List.mem_cons_self ..)
    have := nodup_sub_len (m := m.erase a) h2 fun x hx => (List.mem_erase_of_ne (fun e => h1 (by rw [← e]; exact hx))).mpr (h x (List.mem_cons_of_mem _ hx))
    rw [List.length_erase_of_mem hm] at this
    have := List.length_pos_of_mem hm
    rw [List.length_cons]
    omega
end Ly

set_option Elab.async false
set_option linter.all false
set_option maxRecDepth 100000
set_option exponentiation.threshold 20000
set_option pp.deepTerms false
set_option pp.deepTerms.threshold 8
namespace K63
open PySem PySem.Spec PyProof.Rows L2 Ly Mt
/-! ### right rows as data -/
abbrev Rw := Str × List Int
def rwD (r : Rw) : PyData := .tuple [.str r.1, .tuple (r.2.map .int)]
def rwsD (rs : List Rw) : PyData := .tuple (rs.map rwD)
def fl (ks : List Kd) (r : Rw) : List Str := ((lkp ks r.1).getD ("", [])).2
structure RowR (ks : List Kd) (t : Nat) (r : Rw) (i j : Nat) (kd : Kd) (m : Mk) : Prop where
  at' : AtN ks r.1 i j kd m
  lk : lkp ks r.1 = some (kd.1, m.2)
  len : r.2.length = m.2.length
  ents : ∀ (s : Nat) f e, m.2[s]? = some f → r.2[s]? = some e → f ≠ "number" → ∃ n : Nat, e = n ∧ n < t
theorem RowR.fls {ks : List Kd} {t : Nat} {r : Rw} {i j : Nat} {kd : Kd} {m : Mk} (h : RowR ks t r i j kd m) : fl ks r = m.2 := by unfold fl; rw [h.lk]; rfl
structure RowsR (ks : List Kd) (rows : List Rw) : Prop where
  few : 1 ≤ rows.length ∧ rows.length ≤ 96
  each : ∀ (t : Nat) r, rows[t]? = some r → ∃ i j kd m, RowR ks t r i j kd m
def inO : PyData → Int
  | .int i => i
  | _ => 0
def toRw (d : PyData) : Rw := (stO (p0 d), (its (p1 d)).map inO)
theorem jAt_all {ks : List Kd} {ds : List PyData} (h : jRows ks (.tuple ds) = true) {t : Nat} (ht : t < ds.length) : jAt ks ds t = true := by
  unfold jRows at h
  rw [Bool.and_eq_true] at h
  exact List.all_eq_true.mp h.2 t (List.mem_range.mpr ht)
theorem rows_j {ks : List Kd} {d : PyData} (h : jRows ks d = true) : ∃ rows, d = rwsD rows ∧ RowsR ks rows := by
  have h0 : jRow d 1 96 = true := by
    unfold jRows at h
    rw [Bool.and_eq_true] at h
    exact h.1
  obtain ⟨ds, rfl, l1, l2⟩ := jRow_tup h0
  have each : ∀ (t : Nat) x, ds[t]? = some x → rwD (toRw x) = x ∧ ∃ i j kd m, RowR ks t (toRw x) i j kd m := fun t x hx => by
    have ht := (List.getElem?_eq_some_iff.mp hx).1
    have j := jAt_all h ht
    unfold jAt at j
    rw [List.getD_eq_getElem?_getD, hx] at j
    obtain ⟨nm, es, i, jj, kd, m, ed, at', lk, _, le, he⟩ := jLine_is j
    have hints : ∀ e ∈ es, PyData.int (inO e) = e := fun e hm => by
      obtain ⟨s, hs⟩ := List.getElem?_of_mem hm
      have h1 := (List.getElem?_eq_some_iff.mp hs).1
      have := he s (m.2[s]'(by omega)) e (List.getElem?_eq_getElem (by omega)) hs
      cases e <;> first | rfl | cases this
    have ed' : x = .tuple [.str nm, .tuple es] := ed
    subst ed'
    refine ⟨?_, i, jj, kd, m, at', lk, by show (es.map inO).length = _; rw [List.length_map, le], fun s f e hf he2 hn => ?_⟩
    · show PyData.tuple [.str nm, .tuple ((es.map inO).map .int)] = _
      rw [List.map_map, map_self (f := PyData.int ∘ inO) hints]
    · obtain ⟨e0, h1, rfl⟩ := Option.map_eq_some_iff.mp (show (es[s]?).map inO = some e by rw [← List.getElem?_map]; exact he2)
      have h2 := he s f e0 hf h1
      rw [← hints e0 (List.mem_of_getElem? h1)] at h2
      have h3 : (decide (f = "number") || (decide (0 ≤ inO e0) && decide (((ds.take t).map (kdOf ks))[(inO e0).toNat]? = some f))) = true := h2
      rw [decide_eq_false hn, Bool.false_or, Bool.and_eq_true, decide_eq_true_iff, decide_eq_true_iff] at h3
      obtain ⟨n, hn'⟩ := Int.eq_ofNat_of_zero_le h3.1
      refine ⟨n, hn', ?_⟩
      have h4 := (List.getElem?_eq_some_iff.mp h3.2).1
      rw [hn', Int.toNat_natCast, List.length_map, List.length_take] at h4
      omega
  refine ⟨ds.map toRw, ?_, ⟨by rw [List.length_map]; omega, fun t r hr => ?_⟩⟩
  · unfold rwsD
    rw [List.map_map, map_self (f := rwD ∘ toRw) fun x hx => by
      obtain ⟨t, ht⟩ := List.getElem?_of_mem hx
      exact (each t x ht).1]
  · rw [List.getElem?_map] at hr
    obtain ⟨x, hx, rfl⟩ := Option.map_eq_some_iff.mp hr
    exact (each t x hx).2
/-- one by one, each from those ahead -/
def foldR {α : Type} (g : Rw → List α → α) (rows : List Rw) : List α := rows.foldl (fun found r => found ++ [g r found]) []
section
variable {α : Type} {g : Rw → List α → α}
theorem foldR_snoc (rows : List Rw) (r : Rw) : foldR g (rows ++ [r]) = foldR g rows ++ [g r (foldR g rows)] := by
  unfold foldR
  rw [List.foldl_append]; rfl
theorem foldR_step {rows : List Rw} {t : Nat} {r : Rw} (h : rows[t]? = some r) : foldR g (rows.take (t + 1)) = foldR g (rows.take t) ++ [g r (foldR g (rows.take t))] := by
  rw [List.take_add_one, h]; exact foldR_snoc _ _
theorem foldR_len : ∀ (t : Nat) {rows : List Rw}, t ≤ rows.length → (foldR g (rows.take t)).length = t
  | 0, rows, _ => by rw [List.take_zero]; rfl
  | t + 1, rows, h => by
    rw [foldR_step (List.getElem?_eq_getElem (show t < rows.length by omega)), List.length_append, foldR_len t (by omega)]; rfl
theorem foldR_pre (rows : List Rw) (t : Nat) : ∀ n, t ≤ n → n ≤ rows.length → foldR g (rows.take t) <+: foldR g (rows.take n)
  | 0, h, _ => by
    obtain rfl : t = 0 := by omega
    exact List.prefix_refl _
  | n + 1, h, hn => by
    by_cases e : t = n + 1
    · rw [e]; exact List.prefix_refl _
    · rw [foldR_step (List.getElem?_eq_getElem (show n < rows.length by omega))]
      exact (foldR_pre rows t n (by omega) (by omega)).trans (List.prefix_append ..)
theorem foldR_get {rows : List Rw} {t : Nat} {r : Rw} (h : rows[t]? = some r) {n : Nat} (hn : t < n) (hl : n ≤ rows.length) : (foldR g (rows.take n))[t]? = some (g r (foldR g (rows.take t))) := by
  have hp := foldR_pre (g := g) rows (t + 1) n hn hl
  rw [foldR_step h] at hp
  obtain ⟨z, hz⟩ := hp
  rw [← hz, List.append_assoc]
  have hl2 := foldR_len (g := g) t (rows := rows) (by omega)
  rw [List.getElem?_append_right (by omega), hl2, Nat.sub_self]; rfl
end
/-- what is found of each entry of a row, up to the n-th -/
def partL {α : Type} (num : Int → List α) (at' : Nat → List α) (fs : List Str) (es : List Int) : Nat → List α
  | 0 => []
  | n + 1 => partL num at' fs es n ++ (if fs.getD n "" = "number" then num (es.getD n 0) else at' (es.getD n 0).toNat)
theorem partL_step {α : Type} {num : Int → List α} {at' : Nat → List α} {fs : List Str} {es : List Int} {n : Nat} {f : Str} {e : Int} (hf : fs[n]? = some f) (he : es[n]? = some e) : partL num at' fs es (n + 1) = partL num at' fs es n ++ (if f = "number" then num e else at' e.toNat) := by
  show _ ++ _ = _
  rw [List.getD_eq_getElem?_getD, List.getD_eq_getElem?_getD, hf, he]; rfl
def szL (fs : List Str) (es found : List Int) (n : Nat) : List Int := partL (fun _ => []) (fun i => [found.getD i 0]) fs es n
def szG (ks : List Kd) (r : Rw) (found : List Int) : Int := 1 + (szL (fl ks r) r.2 found (fl ks r).length).sum
def cnL (fs : List Str) (es found : List Int) (n : Nat) : List Int := partL (fun _ => [1]) (fun i => [found.getD i 0]) fs es n
def cnG (ks : List Kd) (r : Rw) (found : List Int) : Int := 1 + (cnL (fl ks r) r.2 found (fl ks r).length).sum
def wdL (fs : List Str) (es : List Int) (found : List (List PyData)) (n : Nat) : List PyData := partL (fun e => [.int e]) (fun i => found.getD i []) fs es n
def wdG (ks : List Kd) (r : Rw) (found : List (List PyData)) : List PyData := .str r.1 :: wdL (fl ks r) r.2 found (fl ks r).length
theorem cn_wdL (fs : List Str) (es : List Int) (found : List (List PyData)) : ∀ n, (cnL fs es (found.map fun l => (l.length : Int)) n).sum = ((wdL fs es found n).length : Int)
  | 0 => rfl
  | n + 1 => by
    show ((cnL fs es _ n) ++ _).sum = (((wdL fs es found n) ++ _).length : Int)
    rw [List.sum_append, cn_wdL fs es found n, List.length_append]
    by_cases h : fs.getD n "" = "number"
    · rw [if_pos h, if_pos h]; rfl
    · rw [if_neg h, if_neg h]
      have : (found.map fun l => (l.length : Int)).getD (es.getD n 0).toNat 0 = ((found.getD (es.getD n 0).toNat []).length : Int) := by
        generalize (es.getD n 0).toNat = j
        rw [List.getD_eq_getElem?_getD, List.getD_eq_getElem?_getD, List.getElem?_map]
        cases found[j]? <;> rfl
      dsimp only
      rw [this, List.sum_cons, List.sum_nil]; omega
theorem cn_wd (ks : List Kd) (rows : List Rw) : ∀ t, t ≤ rows.length → foldR (cnG ks) (rows.take t) = (foldR (wdG ks) (rows.take t)).map fun l => (l.length : Int)
  | 0, _ => by rw [List.take_zero]; rfl
  | t + 1, h => by
    have e := List.getElem?_eq_getElem (show t < rows.length by omega)
    rw [foldR_step e, foldR_step e, List.map_append, cn_wd ks rows t (by omega)]
    congr 1
    show [1 + (cnL _ _ _ _).sum] = [_]
    rw [cn_wdL]
    show [_] = [(((wdL _ _ _ _).length + 1 : Nat) : Int)]
    rw [show (1 : Int) + ((wdL (fl ks rows[t]) rows[t].2 (foldR (wdG ks) (rows.take t)) (fl ks rows[t]).length).length : Int) = ((wdL (fl ks rows[t]) rows[t].2 (foldR (wdG ks) (rows.take t)) (fl ks rows[t]).length).length + 1 : Nat) by omega]
section
variable {P : Program} {w : World} {K : PySem.W.Frag} {mg : Str → Option Value} {base : Heap}
abbrev s_row_sizes : Stmt := topS 27
theorem sc_row_sizes : FnScope ["table", "rows", "found", "maker", "entries", "fields", "field", "entry"] ["table", "rows"] (defScope s_row_sizes) := ⟨rfl, rfl, rfl, by decide +kernel, rfl, by decide +kernel, by decide +kernel⟩
def sr_sz (K : PySem.W.Frag) (g : List Kd → Rw → List Int → Int) : Sp := fun vs H Q _ => ∃ (d : Addr) (v : V) (ks : List Kd) (rows : List Rw), vs = [.ref d, v] ∧ KindsOk ks ∧ TableAt K H d (rowsOf ks ks.length) ∧ Im K H v (rwsD rows) ∧ RowsR ks rows ∧ ∀ L H', Same H H' → H L = none → H' L = some (.lst ((foldR (g ks) rows).map V.int)) → Q (.ref L) H'
theorem ok_row_sizes {f : Addr} {fd : FuncData} {k : Nat} (F : Fun K "row_sizes" "row_sizes" s_row_sizes f fd) (T : Tx K mg) : FnOk P w K mg base CX0 (k + 1) f fd ["table", "rows"] (sr_sz K szG) := by
  have nd := sc_row_sizes.nd
  refine F.ok sc_row_sizes (fun vs H Q E h => ?_) (fun cdv A outer s H vs Q E hr h => ?_)
  · obtain ⟨_, _, _, _, rfl, _⟩ := h
    rfl
  · obtain ⟨d, v, ks, rows, rfl, ok, tb, iv, ro, q⟩ := h
    obtain ⟨a, xs, rfl, ha, hx⟩ := iv.tuple_inv
    have lx : xs.length = rows.length := all_len hx
    have few := ro.few
    refine ⟨_, (pss_cons (ps_set (i := 2) nd rfl (.inr rfl) (pe_lst pa_nil))
      (pss_cons (ps_for PassesOwn.never rfl (kpi_tup K (pv 1)) (kpg_tup K (n := 2) rfl (pgs_cons (pg_name (i := 3) nd rfl (.inl rfl)) (pgs_cons (pg_name (i := 4) nd rfl (.inl rfl)) pgs_nil)))
        (pss_cons (ps_set (i := 5) nd rfl (.inl rfl) (pe_ix (kix_tup K) (pe_dget (hu_of hr) (pv 0) (pv 3) (fun _ _ => rfl)) pe_int (fun _ _ => rfl)))
        (pss_one (ps_expr (pe_bm PySem.F.plainAttrs_list PySem.F.slot_list_append PySem.F.type_list_append mt_append (pv 2) (pa_cons (pe_op op_add pe_int (pe_callB (kcr_sum K) (by rfl) T.m_sum (by decide +kernel) (pa_cons (pe_lc (own := [("field", 6), ("entry", 7)]) (g := _) rfl nd (kpi_zip K (by rfl) T.m_zip (pa_cons (pv 5) (pa_cons (pv 4) pa_nil))) (blkOk_by (by rfl)) (fun _ _ _ _ _ => (kpg_tup K (n := 2) rfl (pgs_cons (pg_name (i := 6) nd rfl (.inl rfl)) (pgs_cons (pg_name (i := 7) nd rfl (.inl rfl)) pgs_nil)))) (fun _ _ _ _ _ => (pts_one (pt_cmpR op_ne (pv 6) (pe_gv rfl T.g_NUMBER) (nomark _)))) (fun _ _ _ _ _ => (pe_ix (kix_list K) (pv 2) (pv 7) (fun _ _ => rfl)))) pa_nil))) pa_nil))))))
      (pss_one (ps_ret (pv 2))))), ?_⟩
    refine ⟨by show 0 ≤ sizeLine; decide, fun L hL => ?_⟩
    have sL := same_new (o := .lst []) hL
    have eL : (upd H L (.lst [])) L = some (.lst []) := upd_same
    generalize upd H L (.lst []) = H0 at *
    refine ⟨.ref a, rfl, a, rfl, ⟨_, (ha.mono (tk_same sL)).sq⟩, ?_⟩
    refine for_it (walk_tup (xs := xs)) (fun t σ Ha => ∃ (y3 y4 y5 : Option V), σ = [some (.ref d), some (.ref a), some (.ref L), y3, y4, y5, none, none] ∧ Same H Ha ∧ Ha L = some (.lst ((foldR (szG ks) (rows.take t)).map V.int))) ⟨_, _, _, rfl, sL, by rw [List.take_zero]; exact eL⟩ (fun t σ Ha _ z => ?_) ?_ ?_
    · obtain ⟨_, _, _, _, sm, _⟩ := z
      exact (ha.mono (tk_same sm)).sq
    · rintro t x σ Ha Hb ht ⟨y3, y4, y5, rfl, sm, eL⟩ ⟨rfl, hxt⟩
      obtain ⟨r, hr', ir⟩ := all_get (ImAll.mono (tk_same sm) _ hx) hxt
      obtain ⟨p, z1, z2, rfl, hp, iz1, iz2⟩ := im_pair ir
      obtain rfl := iz1.str_inv
      obtain ⟨pe, es, rfl, hpe, hes⟩ := iz2.tuple_inv
      obtain rfl := im_intsN hes
      obtain ⟨i, j, kd, m, R⟩ := ro.each t r hr'
      obtain ⟨vr, gr, irr⟩ := tb_getN (tb.same sm) ok R.at'
      obtain ⟨qr, r1, r2, r3, rfl, hqr, ir1, ir22, ir3⟩ := im_trip irr
      have ir3' : Im K Hb r3 (.tuple ((m.2.map (placeOf (ks.map (·.1)))).map .int)) := ir3
      obtain ⟨pf, fs, rfl, hpf, hfs⟩ := ir3'.tuple_inv
      obtain rfl := im_intsN hfs
      have kmem := List.mem_of_getElem? R.at'.hk
      have mmem := List.mem_of_getElem? R.at'.hm
      have l4 := (ok.mkk _ kmem _ mmem).2
      have lr := R.len
      have tl : t ≤ rows.length := by omega
      have fll := foldR_len (g := szG ks) t tl
      refine ⟨p, _, rfl, hp.sq, rfl, .str r.1, _, rfl, .ref pe, _, rfl, rfl, ?_⟩
      refine ⟨.ref d, rfl, .str r.1, rfl, d, _, rfl, gr, qr, _, 2, _, rfl, rfl, hqr.sq, atI_nat (j := 2) rfl, ?_⟩
      refine ⟨.ref L, rfl, .inl ⟨rfl, _, .of eL⟩, .ref pf, rfl, .ref pe, rfl, pf, pe, _, _, rfl, .inr ⟨hpf.sq, hpe.sq, fun D hD => ?_⟩⟩
      have nLD : L ≠ D := ne_of_none eL hD
      refine lc_it (walk_zipT (by simp only [List.length_map]; omega)) (fun s Hx => Same Hb Hx ∧ Hx D = some (.lst ((szL m.2 r.2 (foldR (szG ks) (rows.take t)) s).map V.int)) ∧ (szL m.2 r.2 (foldR (szG ks) (rows.take t)) s).length ≤ s) ⟨same_new hD, upd_same, Nat.le_refl _⟩ (fun s Hx _ z => ⟨(hpf.mono (tk_same z.1)).sq, (hpe.mono (tk_same z.1)).sq⟩) (fun s x Hx Hy hi z y => ?_) (fun Hx z => ?_)
      · obtain ⟨s3, eD, lD⟩ := z
        obtain ⟨T2, x1, x2, rfl, hT2, rfl, f1, f2⟩ := y
        simp only [List.getElem?_map, List.map_map] at f1 f2
        obtain ⟨f, hf, rfl⟩ := Option.map_eq_some_iff.mp f1
        obtain ⟨e, he, rfl⟩ := Option.map_eq_some_iff.mp f2
        have sT2 := same_new (o := .tup [V.int (placeOf (ks.map (·.1)) f), .int e]) hT2
        have s4 := s3.trans sT2
        have eD4 := sT2 _ _ eD
        have eL4 := s4 _ _ eL
        have hf2 := ok.flds _ kmem _ mmem f (List.mem_of_getElem? hf)
        have hs4 : s < 4 := by
          have := (List.getElem?_eq_some_iff.mp hf).1
          omega
        have st := partL_step (num := fun _ => ([] : List Int)) (at' := fun i => [(foldR (szG ks) (rows.take t)).getD i 0]) hf he
        refine ⟨T2, _, rfl, .of upd_same, rfl, .int _, _, rfl, .int e, _, rfl, rfl, rfl, .int _, rfl, rfl, _, rfl, ?_⟩
        rw [dec_le, place_num ok hf2]
        by_cases hn : f = "number"
        · rw [decide_eq_true hn]
          rw [if_pos hn, List.append_nil] at st
          exact iteF ⟨s4, by unfold szL; rw [st]; exact eD4, by unfold szL; rw [st]; exact Nat.le_succ_of_le lD⟩
        · rw [decide_eq_false hn]
          rw [if_neg hn] at st
          obtain ⟨n, rfl, hnt⟩ := R.ents s f e hf he hn
          obtain ⟨rn, hrn⟩ : ∃ rn, rows[n]? = some rn := ⟨_, List.getElem?_eq_getElem (by omega)⟩
          have g1 := foldR_get (g := szG ks) hrn hnt tl
          have st' : szL m.2 r.2 (foldR (szG ks) (rows.take t)) (s + 1) = szL m.2 r.2 (foldR (szG ks) (rows.take t)) s ++ [szG ks rn (foldR (szG ks) (rows.take n))] := by
            unfold szL
            rw [st, Int.toNat_natCast, List.getD_eq_getElem?_getD, g1]; rfl
          refine iteT ⟨.ref L, rfl, .int (n : Nat), rfl, L, _, _, .int (szG ks rn (foldR (szG ks) (rows.take n))), rfl, rfl, .of eL4, atI_nat (by rw [List.getElem?_map, g1]; rfl), _, eD4, small1000 (by rw [List.length_map]; omega), fun b o e => ?_, ?_, ?_⟩
          · rw [upd_ne (ne_of_none e hD)]; exact s4 _ _ e
          · rw [upd_same, st', List.map_append]; rfl
          · rw [st', List.length_append]; show _ + 1 ≤ _; omega
      · obtain ⟨s3, eD, lD⟩ := z
        rw [show (((m.2.map (placeOf (ks.map (·.1)))).map V.int).length) = m.2.length by simp only [List.length_map]] at eD
        refine ⟨D, _, rfl, .of eD, _, _, rfl, rfl, L, _, _, rfl, rfl, s3 _ _ eL, small1000 (by rw [List.length_map]; omega), ?_⟩
        refine ⟨_, _, _, rfl, fun b o e => ?_, ?_⟩
        · rw [upd_ne (ne_of_none e hL)]; exact s3 _ _ (sm _ _ e)
        · rw [upd_same, foldR_step hr', List.map_append]
          unfold szG
          rw [R.fls]; rfl
    · rintro σ Ha ⟨y3, y4, y5, rfl, sm, eL⟩
      rw [lx, List.take_of_length_le (Nat.le_refl _)] at eL
      exact ⟨.ref L, rfl, q L Ha sm hL eL⟩
end
end K63

set_option Elab.async false
set_option linter.all false
set_option maxRecDepth 100000
set_option exponentiation.threshold 20000
set_option pp.deepTerms false
set_option pp.deepTerms.threshold 8
namespace K63
open PySem PySem.Spec PyProof.Rows L2 Ly Mt
/-! ### words counted and told -/
def wOf (W : List (List PyData)) (p : Int × Int) : List PyData := if p.1 = -1 then [.int p.2] else W.getD p.2.toNat []
def remW (W : List (List PyData)) (st : List (Int × Int)) : List PyData := st.reverse.flatMap (wOf W)
theorem remW_snoc (W : List (List PyData)) (st : List (Int × Int)) (p : Int × Int) : remW W (st ++ [p]) = wOf W p ++ remW W st := by
  unfold remW
  rw [List.reverse_append]; rfl
theorem remW_ext (W : List (List PyData)) (st ps : List (Int × Int)) : remW W (st ++ ps.reverse) = ps.flatMap (wOf W) ++ remW W st := by
  unfold remW
  rw [List.reverse_append, List.reverse_reverse, List.flatMap_append]
def pairD (p : Int × Int) : PyData := .tuple [.int p.1, .int p.2]
section
variable {P : Program} {w : World} {K : PySem.W.Frag} {mg : Str → Option Value} {base : Heap}
abbrev s_word_counts : Stmt := topS 29
theorem sc_word_counts : FnScope ["table", "rows", "found", "maker", "entries", "fields", "field", "entry"] ["table", "rows"] (defScope s_word_counts) := ⟨rfl, rfl, rfl, by decide +kernel, rfl, by decide +kernel, by decide +kernel⟩
theorem ok_word_counts {f : Addr} {fd : FuncData} {k : Nat} (F : Fun K "word_counts" "word_counts" s_word_counts f fd) (T : Tx K mg) : FnOk P w K mg base CX0 (k + 1) f fd ["table", "rows"] (sr_sz K cnG) := by
  have nd := sc_word_counts.nd
  refine F.ok sc_word_counts (fun vs H Q E h => ?_) (fun cdv A outer s H vs Q E hr h => ?_)
  · obtain ⟨_, _, _, _, rfl, _⟩ := h
    rfl
  · obtain ⟨d, v, ks, rows, rfl, ok, tb, iv, ro, q⟩ := h
    obtain ⟨a, xs, rfl, ha, hx⟩ := iv.tuple_inv
    have lx : xs.length = rows.length := all_len hx
    have few := ro.few
    refine ⟨_, (pss_cons (ps_set (i := 2) nd rfl (.inr rfl) (pe_lst pa_nil))
      (pss_cons (ps_for PassesOwn.never rfl (kpi_tup K (pv 1)) (kpg_tup K (n := 2) rfl (pgs_cons (pg_name (i := 3) nd rfl (.inl rfl)) (pgs_cons (pg_name (i := 4) nd rfl (.inl rfl)) pgs_nil)))
        (pss_cons (ps_set (i := 5) nd rfl (.inl rfl) (pe_ix (kix_tup K) (pe_dget (hu_of hr) (pv 0) (pv 3) (fun _ _ => rfl)) pe_int (fun _ _ => rfl)))
        (pss_one (ps_expr (pe_bm PySem.F.plainAttrs_list PySem.F.slot_list_append PySem.F.type_list_append mt_append (pv 2) (pa_cons (pe_op op_add pe_int (pe_callB (kcr_sum K) (by rfl) T.m_sum (by decide +kernel) (pa_cons (pe_lc (own := [("field", 6), ("entry", 7)]) (g := _) (tt := tYes) rfl nd (kpi_zip K (by rfl) T.m_zip (pa_cons (pv 5) (pa_cons (pv 4) pa_nil))) (blkOk_by (by rfl)) (fun _ _ _ _ _ => (kpg_tup K (n := 2) rfl (pgs_cons (pg_name (i := 6) nd rfl (.inl rfl)) (pgs_cons (pg_name (i := 7) nd rfl (.inl rfl)) pgs_nil)))) (fun _ _ _ _ _ => pts_nil) (fun _ _ _ _ _ => (pe_ifExp (pt_cmpR op_eq (pv 6) (pe_gv rfl T.g_NUMBER) (nomark _)) pe_int (pe_ix (kix_list K) (pv 2) (pv 7) (fun _ _ => rfl))))) pa_nil))) pa_nil))))))
      (pss_one (ps_ret (pv 2))))), ?_⟩
    refine ⟨by show 0 ≤ sizeLine; decide, fun L hL => ?_⟩
    have sL := same_new (o := .lst []) hL
    have eL : (upd H L (.lst [])) L = some (.lst []) := upd_same
    generalize upd H L (.lst []) = H0 at *
    refine ⟨.ref a, rfl, a, rfl, ⟨_, (ha.mono (tk_same sL)).sq⟩, ?_⟩
    refine for_it (walk_tup (xs := xs)) (fun t σ Ha => ∃ (y3 y4 y5 : Option V), σ = [some (.ref d), some (.ref a), some (.ref L), y3, y4, y5, none, none] ∧ Same H Ha ∧ Ha L = some (.lst ((foldR (cnG ks) (rows.take t)).map V.int))) ⟨_, _, _, rfl, sL, by rw [List.take_zero]; exact eL⟩ (fun t σ Ha _ z => ?_) ?_ ?_
    · obtain ⟨_, _, _, _, sm, _⟩ := z
      exact (ha.mono (tk_same sm)).sq
    · rintro t x σ Ha Hb ht ⟨y3, y4, y5, rfl, sm, eL⟩ ⟨rfl, hxt⟩
      obtain ⟨r, hr', ir⟩ := all_get (ImAll.mono (tk_same sm) _ hx) hxt
      obtain ⟨p, z1, z2, rfl, hp, iz1, iz2⟩ := im_pair ir
      obtain rfl := iz1.str_inv
      obtain ⟨pe, es, rfl, hpe, hes⟩ := iz2.tuple_inv
      obtain rfl := im_intsN hes
      obtain ⟨i, j, kd, m, R⟩ := ro.each t r hr'
      obtain ⟨vr, gr, irr⟩ := tb_getN (tb.same sm) ok R.at'
      obtain ⟨qr, r1, r2, r3, rfl, hqr, ir1, ir22, ir3⟩ := im_trip irr
      have ir3' : Im K Hb r3 (.tuple ((m.2.map (placeOf (ks.map (·.1)))).map .int)) := ir3
      obtain ⟨pf, fs, rfl, hpf, hfs⟩ := ir3'.tuple_inv
      obtain rfl := im_intsN hfs
      have kmem := List.mem_of_getElem? R.at'.hk
      have mmem := List.mem_of_getElem? R.at'.hm
      have l4 := (ok.mkk _ kmem _ mmem).2
      have lr := R.len
      have tl : t ≤ rows.length := by omega
      have fll := foldR_len (g := cnG ks) t tl
      refine ⟨p, _, rfl, hp.sq, rfl, .str r.1, _, rfl, .ref pe, _, rfl, rfl, ?_⟩
      refine ⟨.ref d, rfl, .str r.1, rfl, d, _, rfl, gr, qr, _, 2, _, rfl, rfl, hqr.sq, atI_nat (j := 2) rfl, ?_⟩
      refine ⟨.ref L, rfl, .inl ⟨rfl, _, .of eL⟩, .ref pf, rfl, .ref pe, rfl, pf, pe, _, _, rfl, .inr ⟨hpf.sq, hpe.sq, fun D hD => ?_⟩⟩
      have nLD : L ≠ D := ne_of_none eL hD
      refine lc_it (walk_zipT (by simp only [List.length_map]; omega)) (fun s Hx => Same Hb Hx ∧ Hx D = some (.lst ((cnL m.2 r.2 (foldR (cnG ks) (rows.take t)) s).map V.int)) ∧ (cnL m.2 r.2 (foldR (cnG ks) (rows.take t)) s).length ≤ s) ⟨same_new hD, upd_same, Nat.le_refl _⟩ (fun s Hx _ z => ⟨(hpf.mono (tk_same z.1)).sq, (hpe.mono (tk_same z.1)).sq⟩) (fun s x Hx Hy hi z y => ?_) (fun Hx z => ?_)
      · obtain ⟨s3, eD, lD⟩ := z
        obtain ⟨T2, x1, x2, rfl, hT2, rfl, f1, f2⟩ := y
        simp only [List.getElem?_map, List.map_map] at f1 f2
        obtain ⟨f, hf, rfl⟩ := Option.map_eq_some_iff.mp f1
        obtain ⟨e, he, rfl⟩ := Option.map_eq_some_iff.mp f2
        have sT2 := same_new (o := .tup [V.int (placeOf (ks.map (·.1)) f), .int e]) hT2
        have s4 := s3.trans sT2
        have eD4 := sT2 _ _ eD
        have eL4 := s4 _ _ eL
        have hf2 := ok.flds _ kmem _ mmem f (List.mem_of_getElem? hf)
        have hs4 : s < 4 := by
          have := (List.getElem?_eq_some_iff.mp hf).1
          omega
        have st := partL_step (num := fun _ => ([1] : List Int)) (at' := fun i => [(foldR (cnG ks) (rows.take t)).getD i 0]) hf he
        refine ⟨T2, _, rfl, .of upd_same, rfl, .int _, _, rfl, .int e, _, rfl, rfl, rfl, .int _, rfl, rfl, _, rfl, ?_⟩
        rw [dec_le, place_num ok hf2]
        have fin : ∀ c : Int, cnL m.2 r.2 (foldR (cnG ks) (rows.take t)) (s + 1) = cnL m.2 r.2 (foldR (cnG ks) (rows.take t)) s ++ [c] → ∀ o : HO, o = .lst ((cnL m.2 r.2 (foldR (cnG ks) (rows.take t)) s).map V.int ++ [.int c]) → Same Hb (upd (upd Hx T2 (.tup [V.int (placeOf (ks.map (·.1)) f), .int e])) D o) ∧ (upd (upd Hx T2 (.tup [V.int (placeOf (ks.map (·.1)) f), .int e])) D o) D = some (.lst ((cnL m.2 r.2 (foldR (cnG ks) (rows.take t)) (s + 1)).map V.int)) ∧ (cnL m.2 r.2 (foldR (cnG ks) (rows.take t)) (s + 1)).length ≤ s + 1 := fun c hc o ho => by
          subst ho
          refine ⟨fun b o e => ?_, ?_, ?_⟩
          · rw [upd_ne (ne_of_none e hD)]; exact s4 _ _ e
          · rw [upd_same, hc, List.map_append]; rfl
          · rw [hc, List.length_append]; show _ + 1 ≤ _; omega
        by_cases hn : f = "number"
        · rw [decide_eq_true hn]
          rw [if_pos hn] at st
          exact iteT ⟨_, eD4, small1000 (by rw [List.length_map]; omega), fin 1 st _ rfl⟩
        · rw [decide_eq_false hn]
          rw [if_neg hn] at st
          obtain ⟨n, rfl, hnt⟩ := R.ents s f e hf he hn
          obtain ⟨rn, hrn⟩ : ∃ rn, rows[n]? = some rn := ⟨_, List.getElem?_eq_getElem (by omega)⟩
          have g1 := foldR_get (g := cnG ks) hrn hnt tl
          have st' : cnL m.2 r.2 (foldR (cnG ks) (rows.take t)) (s + 1) = cnL m.2 r.2 (foldR (cnG ks) (rows.take t)) s ++ [cnG ks rn (foldR (cnG ks) (rows.take n))] := by
            unfold cnL
            rw [st, Int.toNat_natCast, List.getD_eq_getElem?_getD, g1]; rfl
          exact iteF ⟨.ref L, rfl, .int (n : Nat), rfl, L, _, _, .int (cnG ks rn (foldR (cnG ks) (rows.take n))), rfl, rfl, .of eL4, atI_nat (by rw [List.getElem?_map, g1]; rfl), _, eD4, small1000 (by rw [List.length_map]; omega), fin _ st' _ rfl⟩
      · obtain ⟨s3, eD, lD⟩ := z
        rw [show (((m.2.map (placeOf (ks.map (·.1)))).map V.int).length) = m.2.length by simp only [List.length_map]] at eD
        refine ⟨D, _, rfl, .of eD, _, _, rfl, rfl, L, _, _, rfl, rfl, s3 _ _ eL, small1000 (by rw [List.length_map]; omega), ?_⟩
        refine ⟨_, _, _, rfl, fun b o e => ?_, ?_⟩
        · rw [upd_ne (ne_of_none e hL)]; exact s3 _ _ (sm _ _ e)
        · rw [upd_same, foldR_step hr', List.map_append]
          unfold cnG
          rw [R.fls]; rfl
    · rintro σ Ha ⟨y3, y4, y5, rfl, sm, eL⟩
      rw [lx, List.take_of_length_le (Nat.le_refl _)] at eL
      exact ⟨.ref L, rfl, q L Ha sm hL eL⟩
end
end K63

set_option Elab.async false
set_option linter.all false
set_option maxRecDepth 100000
set_option exponentiation.threshold 20000
set_option pp.deepTerms false
set_option pp.deepTerms.threshold 8
namespace K63
open PySem PySem.Spec PyProof.Rows L2 Ly Mt
/-! ### words told -/
theorem im_unsnoc {K : PySem.W.Frag} {H : Hp} : ∀ {l : List PyData} {d : PyData} {ws : List V}, ImAll K H ws (l ++ [d]) → ∃ us y, ws = us ++ [y] ∧ ImAll K H us l ∧ Im K H y d
  | [], d, ws, h => by
    obtain ⟨y, r, rfl, iy, hr⟩ := h.cons_inv
    obtain rfl := hr.nil_inv
    exact ⟨[], y, rfl, .nil, iy⟩
  | x :: l, d, ws, h => by
    obtain ⟨y, r, rfl, iy, hr⟩ := ImAll.cons_inv (show ImAll K H ws (x :: (l ++ [d])) from h)
    obtain ⟨us, z, rfl, iu, iz⟩ := im_unsnoc hr
    exact ⟨y :: us, z, rfl, .cons iy iu, iz⟩
theorem im_len {K : PySem.W.Frag} {H : Hp} : ∀ {ws : List V} {l : List PyData}, ImAll K H ws l → ws.length = l.length
  | _, _, .nil => rfl
  | _, _, .cons _ r => by rw [List.length_cons, List.length_cons, im_len r]
theorem im_rev {K : PySem.W.Frag} {H : Hp} : ∀ {ws : List V} {l : List PyData}, ImAll K H ws l → ImAll K H ws.reverse l.reverse
  | _, _, .nil => .nil
  | _, _, .cons a r => by
    rw [List.reverse_cons, List.reverse_cons]
    exact (im_rev r).snoc a
theorem im_app {K : PySem.W.Frag} {H : Hp} : ∀ {us ws : List V} {l k : List PyData}, ImAll K H us l → ImAll K H ws k → ImAll K H (us ++ ws) (l ++ k)
  | _, _, _, _, .nil, h => h
  | _, _, _, _, .cons a r, h => .cons a (im_app r h)
theorem im_of_get {K : PySem.W.Frag} {H : Hp} : ∀ {ws : List V} {l : List PyData}, ws.length = l.length → (∀ (i : Nat) x d, ws[i]? = some x → l[i]? = some d → Im K H x d) → ImAll K H ws l
  | [], [], _, _ => .nil
  | x :: ws, d :: l, h, f => .cons (f 0 x d rfl rfl) (im_of_get (by simpa using h) fun i y e h1 h2 => f (i + 1) y e h1 h2)
  | [], _ :: _, h, _ => by simp at h
  | _ :: _, [], h, _ => by simp at h
/-- the pairs of a row's fields and entries -/
def prs (ks : List Kd) (m : Mk) (es : List Int) : List (Int × Int) := (m.2.map (placeOf (ks.map (·.1)))).zip es
theorem wd_prs {ks : List Kd} (ok : KindsOk ks) {m : Mk} {es : List Int} {W F : List (List PyData)} (hl : es.length = m.2.length) (hf : ∀ f ∈ m.2, f = "number" ∨ f ∈ ks.map (·.1)) (hF : ∀ (s : Nat) f e, m.2[s]? = some f → es[s]? = some e → f ≠ "number" → F.getD e.toNat [] = W.getD e.toNat []) :
    ∀ n, n ≤ m.2.length → wdL m.2 es F n = ((prs ks m es).take n).flatMap (wOf W)
  | 0, _ => by rw [List.take_zero]; rfl
  | n + 1, h => by
    have h1 := List.getElem?_eq_getElem (show n < m.2.length by omega)
    have h2 := List.getElem?_eq_getElem (show n < es.length by omega)
    have h3 : (prs ks m es)[n]? = some (placeOf (ks.map (·.1)) m.2[n], es[n]) := by
      unfold prs
      rw [List.getElem?_zip_eq_some, List.getElem?_map, h1]
      exact ⟨rfl, h2⟩
    have st : wdL m.2 es F (n + 1) = wdL m.2 es F n ++ (if m.2[n] = "number" then [.int es[n]] else F.getD es[n].toNat []) := partL_step h1 h2
    rw [st, wd_prs ok hl hf hF n (by omega), List.take_add_one, h3, List.flatMap_append]
    congr 1
    show _ = wOf W (placeOf (ks.map (·.1)) m.2[n], es[n]) ++ []
    rw [List.append_nil]
    have pn := place_num ok (hf _ (List.getElem_mem (h := show n < m.2.length by omega)))
    unfold wOf
    by_cases hn : m.2[n] = "number"
    · rw [if_pos hn, if_pos (of_decide_eq_true (by rw [pn]; exact decide_eq_true hn))]
    · rw [if_neg hn, if_neg (of_decide_eq_false (by rw [pn]; exact decide_eq_false hn)), hF n _ _ h1 h2 hn]
/-- the loop's invariant -/
def WInv (K : PySem.W.Frag) (H : Hp) (d a : Addr) (n : Nat) (M1 M2 : Addr) (N : Nat) (W : List (List PyData)) (m : Nat) (σ : L2.St) (Hx : Hp) : Prop :=
  ∃ (y5 y6 y7 y8 : Option V) (done : List PyData) (us ws : List V) (st : List (Int × Int)), σ = [some (.ref d), some (.ref a), some (.int (n : Nat)), some (.ref M1), some (.ref M2), y5, y6, y7, y8] ∧ Same H Hx ∧ Hx M1 = some (.lst us) ∧ ImAll K Hx us done ∧
    Hx M2 = some (.lst ws) ∧ ImAll K Hx ws (st.map pairD) ∧ (∀ p ∈ st, p.1 = -1 ∨ ∃ j : Nat, p.2 = j ∧ j < N) ∧ done ++ remW W st = W.getD n [] ∧ m = (remW W st).length
theorem rem_few {W : List (List PyData)} {N : Nat} (hW : ∀ j, j < N → 1 ≤ (W.getD j []).length) : ∀ {st : List (Int × Int)}, (∀ p ∈ st, p.1 = -1 ∨ ∃ j : Nat, p.2 = j ∧ j < N) → st.length ≤ (remW W st).length
  | [], _ => Nat.zero_le _
  | p :: st, h => by
    have ih := rem_few hW (st := st) fun x hx => h x (List.mem_cons_of_mem _ hx)
    unfold remW at ih ⊢
    rw [List.reverse_cons, List.flatMap_append, List.length_append, List.length_cons]
    have : 1 ≤ ([p].flatMap (wOf W)).length := by
      show 1 ≤ (wOf W p ++ []).length
      rw [List.append_nil]
      unfold wOf
      by_cases e : p.1 = -1
      · rw [if_pos e]; exact Nat.le_refl _
      · rw [if_neg e]
        obtain ⟨j, hj, hn⟩ := (h p (List.mem_cons_self ..)).resolve_left e
        rw [hj, Int.toNat_natCast]
        exact hW j hn
    omega
section
variable {P : Program} {w : World} {K : PySem.W.Frag} {mg : Str → Option Value} {base : Heap}
abbrev s_row_words : Stmt := topS 30
theorem sc_row_words : FnScope ["table", "rows", "at", "words", "left", "field", "entry", "maker", "entries"] ["table", "rows", "at"] (defScope s_row_words) := ⟨rfl, rfl, rfl, by decide +kernel, rfl, by decide +kernel, by decide +kernel⟩
def sr_told (K : PySem.W.Frag) : Sp := fun vs H Q _ => ∃ (d : Addr) (v : V) (ks : List Kd) (rows : List Rw) (n : Nat), vs = [.ref d, v, .int (n : Nat)] ∧ KindsOk ks ∧ TableAt K H d (rowsOf ks ks.length) ∧ Im K H v (rwsD rows) ∧ RowsR ks rows ∧ n < rows.length ∧ ((foldR (wdG ks) rows).getD n []).length ≤ 4000 ∧
  ∀ p us H', Same H H' → ITup K H' p us → ImAll K H' us ((foldR (wdG ks) rows).getD n []) → Q (.ref p) H'
set_option maxHeartbeats 1000000 in
theorem ok_row_words {f : Addr} {fd : FuncData} {k : Nat} (F : Fun K "row_words" "row_words" s_row_words f fd) (T : Tx K mg) : FnOk P w K mg base CX0 (k + 1) f fd ["table", "rows", "at"] (sr_told K) := by
  have nd := sc_row_words.nd
  refine F.ok sc_row_words (fun vs H Q E h => ?_) (fun cdv A outer s H vs Q E hr h => ?_)
  · obtain ⟨_, _, _, _, _, rfl, _⟩ := h
    rfl
  · obtain ⟨d, v, ks, rows, n, rfl, ok, tb, iv, ro, hn, h4, q⟩ := h
    obtain ⟨a, xs, rfl, ha, hx⟩ := iv.tuple_inv
    have lx : xs.length = rows.length := all_len hx
    have few := ro.few
    have Wget : ∀ {j : Nat} {r : Rw}, rows[j]? = some r → (foldR (wdG ks) rows).getD j [] = wdG ks r (foldR (wdG ks) (rows.take j)) := fun {j r} h => by
      have := foldR_get (g := wdG ks) h (List.getElem?_eq_some_iff.mp h).1 (Nat.le_refl _)
      rw [List.take_of_length_le (Nat.le_refl _)] at this
      rw [List.getD_eq_getElem?_getD, this]; rfl
    have Wpos : ∀ j, j < rows.length → 1 ≤ ((foldR (wdG ks) rows).getD j []).length := fun j hj => by
      rw [Wget (List.getElem?_eq_getElem hj)]
      show 1 ≤ _ + 1
      omega
    refine ⟨_, (pss_cons (ps_par (i := 3) (j := 4) (by rfl) nd rfl rfl (by decide) rfl rfl (pa_cons (pe_lst pa_nil) (pa_cons (pe_lst (pa_cons (pe_tup (pa_cons pe_int (pa_cons (pv 2) pa_nil))) pa_nil)) pa_nil)) (by rfl))
      (pss_cons (ps_while PassesOwn.never (pt_cmpR (kop_neNil K hr.units) (pv 4) (pe_lst pa_nil) (nomark _))
        (pss_cons (ps_asg (pe_bm0 PySem.F.plainAttrs_list PySem.F.slot_list_pop PySem.F.type_list_pop mt_pop (pv 4) ) (kpg_tup K (n := 2) rfl (pgs_cons (pg_name (i := 5) nd rfl (.inl rfl)) (pgs_cons (pg_name (i := 6) nd rfl (.inl rfl)) pgs_nil))))
        (pss_one (ps_if (pt_cmpR op_eq (pv 5) (pe_gv rfl T.g_NUMBER) (nomark _))
          (pss_one (ps_expr (pe_bm PySem.F.plainAttrs_list PySem.F.slot_list_append PySem.F.type_list_append mt_append (pv 3) (pa_cons (pv 6) pa_nil))))
          (pss_cons (ps_asg (pe_ix (kix_tup K) (pv 1) (pv 6) (fun _ _ => rfl)) (kpg_tup K (n := 2) rfl (pgs_cons (pg_name (i := 7) nd rfl (.inl rfl)) (pgs_cons (pg_name (i := 8) nd rfl (.inl rfl)) pgs_nil))))
          (pss_cons (ps_expr (pe_bm PySem.F.plainAttrs_list PySem.F.slot_list_append PySem.F.type_list_append mt_append (pv 3) (pa_cons (pv 7) pa_nil)))
          (pss_one (ps_expr (pe_bm PySem.F.plainAttrs_list PySem.F.slot_list_extend PySem.F.type_list_extend mt_extend (pv 4) (pa_cons (pe_revL (pe_listZip K rfl (by rfl) T.m_list (by rfl) T.m_zip (pa_cons (pe_ix (kix_tup K) (pe_dget (hu_of hr) (pv 0) (pv 7) (fun _ _ => rfl)) pe_int (fun _ _ => rfl)) (pa_cons (pv 8) pa_nil)))) pa_nil))))))))))
      (pss_one (ps_ret (pe_callTy (kcall_tuple K) (by rfl) T.m_tuple (by decide +kernel) (pa_cons (pv 3) pa_nil)))))), ?_⟩
    refine ⟨by show 0 ≤ sizeLine; decide, fun L1 hL1 => ⟨.int (n : Nat), rfl, by show 2 ≤ sizeLine; decide, fun T hT => ⟨by show 1 ≤ sizeLine; decide, fun L2 hL2 => ?_⟩⟩⟩
    have s1 := same_new (o := .lst []) hL1
    have e1 : (upd H L1 (.lst [])) L1 = some (.lst []) := upd_same
    generalize upd H L1 (.lst []) = H1 at *
    have s2 := same_new (o := .tup [.int 0, .int (n : Nat)]) hT
    have iT : Im K (upd H1 T (.tup [.int 0, .int (n : Nat)])) (.ref T) (pairD (0, (n : Nat))) := .tup (.inl upd_same) (.cons (.int _) (.cons (.int _) .nil))
    generalize upd H1 T (.tup [.int 0, .int (n : Nat)]) = H2 at *
    have s3 := same_new (o := .lst [.ref T]) hL2
    have e2 : (upd H2 L2 (.lst [.ref T])) L2 = some (.lst [.ref T]) := upd_same
    have e13 := s3 _ _ (s2 _ _ e1)
    have iT3 := Im.mono (tk_same s3) _ iT
    have n12 : L1 ≠ L2 := ne_of_none (s2 _ _ e1) hL2
    have sm0 := (s1.trans s2).trans s3
    have hL20 : H L2 = none := (s1.trans s2).free hL2
    generalize upd H2 L2 (.lst [.ref T]) = H3 at *
    refine ⟨_, _, rfl, WInv K H d a n L1 L2 rows.length (foldR (wdG ks) rows), ⟨_, _, _, _, _, [], [], [.ref T], [(0, (n : Nat))], rfl, sm0, e13, .nil, e2, .cons iT3 .nil, fun p hp => ?_, ?_, rfl⟩, fun m σ Hx z => ?_⟩
    · rw [List.mem_singleton.mp hp]
      exact .inr ⟨n, rfl, hn⟩
    · show [] ++ (wOf _ (0, (n : Nat)) ++ []) = _
      rw [List.append_nil, List.nil_append]
      unfold wOf
      rw [if_neg (show ¬ (0 : Int) = -1 by decide), Int.toNat_natCast]
    obtain ⟨y5, y6, y7, y8, done, us, ws, st, rfl, sm, eL1, iu, eL2, iw, hst, hd, hm⟩ := z
    refine ⟨.ref L2, rfl, by show 0 ≤ sizeLine; decide, fun Z hZ => ?_⟩
    have sZ := same_new (o := .lst []) hZ
    have eZ : (upd Hx Z (.lst [])) Z = some (.lst []) := upd_same
    have eL1 := sZ _ _ eL1
    have eL2 := sZ _ _ eL2
    have iu := ImAll.mono (tk_same sZ) _ iu
    have iw := ImAll.mono (tk_same sZ) _ iw
    have sm := sm.trans sZ
    refine ⟨L2, Z, _, rfl, rfl, .of eL2, .of eZ, _, rfl, ?_⟩
    clear eZ sZ
    generalize upd Hx Z (.lst []) = H4 at *
    have ldone : done.length + (remW (foldR (wdG ks) rows) st).length ≤ 4000 := by
      rw [← List.length_append, hd]; exact h4
    have lu : us.length = done.length := im_len iu
    have lst := rem_few Wpos hst
    rcases List.eq_nil_or_concat st with rfl | ⟨st', p, rfl⟩
    · obtain rfl := iw.nil_inv
      refine iteF ⟨.ref L1, rfl, L1, _, rfl, .inl ⟨.of eL1, fun l hl => ?_⟩⟩
      have sl := same_new (o := .tup us) hl
      refine q l us _ (sm.trans sl) (.inl upd_same) ?_
      rw [← hd, show remW (foldR (wdG ks) rows) [] = [] from rfl, List.append_nil]
      exact ImAll.mono (tk_same sl) _ iu
    · rw [List.concat_eq_append] at iw hst hd hm ldone lst
      rw [List.map_append] at iw
      obtain ⟨ws', y, rfl, iw', iy⟩ := im_unsnoc iw
      obtain ⟨pT, z1, z2, rfl, hpT, iz1, iz2⟩ := im_pair iy
      obtain rfl := iz1.int_inv
      obtain rfl := iz2.int_inv
      have lw' : ws'.length = st'.length := all_len iw'
      rw [show decide (ws' ++ [V.ref pT] = []) = false from decide_eq_false (by simp)]
      refine iteT ⟨fun σ' H' => ∃ m', m' < m ∧ WInv K H d a n L1 L2 rows.length (foldR (wdG ks) rows) m' σ' H', fun _ _ h => h, ?_⟩
      refine ⟨.ref L2, rfl, .inl ⟨rfl, _, .of eL2⟩, L2, _, .ref pT, rfl, rfl, eL2, by simp, ?_⟩
      rw [List.dropLast_concat]
      have tk := tk_lst (o := .lst ws') eL2
      have eL25 : (upd H4 L2 (.lst ws')) L2 = some (.lst ws') := upd_same
      have eL15 : (upd H4 L2 (.lst ws')) L1 = some (.lst us) := by rw [upd_ne n12]; exact eL1
      have sm5 : Same H (upd H4 L2 (.lst ws')) := fun b o e => by rw [upd_ne (ne_of_none e hL20)]; exact sm _ _ e
      have iu5 := ImAll.mono tk _ iu
      have iw5 := ImAll.mono tk _ iw'
      have hpT5 := hpT.mono tk
      refine ⟨pT, _, rfl, hpT5.sq, rfl, .int p.1, _, rfl, .int p.2, _, rfl, rfl, ?_⟩
      generalize upd H4 L2 (.lst ws') = H5 at *
      have lst' : ws'.length ≤ (remW (foldR (wdG ks) rows) st').length := by rw [lw']; exact rem_few Wpos fun x hx => hst x (List.mem_append_left _ hx)
      have hst' : ∀ p ∈ st', p.1 = -1 ∨ ∃ j : Nat, p.2 = j ∧ j < rows.length := fun x hx => hst x (List.mem_append_left _ hx)
      rw [remW_snoc] at hd hm ldone
      rw [List.length_append] at hm ldone lst
      refine ⟨.int p.1, rfl, rfl, _, rfl, ?_⟩
      rw [dec_le]
      by_cases h1 : p.1 = -1
      · rw [decide_eq_true h1]
        have ew : wOf (foldR (wdG ks) rows) p = [.int p.2] := by unfold wOf; rw [if_pos h1]
        rw [ew] at hd hm ldone
        have hm' : m = 1 + (remW (foldR (wdG ks) rows) st').length := hm
        have ld' : done.length + (1 + (remW (foldR (wdG ks) rows) st').length) ≤ 4000 := ldone
        have tk6 := tk_lst (o := .lst (us ++ [.int p.2])) eL15
        refine iteT ⟨.ref L1, rfl, .inl ⟨rfl, _, .of eL15⟩, .int p.2, rfl, L1, us, .int p.2, rfl, rfl, eL15, Nat.lt_of_le_of_lt (show us.length ≤ 4000 by omega) (by decide), _, ?_, _, _, _, _, done ++ [.int p.2], us ++ [.int p.2], ws', st', rfl, fun b o e => ?_, upd_same, (ImAll.mono tk6 _ iu5).snoc (.int _), ?_, ImAll.mono tk6 _ iw5, hst', ?_, rfl⟩
        · omega
        · rw [upd_ne (ne_of_none e hL1)]; exact sm5 _ _ e
        · rw [upd_ne n12.symm]; exact eL25
        · rw [List.append_assoc]; exact hd
      · rw [decide_eq_false h1]
        obtain ⟨j, hj, hjN⟩ := (hst p (List.mem_append_right _ (List.mem_singleton.mpr rfl))).resolve_left h1
        obtain ⟨r, hr'⟩ : ∃ r, rows[j]? = some r := ⟨_, List.getElem?_eq_getElem hjN⟩
        obtain ⟨i, jj, kd, mk, R⟩ := ro.each j r hr'
        have ew : wOf (foldR (wdG ks) rows) p = wdG ks r (foldR (wdG ks) (rows.take j)) := by
          unfold wOf
          rw [if_neg h1, hj, Int.toNat_natCast, Wget hr']
        have kmem := List.mem_of_getElem? R.at'.hk
        have mmem := List.mem_of_getElem? R.at'.hm
        have l4 := (ok.mkk _ kmem _ mmem).2
        have ew3 : wdL mk.2 r.2 (foldR (wdG ks) (rows.take j)) mk.2.length = (prs ks mk r.2).flatMap (wOf (foldR (wdG ks) rows)) := by
          have := wd_prs (W := foldR (wdG ks) rows) (F := foldR (wdG ks) (rows.take j)) ok R.len (ok.flds _ kmem _ mmem) (fun s f e hf he hn' => by
            obtain ⟨z, rfl, hz⟩ := R.ents s f e hf he hn'
            obtain ⟨rz, hrz⟩ : ∃ rz, rows[z]? = some rz := ⟨_, List.getElem?_eq_getElem (by omega)⟩
            rw [Int.toNat_natCast, Wget hrz, List.getD_eq_getElem?_getD, foldR_get (g := wdG ks) hrz hz (by omega)]; rfl) _ (Nat.le_refl _)
          rwa [List.take_of_length_le (l := prs ks mk r.2) (by
            unfold prs
            rw [List.length_zip, List.length_map]; omega)] at this
        have ew2 : wdG ks r (foldR (wdG ks) (rows.take j)) = .str r.1 :: (prs ks mk r.2).flatMap (wOf (foldR (wdG ks) rows)) := by
          show PyData.str r.1 :: wdL (fl ks r) r.2 _ (fl ks r).length = _
          rw [R.fls, ew3]
        rw [ew, ew2] at hd hm ldone
        rw [List.length_cons] at hm ldone
        obtain ⟨x, ex, ix⟩ := all_at (ImAll.mono (tk_same sm5) _ hx) hr'
        obtain ⟨pr, u1, u2, rfl, hpr, iu1, iu2⟩ := im_pair ix
        obtain rfl := iu1.str_inv
        obtain ⟨pe, es, rfl, hpe, hes⟩ := iu2.tuple_inv
        obtain rfl := im_intsN hes
        refine iteF ⟨.ref a, rfl, .int p.2, rfl, a, xs, _, .ref pr, rfl, rfl, (ha.mono (tk_same sm5)).sq, by rw [hj]; exact atI_nat ex, pr, _, rfl, hpr.sq, rfl, .str r.1, _, rfl, .ref pe, _, rfl, rfl, ?_⟩
        have tk6 := tk_lst (o := .lst (us ++ [.str r.1])) eL15
        refine ⟨.ref L1, rfl, .inl ⟨rfl, _, .of eL15⟩, .str r.1, rfl, L1, us, .str r.1, rfl, rfl, eL15, Nat.lt_of_le_of_lt (show us.length ≤ 4000 by omega) (by decide), ?_⟩
        have eL16 : (upd H5 L1 (.lst (us ++ [.str r.1]))) L1 = some (.lst (us ++ [.str r.1])) := upd_same
        have eL26 : (upd H5 L1 (.lst (us ++ [.str r.1]))) L2 = some (.lst ws') := by rw [upd_ne n12.symm]; exact eL25
        have sm6 : Same H (upd H5 L1 (.lst (us ++ [.str r.1]))) := fun b o e => by rw [upd_ne (ne_of_none e hL1)]; exact sm5 _ _ e
        have iu6 := (ImAll.mono tk6 _ iu5).snoc (.str r.1)
        have iw6 := ImAll.mono tk6 _ iw5
        have hpe6 := hpe.mono tk6
        generalize upd H5 L1 (.lst (us ++ [.str r.1])) = H6 at *
        obtain ⟨vr, gr, irr⟩ := tb_getN (tb.same sm6) ok R.at'
        obtain ⟨qr, r1, r2, r3, rfl, hqr, ir1, ir22, ir3⟩ := im_trip irr
        have ir3' : Im K H6 r3 (.tuple ((mk.2.map (placeOf (ks.map (·.1)))).map .int)) := ir3
        obtain ⟨pf, fs, rfl, hpf, hfs⟩ := ir3'.tuple_inv
        obtain rfl := im_intsN hfs
        have lr := R.len
        refine ⟨.ref L2, rfl, .inl ⟨rfl, _, .of eL26⟩, .ref d, rfl, .str r.1, rfl, d, _, rfl, gr, qr, _, 2, _, rfl, rfl, hqr.sq, atI_nat (j := 2) rfl, .ref pe, rfl, pf, pe, _, _, rfl, hpf.sq, hpe6.sq, by simp only [List.length_map]; omega, fun H7 pl ts sm7 hpl hts lts epl off each => ?_⟩
        have lp : (prs ks mk r.2).length = mk.2.length := by unfold prs; rw [List.length_zip, List.length_map]; omega
        rw [show ((mk.2.map (placeOf (ks.map (·.1)))).map V.int).length = mk.2.length by simp only [List.length_map]] at lts
        have it : ImAll K H7 (ts.map V.ref) ((prs ks mk r.2).map pairD) := im_of_get (by rw [List.length_map, List.length_map, lts, lp]) fun i x dd h1 h2 => by
          rw [List.getElem?_map] at h1 h2
          obtain ⟨t1, ht1, rfl⟩ := Option.map_eq_some_iff.mp h1
          obtain ⟨pp, hpp, rfl⟩ := Option.map_eq_some_iff.mp h2
          obtain ⟨g1, g2⟩ := List.getElem?_zip_eq_some.mp (show (List.zip _ _)[i]? = some (pp.1, pp.2) from hpp)
          obtain ⟨t2, ht2, e2⟩ := each i (.int pp.1) (.int pp.2) (by rw [List.getElem?_map, g1]; rfl) (by rw [List.getElem?_map, g2]; rfl)
          rw [ht1] at ht2
          obtain rfl := Option.some.inj ht2
          exact .tup (.inl e2) (.cons (.int _) (.cons (.int _) .nil))
        have eL27 := sm7 _ _ eL26
        have eL17 := sm7 _ _ eL16
        refine ⟨pl, _, rfl, .of epl, fun p2 hp2 => ?_⟩
        have s8 := same_new (o := .lst (ts.map V.ref).reverse) hp2
        have e28 := s8 _ _ eL27
        have tk9 := tk_lst (o := .lst (ws' ++ (ts.map V.ref).reverse)) e28
        have tk69 : TK H6 (upd (upd H7 p2 (.lst (ts.map V.ref).reverse)) L2 (.lst (ws' ++ (ts.map V.ref).reverse))) := ((tk_same sm7).trans (tk_same s8)).trans tk9
        refine ⟨L2, p2, ws', (ts.map V.ref).reverse, rfl, rfl, e28, upd_same, ?_, _, ?_, _, _, _, _, done ++ [.str r.1], us ++ [.str r.1], _, st' ++ (prs ks mk r.2).reverse, rfl, fun b o e => ?_, ?_, ImAll.mono tk69 _ iu6, upd_same, ?_, fun x hx => ?_, ?_, rfl⟩
        · rw [List.length_reverse, List.length_map, lts]
          exact Nat.le_trans (show _ ≤ 4010 by omega) (by decide)
        · rw [remW_ext, List.length_append]; omega
        · rw [upd_ne (ne_of_none e hL20)]
          exact s8 _ _ (sm7 _ _ (sm6 _ _ e))
        · rw [upd_ne n12]; exact s8 _ _ eL17
        · rw [List.map_append, List.map_reverse]
          exact im_app (ImAll.mono tk69 _ iw6) (im_rev (ImAll.mono ((tk_same s8).trans tk9) _ it))
        · rcases List.mem_append.mp hx with hx | hx
          · exact hst' x hx
          · obtain ⟨i, hi⟩ := List.getElem?_of_mem (List.mem_reverse.mp hx)
            obtain ⟨g1, g2⟩ := List.getElem?_zip_eq_some.mp (show (List.zip _ _)[i]? = some (x.1, x.2) from hi)
            rw [List.getElem?_map] at g1
            obtain ⟨f, hf, ef⟩ := Option.map_eq_some_iff.mp g1
            have pn := place_num ok (ok.flds _ kmem _ mmem f (List.mem_of_getElem? hf))
            by_cases hnum : f = "number"
            · exact .inl (by rw [← ef]; exact of_decide_eq_true (by rw [pn]; exact decide_eq_true hnum))
            · obtain ⟨z, hz, hzj⟩ := R.ents i f x.2 hf g2 hnum
              exact .inr ⟨z, hz, by omega⟩
        · rw [remW_ext, List.append_assoc]; exact hd
abbrev s_sizes : Stmt := topS 28
theorem sc_sizes : FnScope ["kinds", "rows"] ["kinds", "rows"] (defScope s_sizes) := ⟨rfl, rfl, rfl, by decide +kernel, rfl, by decide +kernel, by decide +kernel⟩
def sr_sizes (K : PySem.W.Frag) (er : Er) : Sp := fun vs H Q E => ∃ (S : Addr → Prop) (v u : V) (ks : List Kd) (e : PyData), vs = [v, u] ∧ Im K H v (ksD ks) ∧ KindsOk ks ∧ Od K S H u e ∧
  (∀ rows, e = rwsD rows → RowsR ks rows → jRows ks e = true → ∀ p H', Same H H' → ITup K H' p ((foldR (szG ks) rows).map V.int) → Q (.ref p) H') ∧ (jRows ks e = false → ∀ H', Same H H' → E (.ref er.r) none H')
theorem noL_rw (rows : List Rw) : noL (rwsD rows) = true := by
  have h1 : ∀ ns : List Int, noLs (ns.map .int) = true := fun ns => by
    induction ns with
    | nil => rfl
    | cons n ns ih =>
      show (true && noLs (ns.map .int)) = true
      rw [ih]; rfl
  show noLs (rows.map rwD) = true
  induction rows with
  | nil => rfl
  | cons r rows ih =>
    show ((true && (noLs (r.2.map .int) && true)) && noLs (rows.map rwD)) = true
    rw [h1, ih]; rfl
theorem ok_sizes {f : Addr} {fd : FuncData} {k : Nat} (F : Fun K "sizes" "sizes" s_sizes f fd) (T : Tx K mg){er : Er} (TE : Tr K mg er) {k1 : Nat} (D_need_kinds : Def P w K mg base k1 "need_kinds" s_need_kinds ["kinds"] (sr_kinds K)) {k2 : Nat} (D_need_rows : DefX P w K mg base k2 "need_rows" s_need_rows ["kinds", "rows"] (sr_need K er)) {k3 : Nat} (D_row_sizes : Def P w K mg base k3 "row_sizes" s_row_sizes ["table", "rows"] (sr_sz K szG)) {k4 : Nat} (D_maker_table : Def P w K mg base k4 "maker_table" s_maker_table ["kinds"] (sp_maker_table K)) (e1 : k1 ≤ k) (e2 : k2 ≤ k) (e3 : k3 ≤ k) (e4 : k4 ≤ k) : FnOk P w K mg base (L2.CX P w) (k + 1) f fd ["kinds", "rows"] (sr_sizes K er) := by
  have nd := sc_sizes.nd
  refine F.okX sc_sizes (fun vs H Q E h => ?_) (fun cdv A outer s H vs Q E hr h => ?_)
  · obtain ⟨_, _, _, _, _, rfl, _⟩ := h
    rfl
  · obtain ⟨S, v, u, ks, e, rfl, iv, ok, od, q1, q2⟩ := h
    refine ⟨_, (pss_cons (ps_expr (pe_def D_need_kinds (hr.mono (by omega)) rfl (pa_cons (pv 0) pa_nil)))
      (pss_cons (ps_expr (pe_defX D_need_rows (takes_of rfl rfl rfl rfl) (hr.mono (by omega)) rfl (pa_cons (pv 0) (pa_cons (pv 1) pa_nil))))
      (pss_one (ps_ret (pe_callTy (kcall_tuple K) (by rfl) T.m_tuple (by decide +kernel) (pa_cons (pe_def D_row_sizes (hr.mono (by omega)) rfl (pa_cons (pe_def D_maker_table (hr.mono (by omega)) rfl (pa_cons (pv 0) pa_nil)) (pa_cons (pv 1) pa_nil))) pa_nil)))))), ?_⟩
    refine ⟨v, rfl, v, ks, rfl, iv, ok, fun H1 s1 => ⟨v, rfl, u, rfl, S, v, u, ks, e, rfl, Im.mono (tk_same s1) _ iv, ok, od.mono (fo_same s1), fun hj H2 s2 => ?_, fun hj H2 s2 => q2 hj H2 (s1.trans s2)⟩⟩
    obtain ⟨rows, rfl, ro⟩ := rows_j hj
    have s12 := s1.trans s2
    have iu : Im K H2 u (rwsD rows) := Od.im _ (noL_rw rows) (od.mono (fo_same s12))
    refine ⟨v, rfl, v, ks, rfl, Im.mono (tk_same s12) _ iv, ok, fun t H3 s3 _ tb => ⟨u, rfl, t, u, ks, rows, rfl, ok, tb, Im.mono (tk_same s3) _ iu, ro, fun L H4 s4 hL eL => ⟨L, _, rfl, .inl ⟨.of eL, fun l hl => q1 rows rfl ro hj l _ (((s12.trans s3).trans s4).trans (same_new hl)) (.inl upd_same)⟩⟩⟩⟩
abbrev s_words_of : Stmt := topS 31
theorem sc_words_of : FnScope ["kinds", "rows", "table"] ["kinds", "rows"] (defScope s_words_of) := ⟨rfl, rfl, rfl, by decide +kernel, rfl, by decide +kernel, by decide +kernel⟩
def sr_wordsof (K : PySem.W.Frag) (er : Er) : Sp := fun vs H Q E => ∃ (S : Addr → Prop) (v u : V) (ks : List Kd) (e : PyData), vs = [v, u] ∧ Im K H v (ksD ks) ∧ KindsOk ks ∧ Od K S H u e ∧
  (∀ rows, e = rwsD rows → RowsR ks rows → jRows ks e = true → (4000 < ((foldR (wdG ks) rows).getD (rows.length - 1) []).length → ∀ H', Same H H' → Q .non H') ∧ (((foldR (wdG ks) rows).getD (rows.length - 1) []).length ≤ 4000 → ∀ p us H', Same H H' → ITup K H' p us → ImAll K H' us ((foldR (wdG ks) rows).getD (rows.length - 1) []) → Q (.ref p) H')) ∧ (jRows ks e = false → ∀ H', Same H H' → E (.ref er.r) none H')
theorem ok_words_of {f : Addr} {fd : FuncData} {k : Nat} (F : Fun K "words_of" "words_of" s_words_of f fd) (T : Tx K mg){er : Er} (TE : Tr K mg er) {k1 : Nat} (D_need_kinds : Def P w K mg base k1 "need_kinds" s_need_kinds ["kinds"] (sr_kinds K)) {k2 : Nat} (D_need_rows : DefX P w K mg base k2 "need_rows" s_need_rows ["kinds", "rows"] (sr_need K er)) {k3 : Nat} (D_word_counts : Def P w K mg base k3 "word_counts" s_word_counts ["table", "rows"] (sr_sz K cnG)) {k4 : Nat} (D_maker_table : Def P w K mg base k4 "maker_table" s_maker_table ["kinds"] (sp_maker_table K)) {k5 : Nat} (D_row_words : Def P w K mg base k5 "row_words" s_row_words ["table", "rows", "at"] (sr_told K)) (e1 : k1 ≤ k) (e2 : k2 ≤ k) (e3 : k3 ≤ k) (e4 : k4 ≤ k) (e5 : k5 ≤ k) : FnOk P w K mg base (L2.CX P w) (k + 1) f fd ["kinds", "rows"] (sr_wordsof K er) := by
  have nd := sc_words_of.nd
  refine F.okX sc_words_of (fun vs H Q E h => ?_) (fun cdv A outer s H vs Q E hr h => ?_)
  · obtain ⟨_, _, _, _, _, rfl, _⟩ := h
    rfl
  · obtain ⟨S, v, u, ks, e, rfl, iv, ok, od, q1, q2⟩ := h
    refine ⟨_, (pss_cons (ps_expr (pe_def D_need_kinds (hr.mono (by omega)) rfl (pa_cons (pv 0) pa_nil)))
      (pss_cons (ps_expr (pe_defX D_need_rows (takes_of rfl rfl rfl rfl) (hr.mono (by omega)) rfl (pa_cons (pv 0) (pa_cons (pv 1) pa_nil))))
      (pss_cons (ps_set (i := 2) nd rfl (.inl rfl) (pe_def D_maker_table (hr.mono (by omega)) rfl (pa_cons (pv 0) pa_nil)))
      (pss_cons (ps_if (pt_cmpR op_gt (pe_ix (kix_list K) (pe_def D_word_counts (hr.mono (by omega)) rfl (pa_cons (pv 2) (pa_cons (pv 1) pa_nil))) (pe_un un_neg pe_int) (fun _ _ => rfl)) (pe_gv rfl T.g_MOST_TOLD) (nomark _))
        (pss_one (ps_ret pe_non))
        pss_nil)
      (pss_one (ps_ret (pe_def D_row_words (hr.mono (by omega)) rfl (pa_cons (pv 2) (pa_cons (pv 1) (pa_cons (pe_op op_sub (pe_callB (kcall_len K) (by rfl) T.m_len PySem.boot_len (pa_cons (pv 1) pa_nil)) pe_int) pa_nil)))))))))), ?_⟩
    refine ⟨v, rfl, v, ks, rfl, iv, ok, fun H1 s1 => ⟨v, rfl, u, rfl, S, v, u, ks, e, rfl, Im.mono (tk_same s1) _ iv, ok, od.mono (fo_same s1), fun hj H2 s2 => ?_, fun hj H2 s2 => q2 hj H2 (s1.trans s2)⟩⟩
    obtain ⟨rows, rfl, ro⟩ := rows_j hj
    obtain ⟨q3, q4⟩ := q1 rows rfl ro hj
    have s12 := s1.trans s2
    have few := ro.few
    have iu : Im K H2 u (rwsD rows) := Od.im _ (noL_rw rows) (od.mono (fo_same s12))
    obtain ⟨a, xs, rfl, ha, hx⟩ := iu.tuple_inv
    have lx : xs.length = rows.length := all_len hx
    have ecn := cn_wd ks rows rows.length (Nat.le_refl _)
    rw [List.take_of_length_le (Nat.le_refl _)] at ecn
    have lcn := foldR_len (g := wdG ks) rows.length (rows := rows) (Nat.le_refl _)
    rw [List.take_of_length_le (Nat.le_refl _)] at lcn
    have ewl : (foldR (wdG ks) rows)[rows.length - 1]? = some ((foldR (wdG ks) rows).getD (rows.length - 1) []) := by
      rw [List.getD_eq_getElem?_getD, List.getElem?_eq_getElem (by omega)]; rfl
    refine ⟨v, rfl, v, ks, rfl, Im.mono (tk_same s12) _ iv, ok, fun t H3 s3 _ tb => ?_⟩
    have iu3 := Im.mono (tk_same s3) _ iu
    refine ⟨.ref t, rfl, .ref a, rfl, t, .ref a, ks, rows, rfl, ok, tb, .tup (ha.mono (tk_same s3)) (ImAll.mono (tk_same s3) _ hx), ro, fun L H4 s4 hL eL => ?_⟩
    have s14 := (s12.trans s3).trans s4
    generalize hw : (foldR (wdG ks) rows).getD (rows.length - 1) [] = ww at *
    refine ⟨_, rfl, L, _, _, .int (ww.length : Nat), rfl, rfl, .of eL, ?_, _, _, rfl, rfl, _, rfl, ?_⟩
    · rw [ecn]
      rcases List.eq_nil_or_concat (foldR (wdG ks) rows) with e0 | ⟨F0, w0, e0⟩
      · rw [e0] at lcn
        have lcn' : 0 = rows.length := lcn
        omega
      · rw [List.concat_eq_append] at e0
        rw [e0] at lcn ewl ⊢
        rw [List.length_append] at lcn
        have lcn' : F0.length + 1 = rows.length := lcn
        rw [List.getElem?_append_right (by omega), show rows.length - 1 - F0.length = 0 by omega] at ewl
        have ew0 : w0 = ww := Option.some.inj ewl
        rw [List.map_append, List.map_append, ew0]
        exact atI_last _ _
    by_cases h4 : 4000 < ww.length
    · rw [decide_eq_true (by omega)]
      exact iteT (q3 h4 _ s14)
    · rw [decide_eq_false (by omega)]
      have ha4 := ha.mono (tk_same (s3.trans s4))
      refine iteF ⟨.ref t, rfl, .ref a, rfl, .ref a, rfl, a, xs, rfl, .inr ha4.sq, _, _, rfl, rfl, t, .ref a, ks, rows, rows.length - 1, by rw [lx]; show [V.ref t, V.ref a, V.int (((rows.length : Nat) : Int) - 1)] = _; rw [show ((rows.length : Nat) : Int) - 1 = ((rows.length - 1 : Nat) : Int) by omega], ok, tb.same s4, .tup ha4 (ImAll.mono (tk_same (s3.trans s4)) _ hx), ro, by omega, by rw [hw]; omega, fun p us H5 s5 hp hu => q4 (by omega) p us H5 (s14.trans s5) hp (by rw [← hw]; exact hu)⟩
end
end K63

set_option Elab.async false
set_option linter.all false
set_option maxRecDepth 100000
set_option exponentiation.threshold 20000
set_option pp.deepTerms false
set_option pp.deepTerms.threshold 8
namespace K63
open PySem PySem.Spec PyProof.Rows L2 Ly Mt
/-! ### _law_name -/
section
variable {P : Program} {w : World} {K : PySem.W.Frag} {mg : Str → Option Value} {base : Heap}
/-- a letter and a numeral -/
def numed (h k : Nat) : Str := ⟨#[h]⟩ ++ ((toString ((k : Nat) : Int) : String) : Str)
theorem app_left {x y z : Str} (h : x ++ y = x ++ z) : y = z := by
  have h1 := congrArg (fun s : Str => s.cps.toList) h
  simp only [ltl] at h1
  have h2 := List.append_cancel_left h1
  cases y; cases z
  simpa using h2
theorem pigeon : ∀ {l ts : List Str}, l.Nodup → (∀ x ∈ l, x ∈ ts) → l.length ≤ ts.length
  | [], _, _, _ => Nat.zero_le _
  | a :: l, ts, nd, h => by
    have ha := h a (List.mem_cons_self ..)
    rw [List.nodup_cons] at nd
    have := pigeon (l := l) (ts := ts.erase a) nd.2 fun x hx => (List.mem_erase_of_ne (fun e => nd.1 (by rw [← e]; exact hx))).mpr (h x (List.mem_cons_of_mem _ hx))
    rw [List.length_erase_of_mem ha] at this
    have : 0 < ts.length := List.length_pos_of_mem ha
    rw [List.length_cons]
    omega
theorem numed_first (h : Nat) (ts : List Str) (l : ts.length ≤ 300) : ∃ k, k < 400 ∧ numed h k ∉ ts ∧ ((List.range 400).filter fun k => decide (numed h k ∉ ts))[0]? = some k := by
  cases e : ((List.range 400).filter fun k => decide (numed h k ∉ ts)) with
  | nil =>
    exfalso
    have all : ∀ k, k < 400 → numed h k ∈ ts := fun k hk => by
      have := List.filter_eq_nil_iff.mp e k (List.mem_range.mpr hk)
      simpa using this
    have nd : ((List.range 400).map (numed h)).Nodup := by
      refine List.pairwise_map.mpr (List.Pairwise.imp_of_mem ?_ (List.nodup_range (n := 400)))
      intro a b ha hb hab he
      have h1 := app_left he
      have h2 := congrArg valS h1
      rw [num_val a (List.mem_range.mp ha), num_val b (List.mem_range.mp hb)] at h2
      exact hab h2
    have := pigeon nd fun x hx => by
      obtain ⟨k, hk, rfl⟩ := List.mem_map.mp hx
      exact all k (List.mem_range.mp hk)
    rw [List.length_map, List.length_range] at this
    omega
  | cons k r =>
    have hk : k ∈ ((List.range 400).filter fun k => decide (numed h k ∉ ts)) := by rw [e]; exact List.mem_cons_self ..
    rw [List.mem_filter, List.mem_range, decide_eq_true_iff] at hk
    exact ⟨k, hk.1, hk.2, rfl⟩
theorem numed_ok {h k : Nat} (hh : lowC h = true ∨ highC h = true) (hk : k < 400) : NameOk (numed h k) := by
  obtain ⟨na, nl, c, hc, dc⟩ := num_al k hk
  have mem : c ∈ (numed h k).cps.toList := mem_cat.mpr (.inr hc)
  have no : ∀ z : Str, (∀ c ∈ z.cps.toList, digC c = false) → numed h k ≠ z := fun z hz e => by
    have := hz c (by rw [← e]; exact mem)
    rw [dc] at this; cases this
  exact name_of hh nl na (no _ kw_dig.1) (no _ kw_dig.2.1) (no _ kw_dig.2.2)
theorem iteT' {b : Bool} {p q : Prop} (e : b = true) (h : p) : if b = true then p else q := by rw [if_pos e]; exact h
theorem iteF' {b : Bool} {p q : Prop} (e : b = false) (h : q) : if b = true then p else q := by rw [if_neg (by rw [e]; exact Bool.false_ne_true)]; exact h
/-- a name like asked for -/
structure Nm (hi : Bool) (ts : List Str) (z : Str) : Prop where
  ok : NameOk z
  new : z ∉ ts
  head : ∃ a, z.cps[0]? = some a ∧ (if hi = true then highC a else lowC a) = true

theorem sum_ones : ∀ cs : List Nat, ((cs.map fun a => (⟨#[a]⟩ : Str)).map (·.length)).sum = cs.length
  | [] => rfl
  | a :: r => by
    rw [List.map_cons, List.map_cons, List.sum_cons, sum_ones r, List.length_cons]
    show 1 + _ = _
    omega
abbrev rAddS' : R2 := fun x y H Q => ∃ i j, x = .str i ∧ y = .str j ∧ i.length + j.length ≤ sizeLine ∧ Q (.str (i ++ j)) H
abbrev rStrI : List V → Hp → VK → Prop := fun xs H Q => ∃ i : Int, xs = [.int i] ∧ i.natAbs.log2 < 1920 ∧ Q (.str (toString i)) H
theorem inV_strs' (z : Str) (ys : List Str) : inV (V.str z) (ys.map V.str) = decide (z ∈ ys) := inV_strs z ys
theorem strs_flat : ∀ ys : List Str, (ys.map V.str).all flatV = true
  | [] => rfl
  | _ :: r => by show (true && (r.map V.str).all flatV) = true; rw [strs_flat r]; rfl
abbrev s__law_name : Stmt := topS 35
theorem sc__law_name : FnScope ["well", "taken", "high", "low", "signs", "head", "body", "old", "at", "found", "k"] ["well", "taken", "high"] (defScope s__law_name) := ⟨rfl, rfl, rfl, by decide +kernel, rfl, by decide +kernel, by decide +kernel⟩
def sp_lname (K : PySem.W.Frag) : Sp := fun vs H Q _ => ∃ (c l t : Addr) (n : Nat) (hi : Bool) (ts : List Str), vs = [.ref c, .ref t, .bl hi] ∧ Wel H c l n ∧ n < 2 ^ 59 ∧ t ≠ l ∧ H t = some (.lst (ts.map V.str)) ∧ ts.length ≤ 300 ∧ (∀ z ∈ ts, NameOk z) ∧ ∀ z H', Nm hi ts z → Wel H' c l (n + 20) → But2 c l H H' → Q (.str z) H'
set_option maxHeartbeats 2000000 in
theorem ok__law_name {f : Addr} {fd : FuncData} {k : Nat} (F : Fun K "_law_name" "_law_name" s__law_name f fd) (T : Tx K mg){k1 : Nat} (D__law_draw : Def P w K mg base k1 "_law_draw" s__law_draw ["well", "many"] sp_draw) (e1 : k1 ≤ k) : FnOk P w K mg base CX0 (k + 1) f fd ["well", "taken", "high"] (sp_lname K) := by
  have nd := sc__law_name.nd
  refine F.ok sc__law_name (fun vs H Q E h => ?_) (fun cdv A outer s H vs Q E hr h => ?_)
  · obtain ⟨_, _, _, _, _, _, rfl, _⟩ := h
    rfl
  · obtain ⟨c, l, t, n, hi, ts, rfl, u, n59, ntl, et, l300, okt, q⟩ := h
    have ntc : t ≠ c := fun z => by
      obtain ⟨xs, st, cn, h1, _⟩ := u.ex
      rw [z, h1] at et
      cases ts with
      | nil => cases et
      | cons a b =>
        have := Option.some.inj et
        cases this
    refine ⟨_, (pss_cons (ps_set (i := 3) nd rfl (.inl rfl) pe_str)
      (pss_cons (ps_set (i := 4) nd rfl (.inr rfl) (pe_op op_add_str (pe_op op_add_str (pv 3) (lpe_bm0 K PySem.F.plainAttrs_str PySem.F.slot_str_upper PySem.F.type_str_upper mt_upper (pv 3))) pe_str))
      (pss_cons (ps_set (i := 5) nd rfl (.inr rfl) (pe_ix ix_str (pv 3) (pe_def D__law_draw (hr.mono (by omega)) rfl (pa_cons (pv 0) (pa_cons pe_int pa_nil))) (fun _ _ => rfl)))
      (pss_cons (ps_set (i := 6) nd rfl (.inl rfl) (pe_bm PySem.F.plainAttrs_str PySem.F.slot_str_join PySem.F.type_str_join mt_join pe_str (pa_cons (pe_lc (own := [("k", 10)]) (g := gName 10) (tt := tYes) rfl nd (pi_range1 rfl T.m_range (pa_cons (pe_def D__law_draw (hr.mono (by omega)) rfl (pa_cons (pv 0) (pa_cons (pe_ix (kix_list K) (pe_lst (pa_cons pe_int (pa_cons pe_int (pa_cons pe_int pa_nil)))) (pe_def D__law_draw (hr.mono (by omega)) rfl (pa_cons (pv 0) (pa_cons pe_int pa_nil))) (fun _ _ => rfl)) pa_nil))) pa_nil)) (blkOk_by (by rfl)) (fun _ _ _ _ _ => (pg_name (i := 10) nd rfl (.inl rfl))) (fun _ _ _ _ _ => pts_nil) (fun _ _ _ _ _ => (pe_ix ix_str (pv 4) (pe_def D__law_draw (hr.mono (by omega)) rfl (pa_cons (pv 0) (pa_cons pe_int pa_nil))) (fun _ _ => rfl)))) pa_nil)))
      (C8.pss_cut (ps_if (PW.pt (pw_and (pt_cmpR (kop_neNil K hr.units) (pv 1) (pe_lst pa_nil) (nomark _)) (pw_and1 (pt_cmpR op_eq (pe_def D__law_draw (hr.mono (by omega)) rfl (pa_cons (pv 0) (pa_cons pe_int pa_nil))) pe_int (nomark _)))))
        (pss_cons (ps_set (i := 7) nd rfl (.inl rfl) (pe_ix (kix_list K) (pv 1) (pe_def D__law_draw (hr.mono (by omega)) rfl (pa_cons (pv 0) (pa_cons (pe_callB (kcall_len K) (by rfl) T.m_len PySem.boot_len (pa_cons (pv 1) pa_nil)) pa_nil))) (fun _ _ => rfl)))
        (pss_cons (ps_set (i := 8) nd rfl (.inl rfl) (pe_op op_add pe_int (pe_def D__law_draw (hr.mono (by omega)) rfl (pa_cons (pv 0) (pa_cons (pe_callB call_len_str (by rfl) T.m_len PySem.boot_len (pa_cons (pv 7) pa_nil)) pa_nil)))))
        (pss_cons (ps_set (i := 5) nd rfl (.inr rfl) (lpe_bm0 K PySem.F.plainAttrs_str PySem.F.slot_str_lower PySem.F.type_str_lower mt_lower (pe_ix ix_str (pv 7) pe_int (fun _ _ => rfl))))
        (pss_one (ps_set (i := 6) nd rfl (.inl rfl) (pe_slice sl_str (pe_op op_add_str (pe_op op_add_str (pe_slice sl_str (pv 7) po_none (po_some (pv 8))) (pe_ix (kix_list K) (pe_lst (pa_cons pe_str (pa_cons (pe_ix ix_str (pv 4) (pe_def D__law_draw (hr.mono (by omega)) rfl (pa_cons (pv 0) (pa_cons pe_int pa_nil))) (fun _ _ => rfl)) pa_nil))) (pe_def D__law_draw (hr.mono (by omega)) rfl (pa_cons (pv 0) (pa_cons pe_int pa_nil))) (fun _ _ => rfl))) (pe_slice sl_str (pv 7) (po_some (pe_op op_add (pv 8) (pe_def D__law_draw (hr.mono (by omega)) rfl (pa_cons (pv 0) (pa_cons pe_int pa_nil))))) po_none)) (po_some pe_int) (po_some pe_int)))))))
        pss_nil)
      (C8.pss_cut (ps_if (pt_val (pv 2))
        (pss_one (ps_set (i := 5) nd rfl (.inr rfl) (lpe_bm0 K PySem.F.plainAttrs_str PySem.F.slot_str_upper PySem.F.type_str_upper mt_upper (pv 5))))
        pss_nil)
      (pss_cons (ps_set (i := 9) nd rfl (.inl rfl) (pe_op op_add_str (pv 5) (pv 6)))
      (pss_cons (ps_if (PW.pt (pw_or (pt_cmpR (kop_inS K) (pv 9) (pv 1) (by rfl)) (pw_or1 (pt_cmpR (kop_inS K) (pv 9) (pe_tup (pa_cons pe_str (pa_cons pe_str (pa_cons pe_str pa_nil)))) (by rfl)))))
        (pss_one (ps_set (i := 9) nd rfl (.inl rfl) (pe_ix (kix_list K) (pe_lc (own := [("k", 10)]) (g := gName 10) rfl nd (pi_range1 rfl T.m_range (pa_cons pe_int pa_nil)) (blkOk_by (by rfl)) (fun _ _ _ _ _ => (pg_name (i := 10) nd rfl (.inl rfl))) (fun _ _ _ _ _ => (pts_one (pt_cmpR (kop_notIn K) (pe_op op_add_str (pv 5) (pe_callTy call_str_int (by rfl) T.m_str (by decide +kernel) (pa_cons (pv 10) pa_nil))) (pv 1) (by rfl)))) (fun _ _ _ _ _ => (pe_op op_add_str (pv 5) (pe_callTy call_str_int (by rfl) T.m_str (by decide +kernel) (pa_cons (pv 10) pa_nil))))) pe_int (fun _ _ => rfl))))
        pss_nil)
      (pss_one (ps_ret (pv 9))))))))))), ?_⟩
    refine ⟨.str lows, rfl, .str lows, rfl, rfl, lows, rfl, rfl, by decide, lows, Txt.upper lows, rfl, rfl, by rw [upE]; decide, lows ++ Txt.upper lows, digs, rfl, rfl, by rw [upE]; decide, ?_⟩
    rw [upE, sgE]
    refine ⟨.str lows, rfl, .ref c, rfl, c, l, 26, n, rfl, u, by omega, by decide, by decide, fun d H1 hd u1 b1 => ?_⟩
    obtain ⟨h0, eh0, lh0⟩ := low_at hd
    refine ⟨lows, (d : Nat), h0, rfl, rfl, by decide, atI_nat eh0, ?_⟩
    -- the body
    refine ⟨rfl, ⟨.ref c, rfl, by show 3 ≤ sizeLine; decide, fun L hL => ?_⟩⟩
    have sL := same_new (o := .lst [.int 2, .int 4, .int 10]) hL
    have eL : (upd H1 L (.lst [.int 2, .int 4, .int 10])) L = some (.lst ([2, 4, 10].map V.int)) := upd_same
    have u1L := u1.same sL
    have b1L := b1.trans (but2_same sL)
    have nLw := u1.nw hL
    have nLl := u1.nl hL
    generalize upd H1 L (.lst [.int 2, .int 4, .int 10]) = H1L at *
    refine ⟨.ref c, rfl, c, l, 3, n + 1, rfl, u1L, by omega, by decide, by decide, fun d2 H2 hd2 u2 b2 => ?_⟩
    obtain ⟨m, hm, mm⟩ := int_at [2, 4, 10] (d := d2) (by show d2 < 3; omega)
    have m10 : 0 < m ∧ m ≤ 10 := (by decide : ∀ m ∈ [(2 : Int), 4, 10], 0 < m ∧ m ≤ 10) m mm
    refine ⟨L, _, (d2 : Nat), _, rfl, rfl, .of (b2 _ _ nLw nLl eL), atI_nat hm, c, l, m, n + 2, rfl, u2, by omega, m10.1, by omega, fun d3 H3 hd3 u3 b3 => ?_⟩
    have b13 := (b1L.trans b2).trans b3
    have d9 : d3 ≤ 9 := by omega
    refine ⟨(d3 : Nat), rfl, by omega, by omega, fun D hD => ?_⟩
    have nDw := u3.nw hD
    have nDl := u3.nl hD
    have hD0 : H D = none := b13.free u3 hD
    refine lc_all (walk_range (lo := 0) (n := ((d3 : Nat) : Int).toNat)) (fun i Hx => Wel Hx c l (n + 3 + i) ∧ But2 c l H Hx ∧ ∃ cs : List Nat, Hx D = some (.lst (cs.map fun a => V.str ⟨#[a]⟩)) ∧ cs.length = i ∧ ∀ a ∈ cs, al a = true) ⟨u3.same (same_new hD), b13.trans (but2_same (same_new hD)), [], upd_same, rfl, fun a ha => by simp at ha⟩ (fun _ _ _ _ => trivial) (fun i x Hx Hy hi z y => ?_) (fun Hx z => ?_)
    · obtain ⟨ux, bx, cs, eD, lc, ac⟩ := z
      obtain ⟨rfl, rfl⟩ := y
      rw [Int.toNat_natCast] at hi
      refine ⟨rfl, .str alS, rfl, .ref c, rfl, c, l, 62, n + 3 + i, rfl, ux, by omega, by decide, by decide, fun d4 H4 hd4 u4 b4 => ?_⟩
      obtain ⟨ch, ech, hch⟩ := sg_at hd4
      have eD4 := b4 _ _ nDw nDl eD
      refine ⟨alS, (d4 : Nat), ch, rfl, rfl, by decide, atI_nat ech, _, eD4, small1000 (by rw [List.length_map]; omega), u4.upd nDw nDl, fun b o g1 g2 e => ?_, cs ++ [ch], by rw [upd_same, List.map_append]; rfl, by rw [List.length_append, lc]; rfl, fun a ha => ?_⟩
      · rw [upd_ne (ne_of_none e hD0)]
        exact b4 _ _ g1 g2 (bx _ _ g1 g2 e)
      · rcases List.mem_append.mp ha with ha | ha
        · exact ac a ha
        · rw [List.mem_singleton.mp ha]; exact hch
    obtain ⟨ux, bx, cs, eD, lc, ac⟩ := z
    rw [Int.toNat_natCast] at lc ux
    have sum1 := sum_ones cs
    refine ⟨"", D, cs.map fun a => (⟨#[a]⟩ : Str), rfl, rfl, .inl (.of (by rw [List.map_map]; exact eD)), by rw [sum1]; show _ + _ * 0 ≤ _; omega, ?_⟩
    rw [join_ones']
    have lb : (⟨cs.toArray⟩ : Str).length ≤ 9 := by show cs.toArray.size ≤ 9; rw [List.size_toArray]; omega
    have ab : ∀ a ∈ (⟨cs.toArray⟩ : Str).cps.toList, al a = true := fun a ha => ac a (by simpa using ha)
    generalize (⟨cs.toArray⟩ : Str) = body at *
    have ux12 := ux.mono (m := n + 12) (by omega)
    clear sum1 ux eD u3 u2 u1 u1L b13 b1L b1 b2 b3 sL eL lc ac cs
    -- a taken name bent
    refine ⟨fun σ' H' => ∃ (h : Nat) (b : Str) (y7 y8 : Option V), σ' = [some (.ref c), some (.ref t), some (.bl hi), some (.str lows), some (.str alS), some (.str ⟨#[h]⟩), some (.str b), y7, y8, none, none] ∧ lowC h = true ∧ b.length ≤ 9 ∧ (∀ a ∈ b.cps.toList, al a = true) ∧ Wel H' c l (n + 18) ∧ But2 c l H H', ?_, ?_⟩
    · refine ⟨.ref t, rfl, by show 0 ≤ sizeLine; decide, fun Z hZ => ?_⟩
      have sZ := same_new (o := .lst []) hZ
      have et2 := sZ _ _ (bx _ _ ntc ntl et)
      have eZ : (upd Hx Z (.lst [])) Z = some (.lst []) := upd_same
      have u2 := ux12.same sZ
      have b2 := bx.trans (but2_same sZ)
      generalize upd Hx Z (.lst []) = H2 at *
      refine ⟨t, Z, _, rfl, rfl, .of et2, .of eZ, _, rfl, ?_⟩
      cases ts with
      | nil => exact iteF ⟨h0, body, _, _, rfl, lh0, lb, ab, u2.mono (by omega), b2⟩
      | cons t0 tr =>
      refine iteT ⟨.ref c, rfl, c, l, 2, n + 12, rfl, u2, by omega, by decide, by decide, fun d3 H3 hd3 u3 b3 => ⟨rfl, _, rfl, ?_⟩⟩
      have b13 := b2.trans b3
      by_cases h : V.int (d3 : Nat) = V.int 0
      rotate_left
      · rw [decide_eq_false h]
        exact iteF ⟨h0, body, _, _, rfl, lh0, lb, ab, u3.mono (by omega), b13⟩
      rw [decide_eq_true h]
      have et3 := b13 _ _ ntc ntl et
      refine iteT ⟨.ref t, rfl, .ref c, rfl, .ref t, rfl, t, _, rfl, .inl (.of et3), c, l, _, n + 13, rfl, u3, by omega, by rw [List.length_map, List.length_cons]; omega, by rw [List.length_map]; omega, fun d4 H4 hd4 u4 b4 => ?_⟩
      have et4 := b4 _ _ ntc ntl et3
      rw [List.length_map] at hd4
      obtain ⟨old, eo⟩ : ∃ old, (t0 :: tr)[d4]? = some old := ⟨_, List.getElem?_eq_getElem (by omega)⟩
      have oko := okt old (List.mem_of_getElem? eo)
      have lo := oko.len
      refine ⟨t, _, (d4 : Nat), .str old, rfl, rfl, .of et4, atI_nat (by rw [List.getElem?_map, eo]; rfl), ?_⟩
      refine ⟨.ref c, rfl, .str old, rfl, old, rfl, Nat.le_of_lt (small1000 (by omega)), c, l, _, n + 14, rfl, u4, by omega, by omega, by omega, fun d5 H5 hd5 u5 b5 => ⟨_, _, rfl, rfl, ?_⟩⟩
      obtain ⟨c0, ec0, nc0⟩ := oko.head
      have ec0' : old.cps.toList[0]? = some c0 := by rw [Array.getElem?_toList]; exact ec0
      have ac0 := oko.signs c0 (List.mem_of_getElem? ec0')
      have al0 : al c0 = true := ac0
      refine ⟨.str old, rfl, old, 0, c0, rfl, rfl, Nat.le_of_lt (small1000 (by omega)), atI_nat (j := 0) ec0', rfl, ⟨#[c0]⟩, rfl, rfl, (show 1 ≤ 5592405 by decide), ?_⟩
      rw [lower1 (al_small al0)]
      have b15 := (b13.trans b4).trans b5
      refine ⟨.str old, rfl, .int (1 + (d5 : Nat)), rfl, 1 + (d5 : Nat), rfl, old, rfl, Nat.le_of_lt (small1000 (by omega)), ?_⟩
      refine ⟨.str alS, rfl, .ref c, rfl, c, l, 62, n + 15, rfl, u5, by omega, by decide, by decide, fun d6 H6 hd6 u6 b6 => ?_⟩
      obtain ⟨ch, ech, hch⟩ := sg_at hd6
      refine ⟨alS, (d6 : Nat), ch, rfl, rfl, by decide, atI_nat ech, by show 2 ≤ sizeLine; decide, fun L hL => ?_⟩
      have sL := same_new (o := .lst [.str "", .str ⟨#[ch]⟩]) hL
      have eL : (upd H6 L (.lst [.str "", .str ⟨#[ch]⟩])) L = some (.lst ([("" : Str), (⟨#[ch]⟩ : Str)].map V.str)) := upd_same
      have u7 := u6.same sL
      have b17 := (b15.trans b6).trans (but2_same sL)
      have nLw := u6.nw hL
      have nLl := u6.nl hL
      generalize upd H6 L (.lst [.str "", .str ⟨#[ch]⟩]) = H7 at *
      refine ⟨.ref c, rfl, c, l, 2, n + 16, rfl, u7, by omega, by decide, by decide, fun d8 H8 hd8 u8 b8 => ?_⟩
      obtain ⟨mid, emid, lmid, amid⟩ : ∃ mid : Str, ([("" : Str), (⟨#[ch]⟩ : Str)].map V.str)[d8]? = some (.str mid) ∧ mid.length ≤ 1 ∧ ∀ a ∈ mid.cps.toList, al a = true := by
        match d8, hd8 with
        | 0, _ => exact ⟨"", rfl, by decide, fun a ha => by cases ha⟩
        | 1, _ => exact ⟨⟨#[ch]⟩, rfl, Nat.le_refl _, fun a ha => by
            obtain rfl : a = ch := by simpa using ha
            exact hch⟩
        | d + 2, h => exact absurd h (by omega)
      have ao : ∀ a ∈ old.cps.toList, al a = true := oko.signs
      have l1 := cutS_length old none (some (1 + ((d5 : Nat) : Int)))
      refine ⟨L, _, (d8 : Nat), .str mid, rfl, rfl, .of (b8 _ _ nLw nLl eL), atI_nat emid, _, mid, rfl, rfl, Nat.le_trans (show _ + _ ≤ 1000 by omega) (by decide), ?_⟩
      refine ⟨.str old, rfl, .int (1 + (d5 : Nat)), rfl, .ref c, rfl, c, l, 2, n + 17, rfl, u8, by omega, by decide, by decide, fun d9 H9 hd9 u9 b9 => ⟨_, _, rfl, rfl, _, rfl, old, rfl, Nat.le_of_lt (small1000 (by omega)), ?_⟩⟩
      have l2 := cutS_length old (some (1 + ((d5 : Nat) : Int) + ((d9 : Nat) : Int))) none
      refine ⟨_, _, rfl, rfl, Nat.le_trans (show _ + _ ≤ 1000 by rw [len_app]; omega) (by decide), 1, rfl, 10, rfl, _, rfl, Nat.le_trans (show _ ≤ 1000 by rw [len_app, len_app]; omega) (by decide), ?_⟩
      refine ⟨lo1 c0, _, _, _, rfl, lo_name al0 nc0, cut9 _, fun a ha => ?_, u9, ((b17.trans b8).trans b9)⟩
      exact app_al (app_al (fun a ha => ao a (cutS_mem a ha)) amid) (fun a ha => ao a (cutS_mem a ha)) a (cutS_mem a ha)
    · rintro σ' H' ⟨h, b, y7, y8, rfl, lh, lb, ab, u', b'⟩
      have n17 : n + 18 < 2 ^ 60 := by omega
      have et' := b' _ _ ntc ntl et
      refine ⟨fun σ'' H'' => H'' = H' ∧ ∃ h : Nat, σ'' = [some (.ref c), some (.ref t), some (.bl hi), some (.str lows), some (.str alS), some (.str ⟨#[h]⟩), some (.str b), y7, y8, none, none] ∧ (if hi = true then highC h else lowC h) = true, ?_, ?_⟩
      · refine ⟨.bl hi, rfl, hi, rfl, ?_⟩
        cases hi with
        | false => exact iteF ⟨rfl, h, rfl, lh⟩
        | true =>
          refine iteT ⟨.str ⟨#[h]⟩, rfl, rfl, ⟨#[h]⟩, rfl, rfl, (show 1 ≤ 5592405 by decide), ?_⟩
          rw [upper1 (al_small (al_of_low lh))]
          exact ⟨rfl, up1 h, rfl, up_low lh⟩
      · rintro σ'' H'' ⟨rfl, h, rfl, hh⟩
        have hlh : lowC h = true ∨ highC h = true := by
          cases hi with
          | false => exact .inl hh
          | true => exact .inr hh
        refine ⟨.str ⟨#[h]⟩, rfl, .str b, rfl, _, _, rfl, rfl, Nat.le_trans (show 1 + b.length ≤ 1000 by omega) (by decide), ?_⟩
        -- the way out by a numeral
        have out : ∀ (H2 : Hp) (y : Str), Same H'' H2 → (tSeq (tAsg (tOp (rIxL K) (tLc (iRng1 (tCons (tC (V.int 400)) tNil)) (gName 10) (tTest (tOp (rIn K true) (tOp rAddS' (tVar 5) (tCB rStrI (tCons (tVar 10) tNil))) (tVar 1))) (tOp rAddS' (tVar 5) (tCB rStrI (tCons (tVar 10) tNil))) [10]) (tC (V.int 0))) (gName 9)) (tRet (tVar 9)) : TS) { nx := fun _ H' => Q .non H', rt := Q } [some (.ref c), some (.ref t), some (.bl hi), some (.str lows), some (.str alS), some (.str ⟨#[h]⟩), some (.str b), y7, y8, some (.str y), none] H2 := fun H2 y s2 => by
          have et2 := s2 _ _ et'
          refine ⟨400, rfl, by decide, by decide, fun D hD => ?_⟩
          refine lc_it (walk_range (lo := 0) (n := (400 : Int).toNat)) (fun i Hx => Same H2 Hx ∧ Hx D = some (.lst (((List.range i).filter fun k => decide (numed h k ∉ ts)).map fun k => V.str (numed h k)))) ⟨same_new hD, upd_same⟩ (fun _ _ _ _ => trivial) (fun i x Hx Hy hi z y => ?_) (fun Hx z => ?_)
          · obtain ⟨sx, eD⟩ := z
            obtain ⟨rfl, rfl⟩ := y
            have hi4 : i < 400 := hi
            obtain ⟨na, nl, nd'⟩ := num_al i hi4
            have etx := sx _ _ et2
            have lg : ((i : Nat) : Int).natAbs.log2 < 1920 := Nat.lt_trans (PySem.Flt.log2_lt_of (by decide : 0 < 9) (show ((i : Nat) : Int).natAbs < 2 ^ 9 by omega)) (by decide)
            have flen : ∀ z : Str, z.length ≤ 9 → (1 + z.length ≤ sizeLine) := fun z hz => Nat.le_trans (show _ ≤ 1000 by omega) (by decide)
            have e0 : (0 : Int) + (i : Nat) = (i : Nat) := by omega
            refine ⟨rfl, .str ⟨#[h]⟩, rfl, .int (0 + (i : Nat)), rfl, _, rfl, by rw [e0]; exact lg, _, _, rfl, rfl, by rw [e0]; exact flen _ nl, .ref t, rfl, t, _, rfl, .inl (.of etx), rfl, strs_flat _, _, rfl, ?_⟩
            rw [e0, inV_strs' ]
            show if (!decide (numed h i ∈ ts)) = true then _ else _
            by_cases hin : numed h i ∈ ts
            · rw [decide_eq_true hin]
              refine iteF ⟨sx, ?_⟩
              rw [List.range_succ, List.filter_append, List.filter_cons, decide_eq_false (not_not_intro hin)]
              rw [eD]; simp
            · rw [decide_eq_false hin]
              refine iteT ⟨.str ⟨#[h]⟩, rfl, .int (0 + (i : Nat)), rfl, _, rfl, by rw [e0]; exact lg, _, _, rfl, rfl, by rw [e0]; exact flen _ nl, ?_⟩
              rw [e0]
              refine ⟨_, eD, small1000 ?_, fun b o e => ?_, ?_⟩
              · rw [List.length_map]
                have := List.length_filter_le (fun k => decide (numed h k ∉ ts)) (List.range i)
                rw [List.length_range] at this
                omega
              · rw [upd_ne (ne_of_none e hD)]; exact sx _ _ e
              · rw [upd_same, List.range_succ, List.filter_append, List.filter_cons, decide_eq_true hin, List.map_append]
                rfl
          · obtain ⟨sx, eD⟩ := z
            obtain ⟨k, hk4, hkn, ehd⟩ := numed_first h ts l300
            refine ⟨D, _, 0, .str (numed h k), rfl, rfl, .of eD, atI_nat (j := 0) ?_, .str (numed h k), rfl, q _ _ ⟨numed_ok hlh hk4, hkn, h, name0, hh⟩ ((u'.same (s2.trans sx)).mono (by omega)) (b'.trans (but2_same (s2.trans sx)))⟩
            rw [List.getElem?_map, show ((400 : Int).toNat) = 400 from rfl, ehd]; rfl
        refine ⟨.str (⟨#[h]⟩ ++ b), rfl, .ref t, rfl, t, _, rfl, .inl (.of et'), rfl, strs_flat _, _, rfl, ?_⟩
        rw [inV_strs']
        show if decide ((⟨#[h]⟩ : Str) ++ b ∈ ts) = true then _ else _
        by_cases hin : (⟨#[h]⟩ : Str) ++ b ∈ ts
        · rw [decide_eq_true hin]
          exact iteT (iteT (out _ _ (Same.refl _)))
        rw [decide_eq_false hin]
        refine iteF ⟨.str (⟨#[h]⟩ ++ b), rfl, by show 3 ≤ sizeLine; decide, fun T1 hT => ⟨T1, _, rfl, .inr (ITup.sq (.inl upd_same)), rfl, rfl, _, rfl, ?_⟩⟩
        have sT := same_new (o := .tup [.str "fun", .str "kind", .str "number"]) hT
        have ek : inV (.str (⟨#[h]⟩ ++ b)) [.str "fun", .str "kind", .str "number"] = decide ((⟨#[h]⟩ : Str) ++ b ∈ [("fun" : Str), "kind", "number"]) := inV_strs' _ ["fun", "kind", "number"]
        by_cases hkw : (⟨#[h]⟩ : Str) ++ b ∈ [("fun" : Str), "kind", "number"]
        · refine iteT' (ek.trans (decide_eq_true hkw)) (out _ _ sT)
        · refine iteF' (ek.trans (decide_eq_false hkw)) ?_
          simp only [List.mem_cons, List.not_mem_nil, or_false, not_or] at hkw
          exact ⟨_, rfl, q _ _ ⟨name_of hlh lb ab hkw.1 hkw.2.1 hkw.2.2, hin, h, name0, hh⟩ ((u'.same sT).mono (by omega)) (b'.trans (but2_same sT))⟩
end
end K63

set_option Elab.async false
set_option linter.all false
set_option maxRecDepth 100000
set_option exponentiation.threshold 20000
set_option pp.deepTerms false
set_option pp.deepTerms.threshold 8
namespace K63
open PySem PySem.Spec PyProof.Rows L2 Ly Mt
/-! ### _law_kinds -/
/-- three lists of one's own, apart from the well -/
structure Fz (H : Hp) (c l T M F : Addr) : Prop where
  nT : H T = none
  nM : H M = none
  nF : H F = none
  Tc : T ≠ c
  Tl : T ≠ l
  Mc : M ≠ c
  Ml : M ≠ l
  Fc : F ≠ c
  Fl : F ≠ l
  TM : T ≠ M
  TF : T ≠ F
  MF : M ≠ F
structure KS (H : Hp) (c l T M F : Addr) (n : Nat) (ts ms : List Str) (ws : List V) (Hx : Hp) : Prop where
  u : Wel Hx c l n
  b : But2 c l H Hx
  eT : Hx T = some (.lst (ts.map V.str))
  eM : Hx M = some (.lst (ms.map V.str))
  eF : Hx F = some (.lst ws)
section
variable {H Hx Hy : Hp} {c l T M F : Addr} {n m : Nat} {ts ms : List Str} {ws : List V}
theorem KS.but (z : KS H c l T M F n ts ms ws Hx) (f : Fz H c l T M F) (u : Wel Hy c l m) (b : But2 c l Hx Hy) : KS H c l T M F m ts ms ws Hy :=
  ⟨u, z.b.trans b, b _ _ f.Tc f.Tl z.eT, b _ _ f.Mc f.Ml z.eM, b _ _ f.Fc f.Fl z.eF⟩
theorem KS.same (z : KS H c l T M F n ts ms ws Hx) (s : Same Hx Hy) : KS H c l T M F n ts ms ws Hy :=
  ⟨z.u.same s, z.b.trans (but2_same s), s _ _ z.eT, s _ _ z.eM, s _ _ z.eF⟩
theorem KS.mono (z : KS H c l T M F n ts ms ws Hx) (h : n ≤ m) : KS H c l T M F m ts ms ws Hx := ⟨z.u.mono h, z.b, z.eT, z.eM, z.eF⟩
theorem KS.new {p : Addr} (z : KS H c l T M F n ts ms ws Hx) (h : Hx p = none) : H p = none ∧ p ≠ c ∧ p ≠ l ∧ p ≠ T ∧ p ≠ M ∧ p ≠ F :=
  ⟨z.b.free z.u h, z.u.nw h, z.u.nl h, fun e => (by rw [e, z.eT] at h; cases h), fun e => (by rw [e, z.eM] at h; cases h), fun e => (by rw [e, z.eF] at h; cases h)⟩
/-- a list of one's own is put anew -/
theorem KS.putN {p : Addr} {o : HO} (z : KS H c l T M F n ts ms ws Hx) (h : H p = none ∧ p ≠ c ∧ p ≠ l ∧ p ≠ T ∧ p ≠ M ∧ p ≠ F) : KS H c l T M F n ts ms ws (upd Hx p o) :=
  ⟨z.u.upd h.2.1 h.2.2.1, z.b.put h.1, by rw [upd_ne h.2.2.2.1.symm]; exact z.eT, by rw [upd_ne h.2.2.2.2.1.symm]; exact z.eM, by rw [upd_ne h.2.2.2.2.2.symm]; exact z.eF⟩
theorem KS.putT (z : KS H c l T M F n ts ms ws Hx) (f : Fz H c l T M F) (ts' : List Str) : KS H c l T M F n ts' ms ws (upd Hx T (.lst (ts'.map V.str))) :=
  ⟨z.u.upd f.Tc f.Tl, z.b.put f.nT, upd_same, by rw [upd_ne f.TM.symm]; exact z.eM, by rw [upd_ne f.TF.symm]; exact z.eF⟩
theorem KS.putM (z : KS H c l T M F n ts ms ws Hx) (f : Fz H c l T M F) (ms' : List Str) : KS H c l T M F n ts ms' ws (upd Hx M (.lst (ms'.map V.str))) :=
  ⟨z.u.upd f.Mc f.Ml, z.b.put f.nM, by rw [upd_ne f.TM]; exact z.eT, upd_same, by rw [upd_ne f.MF.symm]; exact z.eF⟩
theorem KS.putF (z : KS H c l T M F n ts ms ws Hx) (f : Fz H c l T M F) (ws' : List V) : KS H c l T M F n ts ms ws' (upd Hx F (.lst ws')) :=
  ⟨z.u.upd f.Fc f.Fl, z.b.put f.nF, by rw [upd_ne f.TF]; exact z.eT, by rw [upd_ne f.MF]; exact z.eM, upd_same⟩
theorem KS.tk (z : KS H c l T M F n ts ms ws Hx) (b : But2 c l Hx Hy) : TK Hx Hy := b.tk z.u
end
theorem cutV_from {ws : List V} {n : Nat} (h : n ≤ ws.length) : cutV ws (some (n : Int)) none = ws.drop n := by
  unfold cutV
  rw [HT.sIx_none, HT.sIx_nat, Nat.min_eq_left h]
  exact List.take_of_length_le (by rw [List.length_drop]; exact Nat.le_refl _)
theorem cutV_to {ws : List V} {n : Nat} (h : n ≤ ws.length) : cutV ws none (some (n : Int)) = ws.take n := by
  unfold cutV
  rw [HT.sIx_none, HT.sIx_nat, Nat.min_eq_left h]
  rfl
section
variable {K : PySem.W.Frag} {H : Hp} {α : Type} {f : α → PyData}
theorem imAll_app : ∀ {xs ys : List V} {a b : List PyData}, ImAll K H xs a → ImAll K H ys b → ImAll K H (xs ++ ys) (a ++ b)
  | _, _, _, _, .nil, h => h
  | _, _, _, _, .cons h r, b => .cons h (imAll_app r b)
theorem imAll_take : ∀ {n : Nat} {xs : List V} {l : List α}, ImAll K H xs (l.map f) → ImAll K H (xs.take n) ((l.take n).map f)
  | 0, xs, l, _ => by rw [List.take_zero, List.take_zero]; exact .nil
  | n + 1, _, [], h => by rw [ImAll.nil_inv h]; exact .nil
  | n + 1, _, a :: l, h => by
    obtain ⟨v, r, rfl, i, hr⟩ := ImAll.cons_inv (ds := l.map f) h
    rw [List.take_succ_cons, List.take_succ_cons]
    exact .cons i (imAll_take hr)
theorem imAll_drop : ∀ {n : Nat} {xs : List V} {l : List α}, ImAll K H xs (l.map f) → ImAll K H (xs.drop n) ((l.drop n).map f)
  | 0, xs, l, h => by rw [List.drop_zero, List.drop_zero]; exact h
  | n + 1, _, [], h => by rw [ImAll.nil_inv h, List.drop_nil, List.drop_nil]; exact .nil
  | n + 1, _, a :: l, h => by
    obtain ⟨v, r, rfl, i, hr⟩ := ImAll.cons_inv (ds := l.map f) h
    rw [List.drop_succ_cons, List.drop_succ_cons]
    exact imAll_drop hr
end
theorem strs_snoc (ts : List Str) (z : Str) : ts.map V.str ++ [V.str z] = (ts ++ [z]).map V.str := by rw [List.map_append]; rfl
theorem nm_high {ts : List Str} {z : Str} (h : Nm true ts z) : High z := ⟨h.ok, h.head⟩
theorem nodup_snoc {α : Type} {l : List α} {a : α} (h : l.Nodup) (n : a ∉ l) : (l ++ [a]).Nodup := by
  rw [List.nodup_append]
  refine ⟨h, by simp, fun x hx y hy e => ?_⟩
  rw [List.mem_singleton.mp hy] at e
  exact n (e ▸ hx)
/-- the kinds made of the first i titles; the makers' names in the sequence they were drawn -/
structure KP (ts : List Str) (i : Nat) (ms : List Str) (ks : List Kd) : Prop where
  nm : ks.map (·.1) = ts.take i
  perm : ms.Perm ((allMk ks).map (·.1))
  ndm : ms.Nodup
  hi : ∀ m ∈ ms, NameOk m
  lm : ms.length ≤ 6 * i
  mks : ∀ k ∈ ks, 1 ≤ k.2.length ∧ k.2.length ≤ 6
  mkk : ∀ k ∈ ks, ∀ m ∈ k.2, High m.1 ∧ m.2.length ≤ 4
  flds : ∀ k ∈ ks, ∀ m ∈ k.2, ∀ f ∈ m.2, f = "number" ∨ f ∈ ts
/-- the makers of one more title -/
structure MP (ts ms : List Str) (mk : List Mk) : Prop where
  nd : (ms ++ mk.map (·.1)).Nodup
  hi : ∀ m ∈ ms ++ mk.map (·.1), NameOk m
  mkk : ∀ m ∈ mk, High m.1 ∧ m.2.length ≤ 4 ∧ ∀ f ∈ m.2, f = "number" ∨ f ∈ ts
theorem KP.kinds {ts ms : List Str} {ks : List Kd} (h : KP ts (ts.map V.str).length ms ks) (l : 1 ≤ ts.length ∧ ts.length ≤ 6) (nd : ts.Nodup) (hh : ∀ t ∈ ts, High t) : KindsOk ks := by
  have e : ks.map (·.1) = ts := by rw [h.nm, List.length_map, List.take_of_length_le (Nat.le_refl _)]
  have le : ks.length = ts.length := by rw [← e, List.length_map]
  exact ⟨by omega, fun k hk => hh _ (by rw [← e]; exact List.mem_map.mpr ⟨k, hk, rfl⟩), h.mks, h.mkk, by rw [e]; exact nd, h.perm.nodup_iff.mp h.ndm, fun k hk m hm f hf => by rw [e]; exact h.flds k hk m hm f hf⟩
theorem KP.step {ts ms : List Str} {ks : List Kd} {i d : Nat} {t : Str} {mk : List Mk} (h : KP ts i ms ks) (ht : ts[i]? = some t) (mp : MP ts ms mk) (l : 1 ≤ mk.length ∧ mk.length ≤ 6) : KP ts (i + 1) (ms ++ mk.map (·.1)) (ks ++ [(t, mk.drop d ++ mk.take d)]) := by
  have mem : ∀ m, m ∈ mk.drop d ++ mk.take d → m ∈ mk := fun m hm => (List.mem_append.mp hm).elim List.mem_of_mem_drop List.mem_of_mem_take
  have pm : (mk.drop d ++ mk.take d).Perm mk := by
    have h1 : (mk.drop d ++ mk.take d).Perm (mk.take d ++ mk.drop d) := List.perm_append_comm
    rw [List.take_append_drop] at h1; exact h1
  have sp : ∀ k, k ∈ ks ++ [(t, mk.drop d ++ mk.take d)] → k ∈ ks ∨ k = (t, mk.drop d ++ mk.take d) := fun k hk => (List.mem_append.mp hk).imp id fun z => List.mem_singleton.mp z
  refine ⟨?_, ?_, mp.nd, mp.hi, ?_, fun k hk => ?_, fun k hk m hm => ?_, fun k hk m hm => ?_⟩
  · rw [List.map_append, h.nm, List.take_add_one, ht]; rfl
  · have e : allMk (ks ++ [(t, mk.drop d ++ mk.take d)]) = allMk ks ++ (mk.drop d ++ mk.take d) := by
      unfold allMk
      rw [List.flatMap_append, List.flatMap_cons, List.flatMap_nil, List.append_nil]
    rw [e, List.map_append]
    exact h.perm.append (pm.symm.map _)
  · have := h.lm
    rw [List.length_append, List.length_map]; omega
  · rcases sp k hk with hk | rfl
    · exact h.mks k hk
    · show 1 ≤ (mk.drop d ++ mk.take d).length ∧ (mk.drop d ++ mk.take d).length ≤ 6
      rw [pm.length_eq]; exact l
  · rcases sp k hk with hk | rfl
    · exact h.mkk k hk m hm
    · have := mp.mkk m (mem m hm)
      exact ⟨this.1, this.2.1⟩
  · rcases sp k hk with hk | rfl
    · exact h.flds k hk m hm
    · exact (mp.mkk m (mem m hm)).2.2
section
variable {P : Program} {w : World} {K : PySem.W.Frag} {mg : Str → Option Value} {base : Heap}
abbrev s__law_kinds : Stmt := topS 36
theorem sc__law_kinds : FnScope ["well", "most", "titles", "makers", "found", "k", "title", "some", "maker", "sorts", "fields", "turn", "j", "field"] ["well", "most"] (defScope s__law_kinds) := ⟨rfl, rfl, rfl, by decide +kernel, rfl, by decide +kernel, by decide +kernel⟩
def sp_wkinds (K : PySem.W.Frag) : Sp := fun vs H Q _ => ∃ (c l : Addr) (n : Nat) (most : Int), vs = [.ref c, .int most] ∧ Wel H c l n ∧ n < 2 ^ 58 ∧ 1 ≤ most ∧ most ≤ 6 ∧ ∀ p ks H', Wel H' c l (n + 2000) → But2 c l H H' → KindsOk ks → Im K H' (.ref p) (ksD ks) → Q (.ref p) H'
set_option maxHeartbeats 2000000 in
theorem ok__law_kinds {f : Addr} {fd : FuncData} {k : Nat} (F : Fun K "_law_kinds" "_law_kinds" s__law_kinds f fd) (T : Tx K mg){k1 : Nat} (D__law_draw : Def P w K mg base k1 "_law_draw" s__law_draw ["well", "many"] sp_draw) {k2 : Nat} (D__law_name : Def P w K mg base k2 "_law_name" s__law_name ["well", "taken", "high"] (sp_lname K)) (e1 : k1 ≤ k) (e2 : k2 ≤ k) : FnOk P w K mg base CX0 (k + 1) f fd ["well", "most"] (sp_wkinds K) := by
  have nd := sc__law_kinds.nd
  refine F.ok sc__law_kinds (fun vs H Q E h => ?_) (fun cdv A outer s H vs Q E hr h => ?_)
  · obtain ⟨_, _, _, _, rfl, _⟩ := h
    rfl
  · obtain ⟨c, l, n, most, rfl, u, n58, m1, m6, q⟩ := h
    refine ⟨_, (pss_cons (ps_par3 (i := 2) (j := 3) (l := 4) (by rfl) nd rfl rfl rfl (by decide) (by decide) (by decide) rfl rfl rfl (pa_cons (pe_lst pa_nil) (pa_cons (pe_lst pa_nil) (pa_cons (pe_lst pa_nil) pa_nil))) (by rfl))
      (pss_cons (ps_for PassesOwn.never rfl (pi_range1 rfl T.m_range (pa_cons (pe_op op_add pe_int (pe_def D__law_draw (hr.mono (by omega)) rfl (pa_cons (pv 0) (pa_cons (pv 1) pa_nil)))) pa_nil)) (pg_name (i := 5) nd rfl (.inl rfl))
        (pss_one (ps_expr (pe_bm PySem.F.plainAttrs_list PySem.F.slot_list_append PySem.F.type_list_append mt_append (pv 2) (pa_cons (pe_def D__law_name (hr.mono (by omega)) rfl (pa_cons (pv 0) (pa_cons (pv 2) (pa_cons pe_bl pa_nil)))) pa_nil)))))
      (pss_cons (ps_for PassesOwn.never rfl (kpi_list K (pv 2)) (pg_name (i := 6) nd rfl (.inl rfl))
        (pss_cons (ps_set (i := 7) nd rfl (.inl rfl) (pe_lst pa_nil))
        (pss_cons (ps_for PassesOwn.never rfl (pi_range1 rfl T.m_range (pa_cons (pe_op op_add pe_int (pe_def D__law_draw (hr.mono (by omega)) rfl (pa_cons (pv 0) (pa_cons (pe_ix (kix_list K) (pe_lst (pa_cons pe_int (pa_cons pe_int (pa_cons pe_int pa_nil)))) (pe_def D__law_draw (hr.mono (by omega)) rfl (pa_cons (pv 0) (pa_cons pe_int pa_nil))) (fun _ _ => rfl)) pa_nil)))) pa_nil)) (pg_name (i := 5) nd rfl (.inl rfl))
          (pss_cons (ps_set (i := 8) nd rfl (.inl rfl) (pe_def D__law_name (hr.mono (by omega)) rfl (pa_cons (pv 0) (pa_cons (pv 3) (pa_cons pe_bl pa_nil)))))
          (C8.pss_cut (ps_if (PW.pt (pw_and (pt_cmpR (kop_notIn K) (pv 6) (pv 3) (by rfl)) (pw_and1 (pt_cmpR op_eq (pe_def D__law_draw (hr.mono (by omega)) rfl (pa_cons (pv 0) (pa_cons pe_int pa_nil))) pe_int (nomark _)))))
            (pss_one (ps_set (i := 8) nd rfl (.inl rfl) (pv 6)))
            pss_nil)
          (pss_cons (ps_expr (pe_bm PySem.F.plainAttrs_list PySem.F.slot_list_append PySem.F.type_list_append mt_append (pv 3) (pa_cons (pv 8) pa_nil)))
          (pss_cons (ps_set (i := 9) nd rfl (.inr rfl) (pe_op op_cat (pv 2) (pe_lst (pa_cons pe_str pa_nil))))
          (pss_cons (ps_setLc (i := 10) (own := [("j", 12)]) (g := gName 12) (tt := tYes) rfl nd rfl rfl (sw_true rfl rfl rfl (by decide +kernel)) (pi_range1 rfl T.m_range (pa_cons (pe_ix (kix_list K) (pe_lst (pa_cons pe_int (pa_cons pe_int (pa_cons pe_int (pa_cons pe_int (pa_cons pe_int (pa_cons pe_int pa_nil))))))) (pe_def D__law_draw (hr.mono (by omega)) rfl (pa_cons (pv 0) (pa_cons pe_int pa_nil))) (fun _ _ => rfl)) pa_nil)) (blkOk_by (by rfl)) (fun _ _ _ _ _ => (pg_name (i := 12) nd rfl (.inl rfl))) (fun _ _ _ _ _ => pts_nil) (fun _ _ _ _ _ => (pe_ix (kix_list K) (pv 9) (pe_def D__law_draw (hr.mono (by omega)) rfl (pa_cons (pv 0) (pa_cons (pe_callB (kcall_len K) (by rfl) T.m_len PySem.boot_len (pa_cons (pv 9) pa_nil)) pa_nil))) (fun _ _ => rfl))))
          (C8.pss_cut (ps_if (PW.pt (pw_and (pt_cmpR op_eq (pv 5) pe_int (nomark _)) (pw_and1 (pt_cmpR op_gt (pe_def D__law_draw (hr.mono (by omega)) rfl (pa_cons (pv 0) (pa_cons pe_int pa_nil))) pe_int (nomark _)))))
            (pss_one (ps_setLc (i := 10) (own := [("field", 13)]) (g := gName 13) rfl nd rfl rfl (sw_true rfl rfl rfl (by decide +kernel)) (kpi_list K (pv 10)) (blkOk_by (by rfl)) (fun _ _ _ _ _ => (pg_name (i := 13) nd rfl (.inl rfl))) (fun _ _ _ _ _ => (pts_one (pt_cmpR op_eq (pv 13) pe_str (nomark _)))) (fun _ _ _ _ _ => (pv 13))))
            pss_nil)
          (pss_one (ps_expr (pe_bm PySem.F.plainAttrs_list PySem.F.slot_list_append PySem.F.type_list_append mt_append (pv 7) (pa_cons (pe_tup (pa_cons (pv 8) (pa_cons (pe_callTy (kcall_tuple K) (by rfl) T.m_tuple (by decide +kernel) (pa_cons (pv 10) pa_nil)) pa_nil))) pa_nil)))))))))))
        (pss_cons (ps_set (i := 11) nd rfl (.inl rfl) (pe_def D__law_draw (hr.mono (by omega)) rfl (pa_cons (pv 0) (pa_cons (pe_callB (kcall_len K) (by rfl) T.m_len PySem.boot_len (pa_cons (pv 7) pa_nil)) pa_nil))))
        (pss_one (ps_expr (pe_bm PySem.F.plainAttrs_list PySem.F.slot_list_append PySem.F.type_list_append mt_append (pv 4) (pa_cons (pe_tup (pa_cons (pv 6) (pa_cons (pe_callTy (kcall_tuple K) (by rfl) T.m_tuple (by decide +kernel) (pa_cons (pe_op op_cat (pe_slice sl_list (pv 7) (po_some (pv 11)) po_none) (pe_slice sl_list (pv 7) po_none (po_some (pv 11)))) pa_nil)) pa_nil))) pa_nil))))))))
      (pss_one (ps_ret (pe_callTy (kcall_tuple K) (by rfl) T.m_tuple (by decide +kernel) (pa_cons (pv 4) pa_nil))))))), ?_⟩
    refine ⟨by show 0 ≤ sizeLine; decide, fun T hT => ⟨by show 0 ≤ sizeLine; decide, fun M hM => ⟨by show 0 ≤ sizeLine; decide, fun F' hF => ⟨_, _, _, rfl, ?_⟩⟩⟩⟩
    have sT := same_new (o := .lst []) hT
    have hM0 := sT.free hM
    have sM := same_new (o := .lst []) hM
    have hF0 := (sT.trans sM).free hF
    have sF := same_new (o := .lst []) hF
    have eT0 : (upd H T (.lst [])) T = some (.lst []) := upd_same
    have eM0 : (upd (upd H T (.lst [])) M (.lst [])) M = some (.lst []) := upd_same
    have TM : T ≠ M := ne_of_none eT0 hM
    have TF : T ≠ F' := ne_of_none (sM _ _ eT0) hF
    have MF : M ≠ F' := ne_of_none eM0 hF
    have fz : Fz H c l T M F' := ⟨hT, hM0, hF0, u.nw hT, u.nl hT, u.nw hM0, u.nl hM0, u.nw hF0, u.nl hF0, TM, TF, MF⟩
    have s3 := (sT.trans sM).trans sF
    have z0 : KS H c l T M F' n [] [] [] (upd (upd (upd H T (.lst [])) M (.lst [])) F' (.lst [])) := ⟨u.same s3, but2_same s3, sF _ _ (sM _ _ eT0), sF _ _ eM0, upd_same⟩
    generalize upd (upd (upd H T (.lst [])) M (.lst [])) F' (.lst []) = H1 at *
    refine ⟨.ref c, rfl, .int most, rfl, c, l, most, n, rfl, z0.u, by omega, by omega, by omega, fun d H2 hd u2 b2 => ⟨_, _, rfl, rfl, 1 + (d : Nat), rfl, by omega, by omega, ?_⟩⟩
    have z1 := z0.but fz u2 b2
    refine for_it (walk_range (lo := 0) (n := (1 + ((d : Nat) : Int) - 0).toNat)) (fun i σ Hx => ∃ (y5 : Option V) (ts : List Str), σ = [some (.ref c), some (.int most), some (.ref T), some (.ref M), some (.ref F'), y5, none, none, none, none, none, none, none, none] ∧ KS H c l T M F' (n + 1 + 20 * i) ts [] [] Hx ∧ ts.length = i ∧ ts.Nodup ∧ ∀ t ∈ ts, High t) ⟨_, [], rfl, z1, rfl, List.nodup_nil, fun t ht => by cases ht⟩ (fun _ _ _ _ _ => trivial) ?_ ?_
    · rintro i x σ Hx Hy hi ⟨y5, ts, rfl, z, lt, ndt, ht⟩ ⟨rfl, rfl⟩
      have hi6 : i < 6 := by omega
      refine ⟨.ref T, rfl, .inl ⟨rfl, _, .of z.eT⟩, .ref c, rfl, .ref T, rfl, c, l, T, n + 1 + 20 * i, true, ts, rfl, z.u, by omega, fz.Tl, z.eT, by omega, fun t h => (ht t h).1, fun nm H3 hnm u3 b3 => ?_⟩
      have z3 := z.but fz u3 b3
      refine ⟨T, _, .str nm, rfl, rfl, z3.eT, small1000 (by rw [List.length_map]; omega), ?_⟩
      rw [strs_snoc]
      refine ⟨_, _, rfl, (z3.putT fz _).mono (by omega), by rw [List.length_append, lt]; rfl, nodup_snoc ndt hnm.new, fun t h => ?_⟩
      rcases List.mem_append.mp h with h | h
      · exact ht t h
      · rw [List.mem_singleton.mp h]; exact nm_high hnm
    rintro σ Hx ⟨y5, ts, rfl, z, lt, ndt, ht⟩
    have lt' : 1 ≤ ts.length ∧ ts.length ≤ 6 := by omega
    have z' := z.mono (m := n + 121) (by omega)
    clear z lt z1 z0 s3 sT sM sF u2 b2 eT0 eM0
    refine ⟨.ref T, rfl, T, rfl, ⟨_, .of z'.eT⟩, ?_⟩
    refine for_it (walk_list (xs := ts.map V.str)) (fun i σ Hx => ∃ (y5 y6 y7 y8 y9 y10 y11 : Option V) (ms : List Str) (ws : List V) (ks : List Kd), σ = [some (.ref c), some (.int most), some (.ref T), some (.ref M), some (.ref F'), y5, y6, y7, y8, y9, y10, y11, none, none] ∧ KS H c l T M F' (n + 121 + 170 * i) ts ms ws Hx ∧ ImAll K Hx ws (ks.map kdD) ∧ KP ts i ms ks) ⟨_, _, _, _, _, _, _, [], [], [], rfl, z', .nil, ⟨rfl, .nil, List.nodup_nil, (fun m h => nomatch h), Nat.le_refl _, (fun k h => nomatch h), (fun k h => nomatch h), (fun k h => nomatch h)⟩⟩ (fun i σ Hx _ z => ?_) ?_ ?_
    · obtain ⟨_, _, _, _, _, _, _, _, _, _, _, z, _⟩ := z
      exact .of z.eT
    · rintro i x σ Hx Hy hi ⟨y5, y6, y7, y8, y9, y10, y11, ms, ws, ks, rfl, z, im, kp⟩ ⟨rfl, hxi⟩
      rw [List.length_map] at hi
      rw [List.getElem?_map] at hxi
      obtain ⟨title, hti, rfl⟩ := Option.map_eq_some_iff.mp hxi
      have hight := ht title (List.mem_of_getElem? hti)
      have lms := kp.lm
      refine ⟨by show 0 ≤ sizeLine; decide, fun S hS => ?_⟩
      have pS := z.new hS
      have sS := same_new (o := .lst []) hS
      have z1 := z.putN (o := .lst []) pS
      have eS1 : (upd Hy S (.lst [])) S = some (.lst []) := upd_same
      have im1 := ImAll.mono (tk_same sS) _ im
      generalize upd Hy S (.lst []) = H1 at *
      refine ⟨.ref c, rfl, by show 3 ≤ sizeLine; decide, fun L hL => ?_⟩
      have pL := z1.new hL
      have sL := same_new (o := .lst [.int 3, .int 4, .int 6]) hL
      have z2 := z1.same sL
      have eL : (upd H1 L (.lst [.int 3, .int 4, .int 6])) L = some (.lst ([3, 4, 6].map V.int)) := upd_same
      have eS2 := sL _ _ eS1
      have im2 := ImAll.mono (tk_same sL) _ im1
      generalize upd H1 L (.lst [.int 3, .int 4, .int 6]) = H2 at *
      refine ⟨.ref c, rfl, c, l, 3, n + 121 + 170 * i, rfl, z2.u, by omega, by decide, by decide, fun d3 H3 hd3 u3 b3 => ?_⟩
      obtain ⟨m, hm, mm⟩ := int_at [3, 4, 6] (d := d3) (by show d3 < 3; omega)
      have m6 : 0 < m ∧ m ≤ 6 := (by decide : ∀ m ∈ [(3 : Int), 4, 6], 0 < m ∧ m ≤ 6) m mm
      refine ⟨L, _, (d3 : Nat), _, rfl, rfl, .of (b3 _ _ pL.2.1 pL.2.2.1 eL), atI_nat hm, c, l, m, n + 121 + 170 * i + 1, rfl, u3, by omega, m6.1, by omega, fun d4 H4 hd4 u4 b4 => ⟨_, _, rfl, rfl, 1 + (d4 : Nat), rfl, by omega, by omega, ?_⟩⟩
      have z4 := z2.but fz u4 (b3.trans b4)
      have b24 := b3.trans b4
      have eS4 := b24 _ _ pS.2.1 pS.2.2.1 eS2
      have im4 := ImAll.mono (z2.tk b24) _ im2
      clear z2 z1 sL sS eS1 eS2 im1 im2 im b3 b4 b24 u3 u4 eL hL hS z
      refine for_it (walk_range (lo := 0) (n := (1 + ((d4 : Nat) : Int) - 0).toNat)) (fun j σ Hx => ∃ (y5 y8 y9 y10 y11 : Option V) (ss : List V) (mk : List Mk), σ = [some (.ref c), some (.int most), some (.ref T), some (.ref M), some (.ref F'), y5, some (.str title), some (.ref S), y8, y9, y10, y11, none, none] ∧ KS H c l T M F' (n + 121 + 170 * i + 2 + 27 * j) ts (ms ++ mk.map (·.1)) ws Hx ∧ Hx S = some (.lst ss) ∧ ImAll K Hx ss (mk.map mkD) ∧ ImAll K Hx ws (ks.map kdD) ∧ MP ts ms mk ∧ mk.length = j) ⟨_, _, _, _, _, [], [], rfl, ?_, eS4, .nil, im4, ⟨?_, ?_, (fun m h => nomatch h)⟩, rfl⟩ (fun _ _ _ _ _ => trivial) ?_ ?_
      · rw [List.map_nil, List.append_nil]; exact z4
      · rw [List.map_nil, List.append_nil]; exact kp.ndm
      · rw [List.map_nil, List.append_nil]; exact kp.hi
      · rintro j x σ Ha Hb hj ⟨y5, y8, y9, y10, y11, ss, mk, rfl, z, eS, imS, imF, mp, lj⟩ ⟨rfl, rfl⟩
        have hj6 : j < 6 := by omega
        show gName 5 (V.int ((0 : Int) + (j : Nat))) _ _ _
        rw [show (0 : Int) + (j : Nat) = (j : Nat) by omega]
        have lss : ss.length = j := by rw [imS.length, List.length_map]; exact lj
        have lmm : (ms ++ mk.map (·.1)).length ≤ 60 := by rw [List.length_append, List.length_map]; omega
        refine ⟨.ref c, rfl, .ref M, rfl, c, l, M, _, true, _, rfl, z.u, by omega, fz.Ml, z.eM, by omega, mp.hi, fun nm H3 hnm u3 b3 => ?_⟩
        have z3 := z.but fz u3 b3
        have eS3 := b3 _ _ pS.2.1 pS.2.2.1 eS
        have imS3 := ImAll.mono (z.tk b3) _ imS
        have imF3 := ImAll.mono (z.tk b3) _ imF
        refine ⟨fun σ' H' => ∃ nm : Str, σ' = [some (.ref c), some (.int most), some (.ref T), some (.ref M), some (.ref F'), some (.int (j : Nat)), some (.str title), some (.ref S), some (.str nm), y9, y10, y11, none, none] ∧ KS H c l T M F' (n + 121 + 170 * i + 2 + 27 * j + 21) ts (ms ++ mk.map (·.1)) ws H' ∧ But2 c l H3 H' ∧ High nm ∧ nm ∉ ms ++ mk.map (·.1), ?_, ?_⟩
        · refine ⟨.str title, rfl, .ref M, rfl, M, _, rfl, .inl (.of z3.eM), rfl, strs_flat _, _, rfl, ?_⟩
          rw [inV_strs']
          show if (!decide (title ∈ ms ++ mk.map (·.1))) = true then _ else _
          by_cases hin : title ∈ ms ++ mk.map (·.1)
          · rw [decide_eq_true hin]
            exact iteF ⟨nm, rfl, z3.mono (by omega), But2.refl _ _ _, nm_high hnm, hnm.new⟩
          · rw [decide_eq_false hin]
            refine iteT ⟨.ref c, rfl, c, l, 5, _, rfl, z3.u, by omega, by decide, by decide, fun d5 H5 hd5 u5 b5 => ⟨rfl, _, rfl, ?_⟩⟩
            by_cases h0 : V.int (d5 : Nat) = V.int 0
            · rw [decide_eq_true h0]
              exact iteT ⟨.str title, rfl, title, rfl, z3.but fz u5 b5, b5, hight, hin⟩
            · rw [decide_eq_false h0]
              exact iteF ⟨nm, rfl, z3.but fz u5 b5, b5, nm_high hnm, hnm.new⟩
        rintro σ' H4 ⟨nm', rfl, z4, b4, hh, hn⟩
        clear hnm
        have eS4 := b4 _ _ pS.2.1 pS.2.2.1 eS3
        have imS4 := ImAll.mono (z3.tk b4) _ imS3
        have imF4 := ImAll.mono (z3.tk b4) _ imF3
        refine ⟨.ref M, rfl, .inl ⟨rfl, _, .of z4.eM⟩, .str nm', rfl, M, _, .str nm', rfl, rfl, z4.eM, small1000 (by rw [List.length_map]; omega), ?_⟩
        rw [strs_snoc]
        have z5 := z4.putM fz (ms ++ mk.map (·.1) ++ [nm'])
        have eS5 : (upd H4 M (.lst ((ms ++ mk.map (·.1) ++ [nm']).map V.str))) S = some (.lst ss) := by rw [upd_ne pS.2.2.2.2.1]; exact eS4
        have tM : TK H4 (upd H4 M (.lst ((ms ++ mk.map (·.1) ++ [nm']).map V.str))) := tk_lst z4.eM
        have imS5 := ImAll.mono tM _ imS4
        have imF5 := ImAll.mono tM _ imF4
        clear z4 z3 z eS4 eS3 eS imS4 imS3 imS imF4 imF3 imF b3 b4 u3
        show (tSeq _ _ : TS) _ _ (upd H4 M (.lst ((ms ++ mk.map (·.1) ++ [nm']).map V.str)))
        generalize upd H4 M (.lst ((ms ++ mk.map (·.1) ++ [nm']).map V.str)) = H5 at *
        -- the sorts
        refine ⟨.ref T, rfl, by show 1 ≤ sizeLine; decide, fun L hL => ?_⟩
        have sL := same_new (o := .lst [.str "number"]) hL
        have lts : ts.length ≤ 6 := lt'.2
        refine ⟨T, L, _, _, rfl, rfl, sL _ _ z5.eT, upd_same, Nat.le_of_lt (small1000 (by rw [List.length_map]; show _ + 1 ≤ 1000; omega)), fun R hR => ?_⟩
        have sR := same_new (o := .lst (ts.map V.str ++ [.str "number"])) hR
        have eR : (upd (upd H5 L (.lst [.str "number"])) R (.lst (ts.map V.str ++ [.str "number"]))) R = some (.lst ((ts ++ [("number" : Str)]).map V.str)) := by rw [upd_same, strs_snoc]
        have z6 := z5.same (sL.trans sR)
        have eS6 := (sL.trans sR) _ _ eS5
        have imS6 := ImAll.mono (tk_same (sL.trans sR)) _ imS5
        have imF6 := ImAll.mono (tk_same (sL.trans sR)) _ imF5
        have pR := (z5.same sL).new hR
        have nRS : R ≠ S := (ne_of_none (sL _ _ eS5) hR).symm
        show (tSeq _ _ : TS) _ _ (upd (upd H5 L (.lst [.str "number"])) R (.lst (ts.map V.str ++ [.str "number"])))
        generalize upd (upd H5 L (.lst [.str "number"])) R (.lst (ts.map V.str ++ [.str "number"])) = H6 at *
        clear sL sR hL hR eS5 imS5 imF5 z5
        -- the fields
        refine ⟨by show 6 ≤ sizeLine; decide, fun L hL => ?_⟩
        have sL := same_new (o := .lst [.int 0, .int 1, .int 2, .int 2, .int 3, .int 4]) hL
        have pL := z6.new hL
        have eL : (upd H6 L (.lst [.int 0, .int 1, .int 2, .int 2, .int 3, .int 4])) L = some (.lst ([0, 1, 2, 2, 3, 4].map V.int)) := upd_same
        have z7 := z6.same sL
        have eS7 := sL _ _ eS6
        have eR7 := sL _ _ eR
        have imS7 := ImAll.mono (tk_same sL) _ imS6
        have imF7 := ImAll.mono (tk_same sL) _ imF6
        generalize upd H6 L (.lst [.int 0, .int 1, .int 2, .int 2, .int 3, .int 4]) = H7 at *
        refine ⟨.ref c, rfl, c, l, 6, _, rfl, z7.u, by omega, by decide, by decide, fun d8 H8 hd8 u8 b8 => ?_⟩
        obtain ⟨m4, hm4, mm4⟩ := int_at [0, 1, 2, 2, 3, 4] (d := d8) (by show d8 < 6; omega)
        have m04 : 0 ≤ m4 ∧ m4 ≤ 4 := (by decide : ∀ m ∈ [(0 : Int), 1, 2, 2, 3, 4], 0 ≤ m ∧ m ≤ 4) m4 mm4
        refine ⟨L, _, (d8 : Nat), _, rfl, rfl, .of (b8 _ _ pL.2.1 pL.2.2.1 eL), atI_nat hm4, m4, rfl, by omega, by omega, fun D hD => ?_⟩
        have z8 := z7.but fz u8 b8
        have eS8 := b8 _ _ pS.2.1 pS.2.2.1 eS7
        have eR8 := b8 _ _ pR.2.1 pR.2.2.1 eR7
        have imS8 := ImAll.mono (z7.tk b8) _ imS7
        have imF8 := ImAll.mono (z7.tk b8) _ imF7
        have pD := z8.new hD
        have nDS : D ≠ S := (ne_of_none eS8 hD).symm
        have nDR : D ≠ R := (ne_of_none eR8 hD).symm
        have sD := same_new (o := .lst []) hD
        clear eL sL hL z7 z6 eS7 eS6 eR7 eR imS7 imS6 imF7 imF6 u8 b8
        refine lc_all (walk_range (lo := 0) (n := m4.toNat)) (fun i' Hx => ∃ fs : List Str, KS H c l T M F' (n + 121 + 170 * i + 2 + 27 * j + 22 + i') ts (ms ++ mk.map (·.1) ++ [nm']) ws Hx ∧ Hx S = some (.lst ss) ∧ Hx R = some (.lst ((ts ++ [("number" : Str)]).map V.str)) ∧ ImAll K Hx ss (mk.map mkD) ∧ ImAll K Hx ws (ks.map kdD) ∧ Hx D = some (.lst (fs.map V.str)) ∧ fs.length = i' ∧ ∀ f ∈ fs, f ∈ ts ++ [("number" : Str)]) ⟨[], z8.same sD, sD _ _ eS8, sD _ _ eR8, ImAll.mono (tk_same sD) _ imS8, ImAll.mono (tk_same sD) _ imF8, upd_same, rfl, fun f h => nomatch h⟩ (fun _ _ _ _ => trivial) (fun i' x Hx Hy hi' zz y => ?_) (fun Hx zz => ?_)
        · obtain ⟨fs, zx, eSx, eRx, imSx, imFx, eDx, lfs, hfs⟩ := zz
          obtain ⟨rfl, rfl⟩ := y
          have ltn : (ts ++ [("number" : Str)]).length = ts.length + 1 := by rw [List.length_append]; rfl
          refine ⟨rfl, .ref R, rfl, .ref c, rfl, .ref R, rfl, R, _, rfl, .inl (.of eRx), c, l, _, _, rfl, zx.u, by omega, by rw [List.length_map, ltn]; omega, by rw [List.length_map, ltn]; omega, fun d9 H9 hd9 u9 b9 => ?_⟩
          rw [List.length_map, ltn] at hd9
          obtain ⟨fl, efl⟩ : ∃ fl, (ts ++ [("number" : Str)])[d9]? = some fl := ⟨_, List.getElem?_eq_getElem (by rw [ltn]; omega)⟩
          refine ⟨R, _, (d9 : Nat), .str fl, rfl, rfl, .of (b9 _ _ pR.2.1 pR.2.2.1 eRx), atI_nat (by rw [List.getElem?_map, efl]; rfl), _, b9 _ _ pD.2.1 pD.2.2.1 eDx, small1000 (by rw [List.length_map]; omega), ?_⟩
          rw [strs_snoc]
          have eD9 := b9 _ _ pD.2.1 pD.2.2.1 eDx
          have tk9 := (zx.tk b9).trans (tk_lst (o := .lst ((fs ++ [fl]).map V.str)) eD9)
          refine ⟨fs ++ [fl], (zx.but fz u9 b9).putN pD, by rw [upd_ne nDS.symm]; exact b9 _ _ pS.2.1 pS.2.2.1 eSx, by rw [upd_ne nDR.symm]; exact b9 _ _ pR.2.1 pR.2.2.1 eRx, ImAll.mono tk9 _ imSx, ImAll.mono tk9 _ imFx, upd_same, by rw [List.length_append, lfs]; rfl, fun f hf => ?_⟩
          rcases List.mem_append.mp hf with hf | hf
          · exact hfs f hf
          · rw [List.mem_singleton.mp hf]; exact List.mem_of_getElem? efl
        obtain ⟨fs, zx, eSx, eRx, imSx, imFx, eDx, lfs, hfs⟩ := zz
        have fl4 : fs.length ≤ 4 := by omega
        have zx' := zx.mono (m := n + 121 + 170 * i + 2 + 27 * j + 26) (by omega)
        clear zx lfs z8 eS8 eR8 imS8 imF8 sD
        refine ⟨fun σ' H' => ∃ (D : Addr) (fs : List Str), σ' = [some (.ref c), some (.int most), some (.ref T), some (.ref M), some (.ref F'), some (.int (j : Nat)), some (.str title), some (.ref S), some (.str nm'), some (.ref R), some (.ref D), y11, none, none] ∧ KS H c l T M F' (n + 121 + 170 * i + 2 + 27 * j + 27) ts (ms ++ mk.map (·.1) ++ [nm']) ws H' ∧ H' S = some (.lst ss) ∧ ImAll K H' ss (mk.map mkD) ∧ ImAll K H' ws (ks.map kdD) ∧ H' D = some (.lst (fs.map V.str)) ∧ fs.length ≤ 4 ∧ ∀ f ∈ fs, f ∈ ts ++ [("number" : Str)], ?_, ?_⟩
        · refine ⟨.int (j : Nat), rfl, rfl, _, rfl, ?_⟩
          by_cases h0 : V.int (j : Nat) = V.int 0
          rotate_left
          · rw [decide_eq_false h0]
            exact iteF ⟨D, fs, rfl, zx'.mono (by omega), eSx, imSx, imFx, eDx, fl4, hfs⟩
          rw [decide_eq_true h0]
          refine iteT ⟨.ref c, rfl, c, l, 4, _, rfl, zx'.u, by omega, by decide, by decide, fun d9 H9 hd9 u9 b9 => ⟨_, _, rfl, rfl, _, rfl, ?_⟩⟩
          have z9 := zx'.but fz u9 b9
          have eS9 := b9 _ _ pS.2.1 pS.2.2.1 eSx
          have eD9 := b9 _ _ pD.2.1 pD.2.2.1 eDx
          have imS9 := ImAll.mono (zx'.tk b9) _ imSx
          have imF9 := ImAll.mono (zx'.tk b9) _ imFx
          by_cases h1 : ((d9 : Nat) : Int) > 0
          rotate_left
          · rw [decide_eq_false h1]
            exact iteF ⟨D, fs, rfl, z9, eS9, imS9, imF9, eD9, fl4, hfs⟩
          rw [decide_eq_true h1]
          refine iteT ⟨.ref D, rfl, D, rfl, ⟨_, .of eD9⟩, fun E hE => ?_⟩
          have pE := z9.new hE
          have sE := same_new (o := .lst []) hE
          refine lc_it (walk_list (xs := fs.map V.str)) (fun i' Hx => Same H9 Hx ∧ KS H c l T M F' (n + 121 + 170 * i + 2 + 27 * j + 27) ts (ms ++ mk.map (·.1) ++ [nm']) ws Hx ∧ ∃ gs : List Str, Hx E = some (.lst (gs.map V.str)) ∧ gs.length ≤ i' ∧ ∀ f ∈ gs, f ∈ ts ++ [("number" : Str)]) ⟨sE, z9.same sE, [], upd_same, Nat.le_refl _, fun f h => nomatch h⟩ (fun i' Hx _ zz => .of (zz.1 _ _ eD9)) (fun i' x Hx Hy hi' zz y => ?_) (fun Hx zz => ?_)
          · obtain ⟨sx, zz, gs, eE, lg, hg⟩ := zz
            obtain ⟨rfl, hxi⟩ := y
            rw [List.length_map] at hi'
            rw [List.getElem?_map] at hxi
            obtain ⟨fl, hfl, rfl⟩ := Option.map_eq_some_iff.mp hxi
            refine ⟨rfl, .str fl, rfl, rfl, _, rfl, ?_⟩
            by_cases h2 : V.str fl = V.str "number"
            · rw [decide_eq_true h2]
              refine iteT ⟨.str fl, rfl, _, eE, small1000 (by rw [List.length_map]; omega), ?_⟩
              rw [strs_snoc]
              refine ⟨fun b o e => by rw [upd_ne (ne_of_none e hE)]; exact sx _ _ e, zz.putN pE, gs ++ [fl], upd_same, by rw [List.length_append]; show _ + 1 ≤ _; omega, fun f hf => ?_⟩
              rcases List.mem_append.mp hf with hf | hf
              · exact hg f hf
              · rw [List.mem_singleton.mp hf]; exact hfs fl (List.mem_of_getElem? hfl)
            · rw [decide_eq_false h2]
              exact iteF ⟨sx, zz, gs, eE, by omega, hg⟩
          · obtain ⟨sx, zz, gs, eE, lg, hg⟩ := zz
            rw [List.length_map] at lg
            exact ⟨E, gs, rfl, zz, sx _ _ eS9, ImAll.mono (tk_same sx) _ imS9, ImAll.mono (tk_same sx) _ imF9, eE, by omega, hg⟩
        rintro σ' H9 ⟨D2, fs2, rfl, z9, eS9, imS9, imF9, eD9, f4, hf2⟩
        refine ⟨.ref S, rfl, .inl ⟨rfl, _, .of eS9⟩, .str nm', rfl, .ref D2, rfl, D2, _, rfl, .inl ⟨.of eD9, fun t0 ht0 => ⟨by show 2 ≤ sizeLine; decide, fun t1 ht1 => ?_⟩⟩⟩
        have s0 := same_new (o := .tup (fs2.map V.str)) ht0
        have s1 := same_new (o := .tup [.str nm', .ref t0]) ht1
        have s01 := s0.trans s1
        have eS10 := s01 _ _ eS9
        have it0 : Im K (upd (upd H9 t0 (.tup (fs2.map V.str))) t1 (.tup [.str nm', .ref t0])) (.ref t1) (mkD (nm', fs2)) := by
          exact .tup (.inl upd_same) (.cons (.str _) (.cons (.tup (.inl (s1 _ _ upd_same)) (strs_im fs2)) .nil))
        have z10 := z9.same s01
        have imS10 := ImAll.mono (tk_same s01) _ imS9
        have imF10 := ImAll.mono (tk_same s01) _ imF9
        generalize upd (upd H9 t0 (.tup (fs2.map V.str))) t1 (.tup [.str nm', .ref t0]) = H10 at *
        have tS : TK H10 (upd H10 S (.lst (ss ++ [.ref t1]))) := tk_lst eS10
        refine ⟨S, ss, .ref t1, rfl, rfl, eS10, small1000 (by omega), _, _, _, _, _, ss ++ [.ref t1], mk ++ [(nm', fs2)], rfl, ?_, upd_same, ?_, ImAll.mono tS _ imF10, ⟨?_, ?_, fun m hm => ?_⟩, by rw [List.length_append, lj]; rfl⟩
        · rw [List.map_append, ← List.append_assoc]
          exact (z10.putN pS).mono (by omega)
        · rw [List.map_append]
          exact (ImAll.mono tS _ imS10).snoc (Im.mono tS _ it0)
        · rw [List.map_append, ← List.append_assoc]
          exact nodup_snoc mp.nd hn
        · rw [List.map_append, ← List.append_assoc]
          intro m hm
          rcases List.mem_append.mp hm with hm | hm
          · exact mp.hi m hm
          · rw [List.mem_singleton.mp hm]; exact hh.1
        · rcases List.mem_append.mp hm with hm | hm
          · exact mp.mkk m hm
          · rw [List.mem_singleton.mp hm]
            refine ⟨hh, f4, fun f hf => ?_⟩
            rcases List.mem_append.mp (hf2 f hf) with h | h
            · exact .inr h
            · exact .inl (List.mem_singleton.mp h)
      · rintro σ Ha ⟨y5, y8, y9, y10, y11, ss, mk, rfl, z, eS, imS, imF, mp, lj⟩
        have lmk : 1 ≤ mk.length ∧ mk.length ≤ 6 := by omega
        have lss : ss.length = mk.length := by rw [imS.length, List.length_map]
        have z' := z.mono (m := n + 121 + 170 * i + 164) (by omega)
        refine ⟨.ref c, rfl, .ref S, rfl, S, _, rfl, .inl (.of eS), c, l, _, _, rfl, z'.u, by omega, by omega, by omega, fun d5 H5 hd5 u5 b5 => ?_⟩
        have z5 := z'.but fz u5 b5
        have eS5 := b5 _ _ pS.2.1 pS.2.2.1 eS
        have imS5 := ImAll.mono (z'.tk b5) _ imS
        have imF5 := ImAll.mono (z'.tk b5) _ imF
        have d5s : d5 ≤ ss.length := by omega
        refine ⟨.ref F', rfl, .inl ⟨rfl, _, .of z5.eF⟩, .str title, rfl, .ref S, rfl, .int (d5 : Nat), rfl, (d5 : Nat), rfl, S, ss, rfl, .of eS5, fun p1 hp1 => ⟨.ref S, rfl, .int (d5 : Nat), rfl, (d5 : Nat), rfl, S, ss, rfl, .of (same_new hp1 _ _ eS5), fun p2 hp2 => ?_⟩⟩
        rw [cutV_from d5s, cutV_to d5s] at *
        have s1 := same_new (o := .lst (ss.drop d5)) hp1
        have s2 := same_new (o := .lst (ss.take d5)) hp2
        have l1 : (ss.drop d5).length + (ss.take d5).length ≤ 1000 := by rw [List.length_drop, List.length_take]; omega
        refine ⟨p1, p2, _, _, rfl, rfl, s2 _ _ upd_same, upd_same, Nat.le_trans l1 (by decide), fun p3 hp3 => ⟨p3, _, rfl, .inl ⟨.of upd_same, fun t0 ht0 => ⟨by show 2 ≤ sizeLine; decide, fun t1 ht1 => ?_⟩⟩⟩⟩
        have s3 := same_new (o := .lst (ss.drop d5 ++ ss.take d5)) hp3
        have s4 := same_new (o := .tup (ss.drop d5 ++ ss.take d5)) ht0
        have s5 := same_new (o := .tup [.str title, .ref t0]) ht1
        have sA := (((s1.trans s2).trans s3).trans s4).trans s5
        have it1 : ∀ Hz, TK (upd (upd (upd (upd (upd H5 p1 (.lst (ss.drop d5))) p2 (.lst (ss.take d5))) p3 (.lst (ss.drop d5 ++ ss.take d5))) t0 (.tup (ss.drop d5 ++ ss.take d5))) t1 (.tup [.str title, .ref t0])) Hz → Im K Hz (.ref t1) (kdD (title, mk.drop d5 ++ mk.take d5)) := fun Hz tz => by
          have i5 := ImAll.mono ((tk_same sA).trans tz) _ imS5
          refine .tup (.inl (tz _ _ upd_same)) (.cons (.str _) (.cons (.tup (.inl (tz _ _ (s5 _ _ upd_same))) ?_) .nil))
          rw [List.map_append]
          exact imAll_app (imAll_drop i5) (imAll_take i5)
        have z6 := z5.same sA
        have imF6 := ImAll.mono (tk_same sA) _ imF5
        generalize upd (upd (upd (upd (upd H5 p1 (.lst (ss.drop d5))) p2 (.lst (ss.take d5))) p3 (.lst (ss.drop d5 ++ ss.take d5))) t0 (.tup (ss.drop d5 ++ ss.take d5))) t1 (.tup [.str title, .ref t0]) = H6 at *
        have lws : ws.length ≤ 100 := by
          have e1 := imF.length
          have e2 := congrArg List.length kp.nm
          rw [List.length_map] at e1 e2
          rw [List.length_take] at e2
          omega
        have tF : TK H6 (upd H6 F' (.lst (ws ++ [.ref t1]))) := tk_lst z6.eF
        refine ⟨F', ws, .ref t1, rfl, rfl, z6.eF, small1000 (by omega), _, _, _, _, _, _, _, _, ws ++ [.ref t1], ks ++ [(title, mk.drop d5 ++ mk.take d5)], rfl, (z6.putF fz _).mono (by omega), ?_, kp.step hti mp lmk⟩
        rw [List.map_append]
        exact (ImAll.mono tF _ imF6).snoc (it1 _ tF)
    · rintro σ Hx ⟨y5, y6, y7, y8, y9, y10, y11, ms, ws, ks, rfl, z, im, kp⟩
      refine ⟨.ref F', rfl, F', _, rfl, .inl ⟨.of z.eF, fun t0 ht0 => q t0 ks _ ((z.u.same (same_new ht0)).mono ?_) (z.b.trans (but2_same (same_new ht0))) (kp.kinds lt' ndt ht) (.tup (.inl upd_same) (ImAll.mono (tk_new ht0) _ im))⟩⟩
      rw [List.length_map]
      omega
end
end K63

set_option Elab.async false
set_option linter.all false
set_option maxRecDepth 100000
set_option exponentiation.threshold 20000
set_option pp.deepTerms false
set_option pp.deepTerms.threshold 8
namespace K63
open PySem PySem.Spec PyProof.Rows L2 Ly Mt
/-! ### the law's own table -/
abbrev ORow := Str × Str × Nat × List Str
def oD (r : ORow) : PyData := .tuple [.str r.2.1, .int (r.2.2.1 : Nat), sD r.2.2.2]
def oAt (kd : Kd) (j : Nat) (m : Mk) : ORow := (m.1, kd.1, j, m.2)
def oKd (kd : Kd) : List ORow := (List.range kd.2.length).map fun j => oAt kd j (kd.2.getD j (noS, []))
def oRows (ks : List Kd) : List ORow := ks.flatMap oKd
structure TabO (K : PySem.W.Frag) (H : Hp) (d : Addr) (rs : List ORow) : Prop where
  ex : ∃ kvs : List (Key × V), H d = some (.dK kvs) ∧ kvs.map (·.1) = rs.map (fun r => Sum.inr r.1) ∧ ImAll K H (kvs.map (·.2)) (rs.map oD)
theorem TabO.same {K : PySem.W.Frag} {H H' : Hp} {d : Addr} {rs : List ORow} (h : TabO K H d rs) (s : Same H H') : TabO K H' d rs := by
  obtain ⟨kvs, e, h1, h2⟩ := h
  exact ⟨kvs, s _ _ e, h1, ImAll.mono (tk_same s) _ h2⟩
theorem TabO.put {K : PySem.W.Frag} {H : Hp} {d T : Addr} {rs : List ORow} {r : ORow} {kvs : List (Key × V)} (e : H d = some (.dK kvs)) (h1 : kvs.map (·.1) = rs.map (fun r => Sum.inr r.1)) (h2 : ImAll K H (kvs.map (·.2)) (rs.map oD)) (hn : r.1 ∉ rs.map (·.1)) (iT : Im K H (.ref T) (oD r)) :
    TabO K (upd H d (.dK (putK kvs (Sum.inr r.1) (.ref T)))) d (rs ++ [r]) := by
  have hv : valV kvs (Sum.inr r.1) = none := valV_none (by
    rw [h1]
    intro z
    obtain ⟨x, hx, ex⟩ := List.mem_map.mp z
    exact hn (List.mem_map.mpr ⟨x, hx, Sum.inr.inj ex⟩))
  rw [putK_new _ hv]
  have tk := tk_dK (o := .dK (kvs ++ [(Sum.inr r.1, V.ref T)])) e
  refine ⟨_, upd_same, by rw [List.map_append, List.map_append, h1]; rfl, ?_⟩
  rw [List.map_append, List.map_append]
  exact (ImAll.mono tk _ h2).snoc (Im.mono tk _ iT)
theorem valO_at {K : PySem.W.Frag} {H : Hp} : ∀ {kvs : List (Key × V)} {rs : List ORow} {i : Nat} {r : ORow}, kvs.map (·.1) = rs.map (fun r => Sum.inr r.1) → (rs.map (·.1)).Nodup → ImAll K H (kvs.map (·.2)) (rs.map oD) → rs[i]? = some r → ∃ v, valV kvs (Sum.inr r.1) = some v ∧ Im K H v (oD r)
  | [], [], i, r, _, _, _, h => by simp at h
  | p :: kvs, q :: rs, 0, r, h1, nd, im, h => by
    obtain rfl : q = r := by simpa using h
    rw [List.map_cons, List.map_cons] at h1
    injection h1 with e1 e2
    obtain ⟨v, vs, e3, i1, _⟩ := im.cons_inv
    injection e3 with e4 e5
    exact ⟨p.2, valV_pos e1, by have e5 : p.2 = v := e4; rw [e5]; exact i1⟩
  | p :: kvs, q :: rs, i + 1, r, h1, nd, im, h => by
    have hr : rs[i]? = some r := by simpa using h
    rw [List.map_cons, List.map_cons] at h1
    injection h1 with e1 e2
    obtain ⟨v, vs, e3, i1, ir⟩ := im.cons_inv
    injection e3 with e4 e5
    rw [List.map_cons, List.nodup_cons] at nd
    rw [← e5] at ir
    obtain ⟨u, h3, h4⟩ := valO_at e2 nd.2 ir hr
    refine ⟨u, ?_, h4⟩
    rw [valV_neg (fun z => nd.1 ?_)]
    · exact h3
    · rw [e1] at z
      have : q.1 = r.1 := Sum.inr.inj z
      rw [this]
      exact List.mem_map.mpr ⟨r, List.mem_of_getElem? hr, rfl⟩
  | [], _ :: _, _, _, h1, _, _, _ => by simp at h1
  | _ :: _, [], _, _, h1, _, _, _ => by simp at h1
theorem oKd_len (kd : Kd) : (oKd kd).length = kd.2.length := by unfold oKd; simp
theorem oKd_at {kd : Kd} {j : Nat} {m : Mk} (h : kd.2[j]? = some m) : (oKd kd)[j]? = some (oAt kd j m) := by
  have hj := (List.getElem?_eq_some_iff.mp h).1
  unfold oKd
  rw [List.getElem?_map, List.getElem?_range hj]
  show some (oAt kd j (kd.2.getD j (noS, []))) = _
  rw [List.getD_eq_getElem?_getD, h]; rfl
theorem oKd_names (kd : Kd) : (oKd kd).map (·.1) = kd.2.map (·.1) := by
  refine List.ext_getElem? fun j => ?_
  rw [List.getElem?_map, List.getElem?_map]
  cases h : kd.2[j]? with
  | none => rw [List.getElem?_eq_none (by rw [oKd_len]; exact List.getElem?_eq_none_iff.mp h)]; rfl
  | some m => rw [oKd_at h]; rfl
theorem oRows_names (ks : List Kd) : (oRows ks).map (·.1) = (allMk ks).map (·.1) := by
  unfold oRows allMk
  rw [List.map_flatMap, List.map_flatMap]
  exact congrArg (ks.flatMap ·) (funext oKd_names)
theorem oRows_few {ks : List Kd} (h : ∀ k ∈ ks, k.2.length ≤ 6) : (oRows ks).length ≤ 6 * ks.length := by
  induction ks with
  | nil => exact Nat.le_refl _
  | cons k ks ih =>
    have := ih fun x hx => h x (List.mem_cons_of_mem _ hx)
    have h1 := h k (List.mem_cons_self ..)
    unfold oRows at this ⊢
    rw [List.flatMap_cons, List.length_append, List.length_cons, oKd_len]
    omega
theorem oRows_take {ks : List Kd} {i : Nat} {kd : Kd} (h : ks[i]? = some kd) : oRows (ks.take (i + 1)) = oRows (ks.take i) ++ oKd kd := by
  unfold oRows
  rw [List.take_add_one, h, List.flatMap_append]
  show _ ++ (oKd kd ++ []) = _
  rw [List.append_nil]
theorem oRows_pre (ks : List Kd) (i : Nat) : oRows (ks.take i) <+: oRows ks := by
  refine ⟨oRows (ks.drop i), ?_⟩
  unfold oRows
  rw [← List.flatMap_append, List.take_append_drop]
theorem oRow_new {ks : List Kd} (nd : ((allMk ks).map (·.1)).Nodup) {i j : Nat} {kd : Kd} {m : Mk} (hk : ks[i]? = some kd) (hm : kd.2[j]? = some m) : m.1 ∉ (oRows (ks.take i) ++ (oKd kd).take j).map (·.1) := by
  have p1 := oRows_pre ks (i + 1)
  rw [oRows_take hk] at p1
  have p2 : oRows (ks.take i) ++ (oKd kd).take (j + 1) <+: oRows ks := by
    refine List.IsPrefix.trans ?_ p1
    obtain ⟨t, ht⟩ := List.take_prefix (j + 1) (oKd kd)
    exact ⟨t, by rw [List.append_assoc, ht]⟩
  rw [List.take_add_one, oKd_at hm, ← List.append_assoc] at p2
  have nd2 : ((oRows ks).map (·.1)).Nodup := by rw [oRows_names]; exact nd
  have p3 := (List.IsPrefix.map (·.1) p2).sublist.nodup nd2
  rw [List.map_append] at p3
  intro z
  exact (List.nodup_append.mp p3).2.2 _ z _ (List.mem_singleton.mpr rfl) rfl
theorem tbO_get {K : PySem.W.Frag} {H : Hp} {d : Addr} {ks : List Kd} (tb : TabO K H d (oRows ks)) (ok : KindsOk ks) {nm t : Str} {fs : List Str} (h : lkp ks nm = some (t, fs)) : ∃ j v, DGet H d (.str nm) (some v) ∧ Im K H v (oD (nm, t, j, fs)) := by
  obtain ⟨i, j, kd, m, at', rfl, rfl⟩ := lkp_some h
  have mem : oAt kd j m ∈ oRows ks := List.mem_flatMap.mpr ⟨kd, List.mem_of_getElem? at'.hk, List.mem_of_getElem? (oKd_at at'.hm)⟩
  obtain ⟨n, hn⟩ := List.getElem?_of_mem mem
  have nd : ((oRows ks).map (·.1)).Nodup := by rw [oRows_names]; exact ok.ndm
  obtain ⟨kvs, e, h1, h2⟩ := tb
  obtain ⟨v, hv, iv⟩ := valO_at h1 nd h2 hn
  have en : (oAt kd j m).1 = nm := at'.nm
  rw [en] at hv
  refine ⟨j, v, ?_, ?_⟩
  · have g : DGet H d (kV (Sum.inr nm)) (valV kvs (Sum.inr nm)) := .k e
    rw [hv] at g
    exact g
  · have := iv
    unfold oAt at this
    rw [at'.nm] at this
    exact this
theorem tbO_no {K : PySem.W.Frag} {H : Hp} {d : Addr} {ks : List Kd} (tb : TabO K H d (oRows ks)) {nm : Str} (h : lkp ks nm = none) : DGet H d (.str nm) none := by
  obtain ⟨kvs, e, h1, h2⟩ := tb
  have hv : valV kvs (Sum.inr nm) = none := valV_none (by
    rw [h1]
    intro z
    obtain ⟨r, hr, er⟩ := List.mem_map.mp z
    have := lkp_none h
    rw [← oRows_names] at this
    exact this (List.mem_map.mpr ⟨r, hr, Sum.inr.inj er⟩))
  have g : DGet H d (kV (Sum.inr nm)) (valV kvs (Sum.inr nm)) := .k e
  rw [hv] at g
  exact g
/-- a drawn integer is not too great -/
def DrI (i : Int) : Prop := i.natAbs < 2 ^ 340
theorem drI_small {i : Int} (h : i.natAbs < 2 ^ 40) : DrI i := Nat.lt_of_lt_of_le h (Nat.pow_le_pow_right (by decide) (by decide))
theorem drI_great {i g b : Int} (h1 : i.natAbs ≤ 4) (h2 : g.natAbs < 2 ^ 335) (h3 : b.natAbs < 2 ^ 40) : DrI (i * g + b) := by
  have a1 := Int.natAbs_add_le (i * g) b
  rw [Int.natAbs_mul] at a1
  have a2 : i.natAbs * g.natAbs ≤ 4 * 2 ^ 335 := Nat.mul_le_mul h1 (Nat.le_of_lt h2)
  have a3 : 4 * 2 ^ 335 + 2 ^ 40 < (2 : Nat) ^ 340 := by decide
  unfold DrI
  omega
section
variable {P : Program} {w : World} {K : PySem.W.Frag} {mg : Str → Option Value} {base : Heap}
abbrev s__law_table : Stmt := topS 37
theorem sc__law_table : FnScope ["family", "table", "title", "makers", "k"] ["family"] (defScope s__law_table) := ⟨rfl, rfl, rfl, by decide +kernel, rfl, by decide +kernel, by decide +kernel⟩
def sl_table (K : PySem.W.Frag) : Sp := fun vs H Q _ => ∃ v ks, vs = [v] ∧ Im K H v (ksD ks) ∧ KindsOk ks ∧ ∀ d H', Same H H' → H d = none → TabO K H' d (oRows ks) → Q (.ref d) H'
theorem ok__law_table {f : Addr} {fd : FuncData} {k : Nat} (F : Fun K "_law_table" "_law_table" s__law_table f fd) (T : Tx K mg) : FnOk P w K mg base CX0 (k + 1) f fd ["family"] (sl_table K) := by
  have nd := sc__law_table.nd
  refine F.ok sc__law_table (fun vs H Q E h => ?_) (fun cdv A outer s H vs Q E hr h => ?_)
  · obtain ⟨_, _, rfl, _⟩ := h
    rfl
  · obtain ⟨v, ks, rfl, iv, ok, q⟩ := h
    obtain ⟨a, xs, rfl, ha, hx⟩ := iv.tuple_inv
    have lx : xs.length = ks.length := all_len hx
    have few := ok.few
    refine ⟨_, (pss_cons (ps_set (i := 1) nd rfl (.inl rfl) pe_dnewK)
      (pss_cons (ps_for PassesOwn.never rfl (kpi_tup K (pv 0)) (kpg_tup K (n := 2) rfl (pgs_cons (pg_name (i := 2) nd rfl (.inl rfl)) (pgs_cons (pg_name (i := 3) nd rfl (.inl rfl)) pgs_nil)))
        (pss_one (ps_for PassesOwn.never rfl (pi_range1 rfl T.m_range (pa_cons (pe_callB (kcall_len K) (by rfl) T.m_len PySem.boot_len (pa_cons (pv 3) pa_nil)) pa_nil)) (pg_name (i := 4) nd rfl (.inl rfl))
          (pss_one (ps_dput (hu_of hr) (pv 1) (pe_ix (kix_tup K) (pe_ix (kix_tup K) (pv 3) (pv 4) (fun _ _ => rfl)) pe_int (fun _ _ => rfl)) (pe_tup (pa_cons (pv 2) (pa_cons (pv 4) (pa_cons (pe_ix (kix_tup K) (pe_ix (kix_tup K) (pv 3) (pv 4) (fun _ _ => rfl)) pe_int (fun _ _ => rfl)) pa_nil)))) rfl)))))
      (pss_one (ps_ret (pv 1))))), ?_⟩
    refine fun d2 hd2 => ?_
    have s2 : Same H (upd H d2 (.dK [])) := same_new hd2
    have e2 : (upd H d2 (.dK [])) d2 = some (.dK []) := upd_same
    generalize upd H d2 (.dK []) = H2 at *
    refine ⟨.ref a, rfl, a, rfl, ⟨_, (ha.mono (tk_same s2)).sq⟩, ?_⟩
    refine for_it (walk_tup (xs := xs)) (fun i σ Ha => ∃ (y2 y3 y4 : Option V), σ = [some (.ref a), some (.ref d2), y2, y3, y4] ∧ Same H Ha ∧ TabO K Ha d2 (oRows (ks.take i))) ⟨_, _, _, rfl, s2, [], e2, rfl, .nil⟩ (fun i σ Ha _ z => ?_) ?_ ?_
    · obtain ⟨_, _, _, _, sm, _⟩ := z
      exact (ha.mono (tk_same sm)).sq
    · rintro i x σ Ha Hb hi ⟨y2, y3, y4, rfl, sm, tb⟩ ⟨rfl, ex⟩
      obtain ⟨kd, hkd, ikd⟩ := all_get (ImAll.mono (tk_same sm) _ hx) ex
      have kmem := List.mem_of_getElem? hkd
      obtain ⟨pk, u1, u2, rfl, hpk, iu1, iu2⟩ := im_pair ikd
      obtain rfl := iu1.str_inv
      obtain ⟨pm, us, rfl, hpm, ius⟩ := iu2.tuple_inv
      have lus : us.length = kd.2.length := all_len ius
      have m6 := (ok.mks _ kmem).2
      refine ⟨pk, _, rfl, hpk.sq, rfl, .str kd.1, _, rfl, .ref pm, _, rfl, rfl, ?_⟩
      refine ⟨.ref pm, rfl, pm, us, rfl, .inr hpm.sq, _, rfl, by omega, by omega, ?_⟩
      refine for_it (walk_range (lo := 0) (n := ((us.length : Nat) : Int).toNat)) (fun j σ Hb => ∃ (y4 : Option V), σ = [some (.ref a), some (.ref d2), some (.str kd.1), some (.ref pm), y4] ∧ Same H Hb ∧ ITup K Hb pm us ∧ ImAll K Hb us (kd.2.map mkD) ∧ TabO K Hb d2 (oRows (ks.take i) ++ (oKd kd).take j)) ⟨_, rfl, sm, hpm, ius, by rw [List.take_zero, List.append_nil]; exact tb⟩ (fun _ _ _ _ _ => trivial) ?_ ?_
      · rintro j x σ Hb Hc hj ⟨y4, rfl, smb, hpmb, iub, tbb⟩ ⟨rfl, rfl⟩
        show gName 4 (V.int ((0 : Int) + (j : Nat))) _ _ _
        rw [show (0 : Int) + (j : Nat) = (j : Nat) by omega]
        rw [Int.toNat_natCast] at hj
        obtain ⟨m, hm⟩ : ∃ m, kd.2[j]? = some m := ⟨_, List.getElem?_eq_getElem (by omega)⟩
        have mmem := List.mem_of_getElem? hm
        obtain ⟨x, ex, imm⟩ := all_at iub hm
        obtain ⟨pp, u1, u2, rfl, hpp, iu1, iu2⟩ := im_pair imm
        obtain rfl := iu1.str_inv
        refine ⟨.str kd.1, rfl, .int (j : Nat), rfl, .ref pm, rfl, .int (j : Nat), rfl, pm, us, _, .ref pp, rfl, rfl, hpmb.sq, atI_nat ex, pp, _, 1, _, rfl, rfl, hpp.sq, atI_nat (j := 1) rfl, by show 3 ≤ sizeLine; decide, fun T3 hT3 => ?_⟩
        have s7 := same_new (o := .tup [.str kd.1, .int (j : Nat), u2]) hT3
        have iT3 : Im K (upd Hc T3 (.tup [.str kd.1, .int (j : Nat), u2])) (.ref T3) (oD (oAt kd j m)) := .tup (.inl upd_same) (.cons (.str _) (.cons (.int _) (.cons (Im.mono (tk_same s7) _ iu2) .nil)))
        have hpm7 := hpmb.mono (tk_same s7)
        have hpp7 := hpp.mono (tk_same s7)
        have iu7 := ImAll.mono (tk_same s7) _ iub
        generalize upd Hc T3 (.tup [.str kd.1, .int (j : Nat), u2]) = H7 at *
        obtain ⟨kvs, ek, h1, h2⟩ := tbb.same s7
        have lk : kvs.length ≤ 100 := by
          have e := congrArg List.length h1
          have f1 := oRows_few (ks := ks.take i) fun k hk => (ok.mks k (List.mem_of_mem_take hk)).2
          rw [List.length_take] at f1
          rw [List.length_map, List.length_map, List.length_append, List.length_take, oKd_len] at e
          omega
        refine ⟨.ref d2, rfl, .ref pm, rfl, .int (j : Nat), rfl, pm, us, _, .ref pp, rfl, rfl, hpm7.sq, atI_nat ex, pp, _, 0, _, rfl, rfl, hpp7.sq, atI_nat (j := 0) rfl, d2, _, rfl, .k (k := Sum.inr m.1) ek (small1000 (by omega)), ?_⟩
        refine ⟨_, rfl, fun b o e => ?_, hpm7.mono (tk_dK ek), ImAll.mono (tk_dK ek) _ iu7, ?_⟩
        · rw [upd_ne (ne_of_none e hd2)]
          exact s7 _ _ (smb _ _ e)
        · rw [List.take_add_one, oKd_at hm, ← List.append_assoc]
          exact TabO.put (r := oAt kd j m) ek h1 h2 (oRow_new ok.ndm hkd hm) iT3
      · rintro σ Hb ⟨y4, rfl, smb, hpmb, iub, tbb⟩
        refine ⟨_, _, _, rfl, smb, ?_⟩
        rw [oRows_take hkd]
        rw [Int.toNat_natCast, lus, List.take_of_length_le (l := oKd kd) (by rw [oKd_len]; exact Nat.le_refl _)] at tbb
        exact tbb
    · rintro σ Ha ⟨y2, y3, y4, rfl, sm, tb⟩
      rw [lx, List.take_of_length_le (Nat.le_refl _)] at tb
      exact ⟨.ref d2, rfl, q d2 Ha sm hd2 tb⟩
abbrev s__law_integer : Stmt := topS 38
theorem sc__law_integer : FnScope ["well", "small", "far", "great"] ["well"] (defScope s__law_integer) := ⟨rfl, rfl, rfl, by decide +kernel, rfl, by decide +kernel, by decide +kernel⟩
def sl_integer (K : PySem.W.Frag) : Sp := fun vs H Q _ => ∃ (c l : Addr) (n : Nat), vs = [.ref c] ∧ Wel H c l n ∧ n < 2 ^ 59 ∧ ∀ (i : Int) H', DrI i → Wel H' c l (n + 5) → But2 c l H H' → Q (.int i) H'
theorem ok__law_integer {f : Addr} {fd : FuncData} {k : Nat} (F : Fun K "_law_integer" "_law_integer" s__law_integer f fd) (T : Tx K mg){k1 : Nat} (D__law_draw : Def P w K mg base k1 "_law_draw" s__law_draw ["well", "many"] sp_draw) (e1 : k1 ≤ k) : FnOk P w K mg base CX0 (k + 1) f fd ["well"] (sl_integer K) := by
  have nd := sc__law_integer.nd
  refine F.ok sc__law_integer (fun vs H Q E h => ?_) (fun cdv A outer s H vs Q E hr h => ?_)
  · obtain ⟨_, _, _, rfl, _⟩ := h
    rfl
  · obtain ⟨c, l, n, rfl, u, n59, q⟩ := h
    refine ⟨_, (pss_cons (ps_par (i := 1) (j := 2) (by rfl) nd rfl rfl (by decide) rfl rfl (pa_cons (pe_op op_sub (pe_def D__law_draw (hr.mono (by omega)) rfl (pa_cons (pv 0) (pa_cons pe_int pa_nil))) pe_int) (pa_cons (pe_def D__law_draw (hr.mono (by omega)) rfl (pa_cons (pv 0) (pa_cons (pe_op op_pow pe_int pe_int) pa_nil))) pa_nil)) (by rfl))
      (pss_cons (ps_set (i := 3) nd rfl (.inl rfl) (pe_ix (kix_list K) (pe_lst (pa_cons (pe_op op_pow pe_int pe_int) (pa_cons (pe_op op_mulW (pe_op op_pow pe_int pe_int) (pe_op op_pow pe_int pe_int)) pa_nil))) (pe_def D__law_draw (hr.mono (by omega)) rfl (pa_cons (pv 0) (pa_cons pe_int pa_nil))) (fun _ _ => rfl)))
      (pss_one (ps_ret (pe_ix (kix_list K) (pe_lst (pa_cons (pv 1) (pa_cons (pv 1) (pa_cons (pe_op op_sub (pe_def D__law_draw (hr.mono (by omega)) rfl (pa_cons (pv 0) (pa_cons pe_int pa_nil))) pe_int) (pa_cons (pe_op op_add (pe_op op_mulW (pv 1) (pv 3)) (pv 2)) pa_nil))))) (pe_def D__law_draw (hr.mono (by omega)) rfl (pa_cons (pv 0) (pa_cons pe_int pa_nil))) (fun _ _ => rfl)))))), ?_⟩
    refine ⟨.ref c, rfl, c, l, 7, n, rfl, u, by omega, by decide, by decide, fun a H1 ha u1 b1 => ⟨_, _, rfl, rfl, ?_⟩⟩
    refine ⟨.ref c, rfl, _, _, rfl, rfl, ⟨by decide, by decide, by decide⟩, c, l, _, n + 1, rfl, u1, by omega, by decide, by decide, fun b H2 hb u2 b2 => ⟨_, _, rfl, ?_⟩⟩
    have hb' : b < 1000000000 := by
      have : ((b : Nat) : Int) < 1000000000 := hb
      omega
    refine ⟨_, _, rfl, rfl, ⟨by decide, by decide, by decide⟩, _, _, rfl, rfl, ⟨by decide, by decide, by decide⟩, _, _, rfl, rfl, ⟨by decide, by decide, by decide⟩, _, _, rfl, rfl, wide_mul (a := 300) (b := 300) (by decide) (by decide) (by decide) (by decide) (by decide), by show 2 ≤ sizeLine; decide, fun L hL => ?_⟩
    have sL := same_new (o := .lst [.int ((10 : Int) ^ (30 : Int).toNat), .int ((10 : Int) ^ (60 : Int).toNat * (10 : Int) ^ (40 : Int).toNat)]) hL
    have eL : (upd H2 L (.lst [.int ((10 : Int) ^ (30 : Int).toNat), .int ((10 : Int) ^ (60 : Int).toNat * (10 : Int) ^ (40 : Int).toNat)])) L = some (.lst ([(10 : Int) ^ (30 : Int).toNat, (10 : Int) ^ (60 : Int).toNat * (10 : Int) ^ (40 : Int).toNat].map V.int)) := upd_same
    have u2L := u2.same sL
    have nLc := u2.nw hL
    have nLl := u2.nl hL
    have b02 := (b1.trans b2).trans (but2_same sL)
    generalize upd H2 L (.lst [.int ((10 : Int) ^ (30 : Int).toNat), .int ((10 : Int) ^ (60 : Int).toNat * (10 : Int) ^ (40 : Int).toNat)]) = H3 at *
    refine ⟨.ref c, rfl, c, l, 2, _, rfl, u2L, by omega, by decide, by decide, fun e H4 he u4 b4 => ?_⟩
    obtain ⟨g, hg, mg'⟩ := int_at [(10 : Int) ^ (30 : Int).toNat, (10 : Int) ^ (60 : Int).toNat * (10 : Int) ^ (40 : Int).toNat] (d := e) (by show e < 2; omega)
    have g340 : g.natAbs < 2 ^ 335 := (by decide : ∀ m ∈ [(10 : Int) ^ (30 : Int).toNat, (10 : Int) ^ (60 : Int).toNat * (10 : Int) ^ (40 : Int).toNat], m.natAbs < 2 ^ 335) g mg'
    refine ⟨L, _, (e : Nat), _, rfl, rfl, .of (b4 _ _ nLc nLl eL), atI_nat hg, ?_⟩
    have b04 := b02.trans b4
    have ha' : a < 7 := by
      have : ((a : Nat) : Int) < 7 := ha
      omega
    refine ⟨.int ((a : Nat) - 3), rfl, .int ((a : Nat) - 3), rfl, .ref c, rfl, c, l, 2001, _, rfl, u4, by omega, by decide, by decide, fun f H5 hf u5 b5 => ⟨_, _, rfl, rfl, ?_⟩⟩
    refine ⟨.int ((a : Nat) - 3), rfl, .int g, rfl, _, _, rfl, rfl, wide_mul (a := 4) (b := 335) (by omega) g340 (by decide) (by decide) (by decide), .int (b : Nat), rfl, _, _, rfl, rfl, by show 4 ≤ sizeLine; decide, fun M hM => ?_⟩
    have hf' : f < 2001 := by
      have : ((f : Nat) : Int) < 2001 := hf
      omega
    have m1 : DrI ((a : Nat) - 3 : Int) := drI_small (by show _ < 1099511627776; omega)
    have m2 : DrI ((f : Nat) - 1000 : Int) := drI_small (by show _ < 1099511627776; omega)
    have m3 : DrI (((a : Nat) - 3 : Int) * g + (b : Nat)) := drI_great (by omega) g340 (by omega)
    have sM := same_new (o := .lst [.int ((a : Nat) - 3), .int ((a : Nat) - 3), .int ((f : Nat) - 1000), .int (((a : Nat) - 3) * g + (b : Nat))]) hM
    have eM : (upd H5 M (.lst [.int ((a : Nat) - 3), .int ((a : Nat) - 3), .int ((f : Nat) - 1000), .int (((a : Nat) - 3) * g + (b : Nat))])) M = some (.lst ([((a : Nat) - 3 : Int), ((a : Nat) - 3 : Int), ((f : Nat) - 1000 : Int), ((a : Nat) - 3 : Int) * g + (b : Nat)].map V.int)) := upd_same
    have u5M := u5.same sM
    have nMc := u5.nw hM
    have nMl := u5.nl hM
    have b05 := (b04.trans b5).trans (but2_same sM)
    refine ⟨.ref c, rfl, c, l, 4, _, rfl, u5M, by omega, by decide, by decide, fun e H6 he u6 b6 => ?_⟩
    obtain ⟨g2, hg2, mg2⟩ := int_at [((a : Nat) - 3 : Int), ((a : Nat) - 3 : Int), ((f : Nat) - 1000 : Int), ((a : Nat) - 3 : Int) * g + (b : Nat)] (d := e) (by show e < 4; omega)
    refine ⟨M, _, (e : Nat), _, rfl, rfl, .of (b6 _ _ nMc nMl eM), atI_nat hg2, q g2 H6 ?_ (u6.mono (by omega)) (b05.trans b6)⟩
    rcases List.mem_cons.mp mg2 with rfl | h
    · exact m1
    rcases List.mem_cons.mp h with rfl | h
    · exact m1
    rcases List.mem_cons.mp h with rfl | h
    · exact m2
    rw [List.mem_singleton.mp h]
    exact m3
end
end K63

set_option Elab.async false
set_option linter.all false
set_option maxRecDepth 100000
/-! x is True, x is False, of any x -/
namespace Ly
open PySem PySem.Spec PyProof.Rows L2
def rIsV : R2 := fun x y H Q => ∃ b : Bool, y = .bl b ∧ Q (.bl (decide (x = .bl b))) H
theorem op_isV {X : Cx} : OpR X (compareOp .Is) rIsV := by
  intro pins s σ H x y v u Q I rx ry h
  obtain ⟨b, rfl, q⟩ := h
  cases (show u = Value.bool b from ry)
  by_cases e : x = .bl b
  · subst e
    cases (show v = Value.bool b from rx)
    refine wpAny_is_self rfl ⟨.bl true, H, I, rfl, ?_⟩
    rw [decide_eq_true rfl] at q
    exact q
  · rw [decide_eq_false e] at q
    have hp : plainIs v (.bool b) = true ∧ v ≠ .bool b := by
      cases x with
      | non => cases (show v = Value.none from rx); exact ⟨rfl, fun z => (by cases z)⟩
      | bl a => cases (show v = Value.bool a from rx); exact ⟨rfl, fun z => e (by cases z; rfl)⟩
      | int i => obtain ⟨t, rfl⟩ := (show ∃ t, v = Value.int i t from rx); exact ⟨rfl, fun z => (by cases z)⟩
      | str i => obtain ⟨t, rfl⟩ := (show ∃ t, v = Value.str i t from rx); exact ⟨rfl, fun z => (by cases z)⟩
      | byt i => obtain ⟨t, rfl⟩ := (show ∃ t, v = Value.bytes i t from rx); exact ⟨rfl, fun z => (by cases z)⟩
      | flt i => obtain ⟨t, rfl⟩ := (show ∃ t, v = Value.float i t from rx); exact ⟨rfl, fun z => (by cases z)⟩
      | ref a => cases (show v = Value.ref a from rx); exact ⟨rfl, fun z => (by cases z)⟩
      | ty n => cases (show v = Value.type n from rx); exact ⟨rfl, fun z => (by cases z)⟩
    exact wpAny_is_other hp.1 hp.2 ⟨.bl false, H, I, rfl, q⟩
theorem cr_range1 {X : Cx} : CallR X (.type "range") (fun vs H Q => ∃ j, vs = [V.int j] ∧ ∀ p, H p = none → Q (.ref p) (upd H p (.rng 0 j))) := by
  intro pins s σ H vs us Q I r h
  obtain ⟨j, rfl, q⟩ := h
  obtain ⟨u, rfl, ru⟩ := Vals.one r
  obtain ⟨t, rfl⟩ := ru
  refine call_range_1 ⟨.ref s.heap.objs.size, upd H s.heap.objs.size (.rng 0 j), I.laid (t' := s.toks + 1 + 1) (fun b o e => Heap.get?_push_of_some _ e) (Nat.le_refl _) ?_, rfl, q _ (I.hok.fresh (Nat.le_refl _))⟩
  exact ⟨s.toks, t, s.toks + 1, Heap.get?_push_size _ rfl⟩
end Ly

set_option Elab.async false
set_option linter.all false
set_option maxRecDepth 100000
/-! x not in range(..) -/
namespace Ly
open PySem PySem.Spec PyProof.Rows L2
theorem op_notin_rng {X : Cx} : OpR X (compareOp .NotIn) (fun x y H Q => ∃ i a lo hi, x = V.int i ∧ y = V.ref a ∧ H a = some (.rng lo hi) ∧ Q (.bl (!decide (lo ≤ i ∧ i < hi))) H) := by
  intro pins s σ H x y v u Q I rx ry h
  obtain ⟨i, a, lo, hi, rfl, rfl, ha, q⟩ := h
  obtain ⟨k, rfl⟩ := rx
  obtain rfl : u = Value.ref a := ry
  obtain ⟨t1, t2, t3, ho⟩ := I.hok a _ ha
  show wpAny _ _ (do return Value.bool (!(← contains (Value.ref a) (Value.int i k)))) _ _ s
  refine wpAny_bind (wpAny_contains_slot (T := "range") ⟨_, ho, rfl⟩ F.slot_range_contains (call_meets F.slot_range_contains ⟨_, ho, rfl⟩ F.entry_range_contains (F.args_range_contains_2 _ _) (q_contains a lo hi i t1 t2 t3 k)
    ⟨ho, wpAny_truthy_bool (wpAny_pure ⟨.bl _, H, I, rfl, ?_⟩)⟩))
  rw [place1]
  exact q
end Ly

set_option Elab.async false
set_option linter.all false
set_option maxRecDepth 100000
set_option exponentiation.threshold 20000
set_option pp.deepTerms false
set_option pp.deepTerms.threshold 8
namespace K63
open PySem PySem.Spec PyProof.Rows L2 Ly Mt
/-! ### the law's own judge of lines -/
theorem in96 (n : Nat) (ds : List PyData) (h : n = ds.length) : (!decide ((1 : Int) ≤ (n : Nat) ∧ ((n : Nat) : Int) < 97)) = !jRow (.tuple ds) 1 96 := by
  subst h
  show _ = !(decide _ && decide _)
  congr 1
  rw [← Bool.decide_and]
  exact decide_eq_decide.mpr ⟨fun h => by omega, fun h => by omega⟩
section
variable {P : Program} {w : World} {K : PySem.W.Frag} {mg : Str → Option Value} {base : Heap}
abbrev s__law_is_lines : Stmt := topS 41
theorem sc__law_is_lines : FnScope ["table", "value", "sorts", "line", "fields", "k", "entry"] ["table", "value"] (defScope s__law_is_lines) := ⟨rfl, rfl, rfl, by decide +kernel, rfl, by decide +kernel, by decide +kernel⟩
def sl_is_lines (K : PySem.W.Frag) : Sp := fun vs H Q _ => ∃ (S : Addr → Prop) (d : Addr) (u : V) (ks : List Kd) (e : PyData), vs = [.ref d, u] ∧ KindsOk ks ∧ TabO K H d (oRows ks) ∧ Od K S H u e ∧ ∀ H', Same H H' → Q (.bl (jRows ks e)) H'
set_option maxHeartbeats 2000000 in
theorem ok__law_is_lines {f : Addr} {fd : FuncData} {k : Nat} (F : Fun K "_law_is_lines" "_law_is_lines" s__law_is_lines f fd) (T : Tx K mg) : FnOk P w K mg base CX0 (k + 1) f fd ["table", "value"] (sl_is_lines K) := by
  have nd := sc__law_is_lines.nd
  refine F.ok sc__law_is_lines (fun vs H Q E h => ?_) (fun cdv A outer s H vs Q E hr h => ?_)
  · obtain ⟨_, _, _, _, _, rfl, _⟩ := h
    rfl
  · obtain ⟨S, d, u, ks, e, rfl, ok, tb, ou, q⟩ := h
    refine ⟨_, (pss_cons (ps_if (PW.pt (pw_or (pt_not (pt_val (pe_callB (kcall_isi K) (by rfl) T.m_isinstance (by decide +kernel) (pa_cons (pv 1) (pa_cons (pe_bltn (v := .ty "tuple") (u := .type "tuple") (by rfl) T.m_tuple (by decide +kernel) rfl) pa_nil))))) (pw_or1 (pt_cmpR op_notin_rng (pe_callB (kcall_len K) (by rfl) T.m_len PySem.boot_len (pa_cons (pv 1) pa_nil)) (pe_callTy cr_range2 (by rfl) T.m_range (by decide +kernel) (pa_cons pe_int (pa_cons pe_int pa_nil))) (by rfl)))))
        (pss_one (ps_ret pe_bl))
        pss_nil)
      (pss_cons (ps_set (i := 2) nd rfl (.inl rfl) (pe_lst pa_nil))
      (pss_cons (ps_for PassesOwn.never rfl (kpi_tup K (pv 1)) (pg_name (i := 3) nd rfl (.inl rfl))
        (pss_cons (ps_if (PW.pt (pw_or (pt_not (pt_val (pe_callB (kcall_isi K) (by rfl) T.m_isinstance (by decide +kernel) (pa_cons (pv 3) (pa_cons (pe_bltn (v := .ty "tuple") (u := .type "tuple") (by rfl) T.m_tuple (by decide +kernel) rfl) pa_nil))))) (pw_or (pt_cmpR op_ne (pe_callB (kcall_len K) (by rfl) T.m_len PySem.boot_len (pa_cons (pv 3) pa_nil)) pe_int (nomark _)) (pw_or (pt_not (pt_val (pe_callB (kcall_isi K) (by rfl) T.m_isinstance (by decide +kernel) (pa_cons (pe_ix (kix_tup K) (pv 3) pe_int (fun _ _ => rfl)) (pa_cons (pe_bltn (v := .ty "str") (u := .type "str") (by rfl) T.m_str (by decide +kernel) rfl) pa_nil))))) (pw_or1 (pt_cmp (pc_dnotin (hu_of hr) (pe_ix (kix_tup K) (pv 3) pe_int (fun _ _ => rfl)) (pv 0))))))))
          (pss_one (ps_ret pe_bl))
          pss_nil)
        (pss_cons (ps_set (i := 4) nd rfl (.inl rfl) (pe_ix (kix_tup K) (pe_dget (hu_of hr) (pv 0) (pe_ix (kix_tup K) (pv 3) pe_int (fun _ _ => rfl)) (fun _ _ => rfl)) pe_int (fun _ _ => rfl)))
        (pss_cons (ps_if (PW.pt (pw_or (pt_not (pt_val (pe_callB (kcall_isi K) (by rfl) T.m_isinstance (by decide +kernel) (pa_cons (pe_ix (kix_tup K) (pv 3) pe_int (fun _ _ => rfl)) (pa_cons (pe_bltn (v := .ty "tuple") (u := .type "tuple") (by rfl) T.m_tuple (by decide +kernel) rfl) pa_nil))))) (pw_or1 (pt_cmpR op_ne (pe_callB (kcall_len K) (by rfl) T.m_len PySem.boot_len (pa_cons (pe_ix (kix_tup K) (pv 3) pe_int (fun _ _ => rfl)) pa_nil)) (pe_callB (kcall_len K) (by rfl) T.m_len PySem.boot_len (pa_cons (pv 4) pa_nil)) (nomark _)))))
          (pss_one (ps_ret pe_bl))
          pss_nil)
        (pss_cons (ps_for PassesOwn.never rfl (pi_range1 rfl T.m_range (pa_cons (pe_callB (kcall_len K) (by rfl) T.m_len PySem.boot_len (pa_cons (pv 4) pa_nil)) pa_nil)) (pg_name (i := 5) nd rfl (.inl rfl))
          (pss_cons (ps_set (i := 6) nd rfl (.inl rfl) (pe_ix (kix_tup K) (pe_ix (kix_tup K) (pv 3) pe_int (fun _ _ => rfl)) (pv 5) (fun _ _ => rfl)))
          (pss_cons (ps_if (PW.pt (pw_or (pt_not (pt_val (pe_callB (kcall_isi K) (by rfl) T.m_isinstance (by decide +kernel) (pa_cons (pv 6) (pa_cons (pe_bltn (v := .ty "int") (u := .type "int") (by rfl) T.m_int (by decide +kernel) rfl) pa_nil))))) (pw_or1 (pt_val (pe_callB (kcall_isi K) (by rfl) T.m_isinstance (by decide +kernel) (pa_cons (pv 6) (pa_cons (pe_bltn (v := .ty "bool") (u := .type "bool") (by rfl) T.m_bool (by decide +kernel) rfl) pa_nil)))))))
            (pss_one (ps_ret pe_bl))
            pss_nil)
          (pss_one (ps_if (PW.pt (pw_and (pt_cmpR op_ne (pe_ix (kix_tup K) (pv 4) (pv 5) (fun _ _ => rfl)) pe_str (nomark _)) (pw_and1 (PW.pt (pw_or (pt_cmpR op_notin_rng (pv 6) (pe_callTy cr_range1 (by rfl) T.m_range (by decide +kernel) (pa_cons (pe_callB (kcall_len K) (by rfl) T.m_len PySem.boot_len (pa_cons (pv 2) pa_nil)) pa_nil)) (by rfl)) (pw_or1 (pt_cmpR op_ne (pe_ix (kix_list K) (pv 2) (pv 6) (fun _ _ => rfl)) (pe_ix (kix_tup K) (pv 4) (pv 5) (fun _ _ => rfl)) (nomark _))))))))
            (pss_one (ps_ret pe_bl))
            pss_nil)))))
        (pss_one (ps_expr (pe_bm PySem.F.plainAttrs_list PySem.F.slot_list_append PySem.F.type_list_append mt_append (pv 2) (pa_cons (pe_ix (kix_tup K) (pe_dget (hu_of hr) (pv 0) (pe_ix (kix_tup K) (pv 3) pe_int (fun _ _ => rfl)) (fun _ _ => rfl)) pe_int (fun _ _ => rfl)) pa_nil)))))))))
      (pss_one (ps_ret pe_bl))))), ?_⟩
    refine ⟨u, rfl, u, _, .type (tyName e), _, jTup e, rfl, .ty _, od_ty ou, kit_ty (kit_tup e), jTup e, rfl, ?_⟩
    rcases ou.tup_or with ⟨a, xs, ds, rfl, rfl, ha, hx⟩ | n
    rotate_left
    · rw [n]
      have := q H (Same.refl H)
      rw [jRows_row (jRow_no n 1 96)] at this
      exact iteT this
    have lx : xs.length = ds.length := hx.len
    refine iteF ⟨.ref a, rfl, a, xs, rfl, .inr ha.sq, _, _, rfl, fun p hp => ?_⟩
    have s0 := same_new (o := .rng 1 97) hp
    refine ⟨_, p, 1, 97, rfl, rfl, upd_same, _, rfl, ?_⟩
    generalize upd H p (.rng 1 97) = H0 at *
    rw [in96 xs.length ds lx]
    cases hrow : jRow (.tuple ds) 1 96 with
    | false =>
      have := q H0 s0
      rw [jRows_row hrow] at this
      exact iteT this
    | true =>
    have l96 : ds.length ≤ 96 := by
      obtain ⟨ds', e, _, h6⟩ := jRow_tup hrow
      cases e
      omega
    refine iteF ⟨by show 0 ≤ sizeLine; decide, fun F hF => ?_⟩
    have sF := s0.trans (same_new (o := .lst []) hF)
    have eF : (upd H0 F (.lst [])) F = some (.lst []) := upd_same
    have hF0 := s0.free hF
    generalize upd H0 F (.lst []) = H1 at *
    refine ⟨.ref a, rfl, a, rfl, ⟨_, (ha.mono (tk_same sF)).sq⟩, ?_⟩
    refine for_it (walk_tup (xs := xs)) (fun t σ Ha => ∃ (y3 y4 y5 y6 : Option V), σ = [some (.ref d), some (.ref a), some (.ref F), y3, y4, y5, y6] ∧ Same H Ha ∧ Ha F = some (.lst (((ds.take t).map (kdOf ks)).map V.str)) ∧ ∀ s, s < t → jAt ks ds s = true) ⟨_, _, _, _, rfl, sF, eF, fun s h => absurd h (Nat.not_lt_zero _)⟩ (fun t σ Ha _ z => ?_) ?_ ?_
    · obtain ⟨_, _, _, _, _, sm, _⟩ := z
      exact (ha.mono (tk_same sm)).sq
    · rintro t x σ Ha Hb ht ⟨y3, y4, y5, y6, rfl, sm, eF, al⟩ ⟨rfl, hxt⟩
      obtain ⟨r, hr', ox⟩ := (hx.mono (fo_same sm)).getV hxt
      have ht' : t < ds.length := (List.getElem?_eq_some_iff.mp hr').1
      have ej0 : jAt ks ds t = jLine ks ((ds.take t).map (kdOf ks)) r := by
        unfold jAt
        rw [List.getD_eq_getElem?_getD, hr']; rfl
      have ek0 : ds.take (t + 1) = ds.take t ++ [r] := by rw [List.take_add_one, hr']; rfl
      have lts : ((ds.take t).map (kdOf ks)).length = t := by rw [List.length_map, List.length_take]; omega
      rw [ek0, List.map_append]
      generalize hts : (ds.take t).map (kdOf ks) = ts at *
      have ej : jLine ks ts r = (jPair r && (jStr (p0 r) && match lkp ks (stO (p0 r)) with
        | none => false
        | some (_, fs) => jRow (p1 r) fs.length fs.length && (fs.zip (its (p1 r))).all fun p => jEnt ts p.1 p.2)) := rfl
      have no : jLine ks ts r = false → ∀ H', Same H H' → Q (.bl false) H' := fun h H' s => by
        have := q H' s
        rwa [jRows_no ht' (by rw [ej0]; exact h)] at this
      refine ⟨x, rfl, x, _, .type (tyName r), _, jTup r, rfl, .ty _, od_ty ox, kit_ty (kit_tup r), jTup r, rfl, ?_⟩
      rcases ox.tup_or with ⟨p, ys, rs, rfl, rfl, hpp, hy⟩ | n
      rotate_left
      · rw [n]
        exact iteT (no (by rw [ej, jPair_no n]; rfl) _ sm)
      have ly := hy.len
      refine iteF ⟨.ref p, rfl, p, ys, rfl, .inr hpp.sq, rfl, _, rfl, ?_⟩
      have ep : jPair (.tuple rs) = decide (rs.length = 2) := rfl
      rw [dec_le, show decide (((ys.length : Nat) : Int) = 2) = jPair (.tuple rs) by rw [ep, ly]; exact decide_eq_decide.mpr ⟨fun h => by omega, fun h => by omega⟩]
      cases hp : jPair (.tuple rs) with
      | false => exact iteT (no (by rw [ej, hp]; rfl) _ sm)
      | true =>
      obtain ⟨p', z1, z2, ep', er, hpp', oz1, oz2⟩ := Od.pair (.tup hpp hy) hp
      obtain rfl : p = p' := by injection ep'
      generalize PyData.tuple rs = r at *
      refine iteF ⟨.ref p, rfl, p, _, 0, _, rfl, rfl, hpp'.sq, atI_nat (j := 0) rfl, z1, _, .type (tyName (p0 r)), _, jStr (p0 r), rfl, .ty _, od_ty oz1, kit_ty (kit_str (p0 r)), jStr (p0 r), rfl, ?_⟩
      rcases oz1.str_or with ⟨nm, rfl, ep0, lz⟩ | n
      rotate_left
      · rw [n]
        exact iteT (no (by rw [ej, hp, n]; rfl) _ sm)
      rw [ep0] at ej ⊢
      refine iteF ⟨.ref p, rfl, p, _, 0, _, rfl, rfl, hpp'.sq, atI_nat (j := 0) rfl, .ref d, rfl, d, ?_⟩
      cases el : lkp ks nm with
      | none => exact ⟨_, rfl, tbO_no (tb.same sm) el, true, rfl, iteT (no (by rw [ej, hp, show stO (.str nm) = nm from rfl, el]; rfl) _ sm)⟩
      | some tf =>
      obtain ⟨tt, fs⟩ := tf
      obtain ⟨jj, vr, gr, irr⟩ := tbO_get (tb.same sm) ok el
      obtain ⟨i, j, kd, m, at', rfl, rfl⟩ := lkp_some el
      have ej2 : jLine ks ts r = (jRow (p1 r) m.2.length m.2.length && (m.2.zip (its (p1 r))).all fun p => jEnt ts p.1 p.2) := by
        rw [ej, hp, show stO (.str nm) = nm from rfl, el]; rfl
      have ekd : kdOf ks r = kd.1 := by unfold kdOf; rw [ep0, show stO (.str nm) = nm from rfl, el]; rfl
      obtain ⟨qr, r1, r2, r3, rfl, hqr, ir1, ir22, ir3⟩ := im_trip irr
      have ir3' : Im K Hb r3 (.tuple (m.2.map .str)) := ir3
      obtain rfl := Im.str_inv (show Im K Hb r1 (.str kd.1) from ir1)
      obtain ⟨pf, fs, rfl, hpf, hfs⟩ := ir3'.tuple_inv
      obtain rfl := im_strs hfs
      have kmem := List.mem_of_getElem? at'.hk
      have mmem := List.mem_of_getElem? at'.hm
      have l4 := (ok.mkk _ kmem _ mmem).2
      refine ⟨_, rfl, gr, false, rfl, iteF ?_⟩
      refine ⟨.ref d, rfl, .ref p, rfl, p, _, 0, _, rfl, rfl, hpp'.sq, atI_nat (j := 0) rfl, d, _, rfl, gr, qr, _, 2, _, rfl, rfl, hqr.sq, atI_nat (j := 2) rfl, ?_⟩
      refine ⟨.ref p, rfl, p, _, 1, _, rfl, rfl, hpp'.sq, atI_nat (j := 1) rfl, z2, _, .type (tyName (p1 r)), _, jTup (p1 r), rfl, .ty _, od_ty oz2, kit_ty (kit_tup (p1 r)), jTup (p1 r), rfl, ?_⟩
      rcases oz2.tup_or with ⟨pe, us, es, rfl, ep1, hpe, hus⟩ | n
      rotate_left
      · rw [n]
        exact iteT (no (by rw [ej2, jRow_no n]; rfl) _ sm)
      rw [ep1] at ej2 ⊢
      have lus := hus.len
      refine iteF ⟨.ref p, rfl, p, _, 1, _, rfl, rfl, hpp'.sq, atI_nat (j := 1) rfl, pe, us, rfl, .inr hpe.sq, .ref pf, rfl, pf, _, rfl, .inr hpf.sq, rfl, _, rfl, ?_⟩
      rw [dec_le, List.length_map]
      have ejr : jRow (.tuple es) m.2.length m.2.length = decide (((us.length : Nat) : Int) = ((m.2.length : Nat) : Int)) := by
        show (decide _ && decide _) = _
        rw [← Bool.decide_and, lus]
        exact decide_eq_decide.mpr ⟨fun h => by omega, fun h => by omega⟩
      rw [← ejr]
      cases hr2 : jRow (.tuple es) m.2.length m.2.length with
      | false => exact iteT (no (by rw [ej2, hr2]; rfl) _ sm)
      | true =>
      have les : es.length = m.2.length := by
        rw [hr2] at ejr
        have := of_decide_eq_true ejr.symm
        omega
      have ej3 : jLine ks ts r = (m.2.zip es).all fun p => jEnt ts p.1 p.2 := by
        rw [ej2, hr2]; rfl
      refine iteF ⟨.ref pf, rfl, pf, _, rfl, .inr hpf.sq, _, rfl, by rw [List.length_map]; omega, by rw [List.length_map]; omega, ?_⟩
      rw [List.length_map]
      refine for_it (walk_range (lo := 0) (n := ((m.2.length : Nat) : Int).toNat)) (fun k σ Hc => ∃ (y5 y6 : Option V), σ = [some (.ref d), some (.ref a), some (.ref F), some (.ref p), some (.ref pf), y5, y6] ∧ Same Hb Hc ∧ ∀ (s : Nat) f e, s < k → m.2[s]? = some f → es[s]? = some e → jEnt ts f e = true) ⟨_, _, rfl, Same.refl _, fun s f e h => absurd h (Nat.not_lt_zero _)⟩ (fun _ _ _ _ _ => trivial) ?_ ?_
      · rintro k x σ Hc Hd hk ⟨y5, y6, rfl, s5, al2⟩ ⟨rfl, rfl⟩
        show gName 5 (V.int ((0 : Int) + (k : Nat))) _ _ _
        rw [show (0 : Int) + (k : Nat) = (k : Nat) by omega]
        rw [Int.toNat_natCast] at hk
        obtain ⟨fl, hfl⟩ : ∃ fl, m.2[k]? = some fl := ⟨_, List.getElem?_eq_getElem hk⟩
        obtain ⟨ed, hed⟩ : ∃ ed, es[k]? = some ed := ⟨_, List.getElem?_eq_getElem (by omega)⟩
        obtain ⟨v, hv, ov⟩ := (hus.mono (fo_same s5)).get hed
        have hpp5 := hpp'.mono (tk_same s5)
        have hpe5 := hpe.mono (tk_same s5)
        have hpf5 := hpf.mono (tk_same s5)
        have eF5 := s5 _ _ eF
        have sm5 := sm.trans s5
        have no2 : jEnt ts fl ed = false → ∀ H', Same H H' → Q (.bl false) H' := fun h => no (by
          rw [ej3]
          exact all_no (i := k) (x := (fl, ed)) (List.getElem?_zip_eq_some.mpr ⟨hfl, hed⟩) h)
        refine ⟨.ref p, rfl, p, _, 1, _, rfl, rfl, hpp5.sq, atI_nat (j := 1) rfl, .int (k : Nat), rfl, pe, us, _, v, rfl, rfl, hpe5.sq, atI_nat hv, ?_⟩
        refine ⟨v, rfl, v, _, .type (tyName ed), _, jIntB ed, rfl, .ty _, od_ty ov, kit_ty (kit_int ed), jIntB ed, rfl, ?_⟩
        have noI : jInt ed = false → jEnt ts fl ed = false := fun h => by cases ed <;> first | rfl | cases h
        cases h1 : jIntB ed with
        | false => exact iteT (no2 (noI (by rw [jInt_as, h1]; rfl)) _ sm5)
        | true =>
        refine iteF ⟨v, rfl, v, _, .type (tyName ed), _, jBool ed, rfl, .ty _, od_ty ov, kit_ty (kit_bool ed), jBool ed, rfl, ?_⟩
        cases h2 : jBool ed with
        | true => exact iteT (no2 (noI (by rw [jInt_as, h1, h2]; rfl)) _ sm5)
        | false =>
        rcases ov.int_or with ⟨i', rfl, rfl, _⟩ | n
        rotate_left
        · rw [jInt_as, h1, h2] at n
          cases n
        have ej5 : jEnt ts fl (.int i') = (decide (fl = "number") || (decide (0 ≤ i') && decide (ts[i'.toNat]? = some fl))) := rfl
        have yes : ∀ Hz, Same Hd Hz → jEnt ts fl (.int i') = true → ∃ (y5 y6 : Option V), [some (V.ref d), some (.ref a), some (.ref F), some (.ref p), some (.ref pf), some (.int (k : Nat)), some (.int i')] = [some (.ref d), some (.ref a), some (.ref F), some (.ref p), some (.ref pf), y5, y6] ∧ Same Hb Hz ∧ ∀ (s : Nat) f e, s < k + 1 → m.2[s]? = some f → es[s]? = some e → jEnt ts f e = true := fun Hz sz h => ⟨_, _, rfl, s5.trans sz, fun s f e hs hf he => by
          by_cases q : s = k
          · subst q
            rw [hfl] at hf
            rw [hed] at he
            obtain rfl := Option.some.inj hf
            obtain rfl := Option.some.inj he
            exact h
          · exact al2 s f e (by omega) hf he⟩
        refine iteF ⟨.ref pf, rfl, .int (k : Nat), rfl, pf, _, _, .str fl, rfl, rfl, hpf5.sq, atI_nat (by rw [List.getElem?_map, hfl]; rfl), rfl, _, rfl, ?_⟩
        rw [dec_str]
        cases h3 : decide (fl = "number") with
        | true => exact iteF (yes _ (Same.refl _) (by rw [ej5, h3]; rfl))
        | false =>
        rw [h3, Bool.false_or] at ej5
        refine iteT ⟨.int i', rfl, .ref F, rfl, F, _, rfl, .inl (.of eF5), _, rfl, fun p2 hp2 => ?_⟩
        have s6 := same_new (o := .rng 0 (((ts.map V.str).length : Nat) : Int)) hp2
        refine ⟨_, p2, 0, _, rfl, rfl, upd_same, _, rfl, ?_⟩
        have eF6 := s6 _ _ eF5
        have hpf6 := hpf5.mono (tk_same s6)
        generalize upd Hd p2 (.rng 0 (((ts.map V.str).length : Nat) : Int)) = H6 at *
        by_cases h4 : (0 : Int) ≤ i' ∧ i' < (((ts.map V.str).length : Nat) : Int)
        rotate_left
        · rw [decide_eq_false h4]
          refine iteT (no2 ?_ _ (sm5.trans s6))
          rw [ej5]
          by_cases h5 : (0 : Int) ≤ i'
          · rw [decide_eq_false (show ¬ ts[i'.toNat]? = some fl from fun h => by
              have := (List.getElem?_eq_some_iff.mp h).1
              rw [List.length_map] at h4
              omega), Bool.and_false]
          · rw [decide_eq_false h5]; rfl
        · rw [decide_eq_true h4]
          obtain ⟨n, rfl⟩ := Int.eq_ofNat_of_zero_le h4.1
          rw [Int.toNat_natCast, decide_eq_true h4.1, Bool.true_and] at ej5
          obtain ⟨tn, htn⟩ : ∃ tn, ts[n]? = some tn := ⟨_, List.getElem?_eq_getElem (by have := h4.2; rw [List.length_map] at this; omega)⟩
          refine iteF ⟨.ref F, rfl, .int (n : Nat), rfl, F, _, _, .str tn, rfl, rfl, .of eF6, atI_nat (by rw [List.getElem?_map, htn]; rfl), .ref pf, rfl, .int (k : Nat), rfl, pf, _, _, .str fl, rfl, rfl, hpf6.sq, atI_nat (by rw [List.getElem?_map, hfl]; rfl), rfl, _, rfl, ?_⟩
          rw [htn] at ej5
          rw [show decide (some tn = some fl) = decide (tn = fl) from decide_eq_decide.mpr ⟨fun h => Option.some.inj h, fun h => by rw [h]⟩] at ej5
          rw [dec_str, ← ej5]
          cases h6 : jEnt ts fl (.int ((n : Nat) : Int)) with
          | true => exact iteF (yes _ s6 h6)
          | false => exact iteT (no2 h6 _ (sm5.trans s6))
      · rintro σ Hc ⟨y5, y6, rfl, s5, al2⟩
        rw [Int.toNat_natCast] at al2
        have sm5 := sm.trans s5
        obtain ⟨jj', vr', gr', irr'⟩ := tbO_get (tb.same sm5) ok el
        obtain ⟨qr', r1', r2', r3', rfl, hqr', ir1', _, _⟩ := im_trip irr'
        obtain rfl := Im.str_inv (show Im K Hc r1' (.str kd.1) from ir1')
        have hpp5 := hpp'.mono (tk_same s5)
        have eF5 := s5 _ _ eF
        refine ⟨.ref F, rfl, .inl ⟨rfl, _, .of eF5⟩, .ref d, rfl, .ref p, rfl, p, _, 0, _, rfl, rfl, hpp5.sq, atI_nat (j := 0) rfl, d, _, rfl, gr', qr', _, 0, _, rfl, rfl, hqr'.sq, atI_nat (j := 0) rfl, F, _, .str kd.1, rfl, rfl, eF5, small1000 (by rw [List.length_map]; omega), ?_⟩
        refine ⟨_, _, _, _, rfl, fun b o e => ?_, ?_, fun s hs => ?_⟩
        · rw [upd_ne (ne_of_none e hF0)]; exact sm5 _ _ e
        · rw [upd_same, List.map_append]
          show _ = some (HO.lst (_ ++ [V.str (kdOf ks r)]))
          rw [ekd]
        · by_cases h : s = t
          · rw [h, ej0, ej3]
            refine List.all_eq_true.mpr fun x hx => ?_
            obtain ⟨i2, hi2⟩ := List.getElem?_of_mem hx
            obtain ⟨g1, g2⟩ := List.getElem?_zip_eq_some.mp (show (List.zip _ _)[i2]? = some (x.1, x.2) from hi2)
            exact al2 i2 x.1 x.2 (List.getElem?_eq_some_iff.mp g1).1 g1 g2
          · exact al s (by omega)
    · rintro σ Ha ⟨y3, y4, y5, y6, rfl, sm, eF, al⟩
      have := q Ha sm
      rw [jRows_yes hrow (by rw [← lx]; exact al)] at this
      exact this
end
end K63

set_option Elab.async false
set_option linter.all false
set_option maxRecDepth 100000
set_option exponentiation.threshold 20000
set_option pp.deepTerms false
set_option pp.deepTerms.threshold 8
namespace K63
open PySem PySem.Spec PyProof.Rows L2 Ly Mt
/-! ### lines are drawn -/
/-- a line is not too great -/
structure LnOk (r : Rw) : Prop where
  nm : NameOk r.1
  few : r.2.length ≤ 4
  ents : ∀ e ∈ r.2, DrI e
def mk3 (p : Str × Mk) : PyData := .tuple [.str p.1, .str p.2.1, sD p.2.2]
def mkL (ks : List Kd) : List (Str × Mk) := ks.flatMap fun kd => kd.2.map fun m => (kd.1, m)
theorem mkL_take {ks : List Kd} {i : Nat} {kd : Kd} (h : ks[i]? = some kd) : mkL (ks.take (i + 1)) = mkL (ks.take i) ++ kd.2.map fun m => (kd.1, m) := by
  unfold mkL
  rw [List.take_add_one, h, List.flatMap_append]
  show _ ++ (_ ++ []) = _
  rw [List.append_nil]
theorem mkL_few {ks : List Kd} (h : ∀ k ∈ ks, k.2.length ≤ 6) : (mkL ks).length ≤ 6 * ks.length := by
  induction ks with
  | nil => exact Nat.le_refl _
  | cons k ks ih =>
    have := ih fun x hx => h x (List.mem_cons_of_mem _ hx)
    have h1 := h k (List.mem_cons_self ..)
    unfold mkL at this ⊢
    rw [List.flatMap_cons, List.length_append, List.length_cons, List.length_map]
    omega
theorem mkL_mem {ks : List Kd} {t : Str} {m : Mk} (h : (t, m) ∈ mkL ks) : ∃ kd ∈ ks, t = kd.1 ∧ m ∈ kd.2 := by
  obtain ⟨kd, hk, hm⟩ := List.mem_flatMap.mp h
  obtain ⟨m', hm', e⟩ := List.mem_map.mp hm
  injection e with e1 e2
  exact ⟨kd, hk, e1.symm, by rw [← e2]; exact hm'⟩
theorem mkL_some {ks : List Kd} (ok : KindsOk ks) : 1 ≤ (mkL ks).length := by
  have f := ok.few
  match ks, ok, f with
  | k :: r, ok, f =>
    have := (ok.mks k (List.mem_cons_self ..)).1
    unfold mkL
    rw [List.flatMap_cons, List.length_append, List.length_map]
    omega
  | [], _, f => exact absurd f.1 (by decide)
/-- the dict of lists of lines' places: each list apart from the av -/
structure SpA (H0 Hx : Hp) (d : Addr) (av : List Addr) (ns : List Str) (kn : Nat) : Prop where
  ex : ∃ kvs : List (Key × V), Hx d = some (.dK kvs) ∧ kvs.map (·.1) = ns.map Sum.inr ∧ ∀ x ∈ kvs.map (·.2), ∃ (L : Addr) (xs : List Int), x = .ref L ∧ H0 L = none ∧ L ∉ av ∧ Hx L = some (.lst (xs.map V.int)) ∧ xs.length ≤ kn ∧ ∀ i ∈ xs, 0 ≤ i ∧ i < kn
theorem SpA.keep {H0 Hx Hy : Hp} {d : Addr} {av : List Addr} {ns : List Str} {kn : Nat} (h : SpA H0 Hx d av ns kn) (k : ∀ b o, H0 b = none → b ∉ av → Hx b = some o → Hy b = some o) (hd : H0 d = none) (hv : d ∉ av) : SpA H0 Hy d av ns kn := by
  obtain ⟨kvs, e, h1, h2⟩ := h
  refine ⟨kvs, k _ _ hd hv e, h1, fun x hx => ?_⟩
  obtain ⟨L, xs, rfl, g1, g2, g3, g4⟩ := h2 x hx
  exact ⟨L, xs, rfl, g1, g2, k _ _ g1 g2 g3, g4⟩
theorem SpA.same {H0 Hx Hy : Hp} {d : Addr} {av : List Addr} {ns : List Str} {kn : Nat} (h : SpA H0 Hx d av ns kn) (s : Same Hx Hy) : SpA H0 Hy d av ns kn := by
  obtain ⟨kvs, e, h1, h2⟩ := h
  refine ⟨kvs, s _ _ e, h1, fun x hx => ?_⟩
  obtain ⟨L, xs, rfl, g1, g2, g3, g4⟩ := h2 x hx
  exact ⟨L, xs, rfl, g1, g2, s _ _ g3, g4⟩
theorem SpA.but {H0 Hx Hy : Hp} {c l d : Addr} {n : Nat} {av : List Addr} {ns : List Str} {kn : Nat} (h : SpA H0 Hx d av ns kn) (u : Wel H0 c l n) (b : But2 c l Hx Hy) (hd : H0 d = none) : SpA H0 Hy d av ns kn := by
  obtain ⟨kvs, e, h1, h2⟩ := h
  refine ⟨kvs, b _ _ (u.nw hd) (u.nl hd) e, h1, fun x hx => ?_⟩
  obtain ⟨L, xs, rfl, g1, g2, g3, g4⟩ := h2 x hx
  exact ⟨L, xs, rfl, g1, g2, b _ _ (u.nw g1) (u.nl g1) g3, g4⟩
/-- a new thing to be apart from -/
theorem SpA.av {H0 Hx : Hp} {d M N : Addr} {A : Addr} {ns : List Str} {kn : Nat} (h : SpA H0 Hx d [A, M] ns kn) (hN : Hx N = none) : SpA H0 Hx d [A, N] ns kn := by
  obtain ⟨kvs, e, h1, h2⟩ := h
  refine ⟨kvs, e, h1, fun x hx => ?_⟩
  obtain ⟨L, xs, rfl, g1, g2, g3, g4⟩ := h2 x hx
  refine ⟨L, xs, rfl, g1, fun z => ?_, g3, g4⟩
  rcases List.mem_cons.mp z with z | z
  · exact g2 (by rw [z]; exact List.mem_cons_self ..)
  · rw [List.mem_singleton.mp z, hN] at g3; cases g3
/-- a list is got -/
theorem SpA.getV {H0 Hx : Hp} {d : Addr} {av : List Addr} {ns : List Str} {kn : Nat} (h : SpA H0 Hx d av ns kn) {kvs : List (Key × V)} (ek : Hx d = some (.dK kvs)) {f : Str} (hf : f ∈ ns) : ∃ (L : Addr) (xs : List Int), valV kvs (Sum.inr f) = some (.ref L) ∧ H0 L = none ∧ L ∉ av ∧ Hx L = some (.lst (xs.map V.int)) ∧ xs.length ≤ kn ∧ ∀ i ∈ xs, 0 ≤ i ∧ i < kn := by
  obtain ⟨kvs', e, h1, h2⟩ := h
  rw [ek] at e
  obtain rfl : kvs = kvs' := by injection e with q; injection q
  have key : ∀ (kvs : List (Key × V)) (ns : List Str), kvs.map (·.1) = ns.map Sum.inr → f ∈ ns → ∃ x ∈ kvs.map (·.2), valV kvs (Sum.inr f) = some x := by
    intro kvs
    induction kvs with
    | nil => intro ns h1 hf; cases ns with | nil => cases hf | cons _ _ => simp at h1
    | cons p r ih =>
      intro ns h1 hf
      cases ns with
      | nil => cases hf
      | cons m ns =>
        rw [List.map_cons, List.map_cons] at h1
        injection h1 with e1 e2
        by_cases hm : f = m
        · exact ⟨p.2, by rw [List.map_cons]; exact List.mem_cons_self .., valV_pos (by rw [e1, hm])⟩
        · obtain ⟨x, hx, ex⟩ := ih ns e2 ((List.mem_cons.mp hf).resolve_left hm)
          exact ⟨x, by rw [List.map_cons]; exact List.mem_cons_of_mem _ hx, by rw [valV_neg (by rw [e1]; exact fun z => hm (Sum.inr.inj z).symm)]; exact ex⟩
  obtain ⟨x, hx, ex⟩ := key kvs ns h1 hf
  obtain ⟨L, xs, rfl, g⟩ := h2 x hx
  exact ⟨L, xs, ex, g⟩
theorem dget_of {Hx : Hp} {d : Addr} {kvs : List (Key × V)} (ek : Hx d = some (.dK kvs)) {f : Str} {v : V} (h : valV kvs (Sum.inr f) = some v) : DGet Hx d (.str f) (some v) := by
  have g0 : DGet Hx d (kV (Sum.inr f)) (valV kvs (Sum.inr f)) := .k ek
  rw [h] at g0
  exact g0
theorem im_app' {K : PySem.W.Frag} {H : Hp} : ∀ {us ws : List V} {l k : List PyData}, ImAll K H us l → ImAll K H ws k → ImAll K H (us ++ ws) (l ++ k)
  | _, _, _, _, .nil, h => h
  | _, _, _, _, .cons a r, h => .cons a (im_app' r h)
theorem ints_inj : ∀ {xs ys : List Int}, xs.map V.int = ys.map V.int → xs = ys
  | [], [], _ => rfl
  | x :: xs, y :: ys, h => by
    rw [List.map_cons, List.map_cons] at h
    injection h with h1 h2
    rw [V.int.inj h1, ints_inj h2]
  | [], _ :: _, h => by simp at h
  | _ :: _, [], h => by simp at h
/-- what the second loop keeps -/
structure LQ (K : PySem.W.Frag) (H : Hp) (c l d A M : Addr) (n kn : Nat) (ks : List Kd) (rows : List Rw) (Hx : Hp) : Prop where
  b : But2 c l H Hx
  u : Wel Hx c l n
  sp : SpA H Hx d [A, M] (ks.map (·.1)) kn
  ls : ∃ ws, Hx A = some (.lst ws) ∧ ImAll K Hx ws (rows.map rwD)
  ms : ∃ ws, Hx M = some (.lst ws) ∧ ImAll K Hx ws ((mkL ks).map mk3)
structure Lz (H : Hp) (c l d A M : Addr) : Prop where
  nd : H d = none
  nA : H A = none
  nM : H M = none
  AM : A ≠ M
  w0 : ∃ n, Wel H c l n
theorem Lz.ne {H : Hp} {c l d A M : Addr} (z : Lz H c l d A M) {x : Addr} (h : H x = none) : x ≠ c ∧ x ≠ l := by
  obtain ⟨n, u⟩ := z.w0
  exact ⟨u.nw h, u.nl h⟩
section
variable {K : PySem.W.Frag} {H Hx Hy : Hp} {c l d A M : Addr} {n m kn : Nat} {ks : List Kd} {rows : List Rw}
theorem LQ.but (z : LQ K H c l d A M n kn ks rows Hx) (f : Lz H c l d A M) (u : Wel Hy c l m) (b : But2 c l Hx Hy) : LQ K H c l d A M m kn ks rows Hy := by
  obtain ⟨w1, e1, i1⟩ := z.ls
  obtain ⟨w2, e2, i2⟩ := z.ms
  obtain ⟨n0, u0⟩ := f.w0
  have tk := b.tk z.u
  exact ⟨z.b.trans b, u, z.sp.but u0 b f.nd, ⟨w1, b _ _ (f.ne f.nA).1 (f.ne f.nA).2 e1, ImAll.mono tk _ i1⟩, ⟨w2, b _ _ (f.ne f.nM).1 (f.ne f.nM).2 e2, ImAll.mono tk _ i2⟩⟩
theorem LQ.same (z : LQ K H c l d A M n kn ks rows Hx) (f : Lz H c l d A M) (s : Same Hx Hy) : LQ K H c l d A M n kn ks rows Hy := z.but f (z.u.same s) (but2_same s)
theorem LQ.mono (z : LQ K H c l d A M n kn ks rows Hx) (h : n ≤ m) : LQ K H c l d A M m kn ks rows Hx := ⟨z.b, z.u.mono h, z.sp, z.ls, z.ms⟩
theorem LQ.putL (z : LQ K H c l d A M n kn ks rows Hx) (f : Lz H c l d A M) {L : Addr} {xs : List Int} (h1 : H L = none) (h2 : L ∉ [A, M]) (e : Hx L = some (.lst (xs.map V.int))) (hl : xs.length ≤ kn) (hb : ∀ i ∈ xs, 0 ≤ i ∧ i < kn) : LQ K H c l d A M n (kn + 1) ks rows (upd Hx L (.lst (xs.map V.int ++ [.int (kn : Nat)]))) := by
  obtain ⟨w1, e1, i1⟩ := z.ls
  obtain ⟨w2, e2, i2⟩ := z.ms
  have tk := tk_lst (o := .lst (xs.map V.int ++ [.int (kn : Nat)])) e
  obtain ⟨kvs, ek, k1, k2⟩ := z.sp.ex
  simp only [List.mem_cons, List.not_mem_nil, or_false, not_or] at h2
  refine ⟨z.b.put h1, z.u.upd (f.ne h1).1 (f.ne h1).2, ⟨kvs, by rw [upd_ne (fun q => by rw [q, e] at ek; cases ek)]; exact ek, k1, fun x hx => ?_⟩, ⟨w1, by rw [upd_ne (Ne.symm h2.1)]; exact e1, ImAll.mono tk _ i1⟩, ⟨w2, by rw [upd_ne (Ne.symm h2.2)]; exact e2, ImAll.mono tk _ i2⟩⟩
  obtain ⟨L', ys, rfl, g1, g2, g3, g4, g5⟩ := k2 x hx
  by_cases q : L' = L
  · subst q
    refine ⟨L', xs ++ [(kn : Int)], rfl, g1, g2, by rw [upd_same, List.map_append]; rfl, by rw [List.length_append]; show _ + 1 ≤ _; omega, fun i hi => ?_⟩
    rcases List.mem_append.mp hi with hi | hi
    · have := hb i hi; omega
    · rw [List.mem_singleton.mp hi]; omega
  · exact ⟨L', ys, rfl, g1, g2, by rw [upd_ne q]; exact g3, by omega, fun i hi => by have := g5 i hi; omega⟩
theorem LQ.putA (z : LQ K H c l d A M n kn ks rows Hx) (f : Lz H c l d A M) {ws : List V} {v : V} {r : Rw} (e : Hx A = some (.lst ws)) (iv : Im K Hx v (rwD r)) : LQ K H c l d A M n kn ks (rows ++ [r]) (upd Hx A (.lst (ws ++ [v]))) := by
  obtain ⟨w1, e1, i1⟩ := z.ls
  obtain ⟨w2, e2, i2⟩ := z.ms
  rw [e] at e1
  obtain rfl : ws = w1 := by injection e1 with q; injection q
  have tk := tk_lst (o := .lst (ws ++ [v])) e
  obtain ⟨kvs, ek, k1, k2⟩ := z.sp.ex
  refine ⟨z.b.put f.nA, z.u.upd (f.ne f.nA).1 (f.ne f.nA).2, ⟨kvs, by rw [upd_ne (fun q => by rw [q, e] at ek; cases ek)]; exact ek, k1, fun x hx => ?_⟩, ⟨_, upd_same, by rw [List.map_append]; exact (ImAll.mono tk _ i1).snoc (Im.mono tk _ iv)⟩, ⟨w2, by rw [upd_ne f.AM.symm]; exact e2, ImAll.mono tk _ i2⟩⟩
  obtain ⟨L', ys, rfl, g1, g2, g3, g4, g5⟩ := k2 x hx
  refine ⟨L', ys, rfl, g1, g2, ?_, g4, g5⟩
  rw [upd_ne (fun q => g2 (by rw [q]; exact List.mem_cons_self ..))]; exact g3
end
section
variable {P : Program} {w : World} {K : PySem.W.Frag} {mg : Str → Option Value} {base : Heap}
abbrev s__law_lines : Stmt := topS 39
theorem sc__law_lines : FnScope ["well", "family", "count", "lines", "spots", "makers", "title", "some", "turn", "maker", "fields", "entries", "field", "back"] ["well", "family", "count"] (defScope s__law_lines) := ⟨rfl, rfl, rfl, by decide +kernel, rfl, by decide +kernel, by decide +kernel⟩
def sl_lines (K : PySem.W.Frag) : Sp := fun vs H Q _ => ∃ (c l : Addr) (n : Nat) (v : V) (ks : List Kd) (cnt : Nat), vs = [.ref c, v, .int (cnt : Nat)] ∧ Wel H c l n ∧ n < 2 ^ 58 ∧ Im K H v (ksD ks) ∧ KindsOk ks ∧ cnt ≤ 97 ∧
  ∀ p rows H', (∀ r ∈ rows, LnOk r) → rows.length ≤ 97 → Wel H' c l (n + 10000) → But2 c l H H' → Im K H' (.ref p) (rwsD rows) → Q (.ref p) H'
set_option maxHeartbeats 2000000 in
theorem ok__law_lines {f : Addr} {fd : FuncData} {k : Nat} (F : Fun K "_law_lines" "_law_lines" s__law_lines f fd) (T : Tx K mg){k1 : Nat} (D__law_draw : Def P w K mg base k1 "_law_draw" s__law_draw ["well", "many"] sp_draw) {k2 : Nat} (D__law_integer : Def P w K mg base k2 "_law_integer" s__law_integer ["well"] (sl_integer K)) (e1 : k1 ≤ k) (e2 : k2 ≤ k) : FnOk P w K mg base CX0 (k + 1) f fd ["well", "family", "count"] (sl_lines K) := by
  have nd := sc__law_lines.nd
  refine F.ok sc__law_lines (fun vs H Q E h => ?_) (fun cdv A outer s H vs Q E hr h => ?_)
  · obtain ⟨_, _, _, _, _, _, rfl, _⟩ := h
    rfl
  · obtain ⟨c, l, n, v, ks, cnt, rfl, u0, n58, iv, ok, c97, q⟩ := h
    obtain ⟨a, xs, rfl, ha, hx⟩ := iv.tuple_inv
    have lx : xs.length = ks.length := all_len hx
    have few := ok.few
    refine ⟨_, (pss_cons (ps_asg (pe_tup (pa_cons (pe_lst pa_nil) (pa_cons pe_dnewK (pa_cons (pe_lst pa_nil) pa_nil)))) (kpg_tup K (n := 3) rfl (pgs_cons (pg_name (i := 3) nd rfl (.inl rfl)) (pgs_cons (pg_name (i := 4) nd rfl (.inr rfl)) (pgs_cons (pg_name (i := 5) nd rfl (.inl rfl)) pgs_nil)))))
      (pss_cons (ps_for PassesOwn.never rfl (kpi_tup K (pv 1)) (kpg_tup K (n := 2) rfl (pgs_cons (pg_name (i := 6) nd rfl (.inr rfl)) (pgs_cons (pg_name (i := 7) nd rfl (.inl rfl)) pgs_nil)))
        (pss_cons (ps_dput (hu_of hr) (pv 4) (pv 6) (pe_lst pa_nil) rfl)
        (pss_one (ps_set (i := 5) nd rfl (.inl rfl) (pe_op op_cat (pv 5) (pe_lc (own := [("maker", 9)]) (g := gName 9) (tt := tYes) rfl nd (kpi_tup K (pv 7)) (blkOk_by (by rfl)) (fun _ _ _ _ _ => (pg_name (i := 9) nd rfl (.inl rfl))) (fun _ _ _ _ _ => pts_nil) (fun _ _ _ _ _ => (pe_tup (pa_cons (pv 6) (pa_cons (pe_ix (kix_tup K) (pv 9) pe_int (fun _ _ => rfl)) (pa_cons (pe_ix (kix_tup K) (pv 9) pe_int (fun _ _ => rfl)) pa_nil)))))))))))
      (pss_cons (ps_for PassesOwn.never rfl (pi_range1 rfl T.m_range (pa_cons (pe_op op_mulW pe_int (pv 2)) pa_nil)) (pg_name (i := 8) nd rfl (.inl rfl))
        (pss_cons (ps_asg (pe_ix (kix_list K) (pv 5) (pe_def D__law_draw (hr.mono (by omega)) rfl (pa_cons (pv 0) (pa_cons (pe_callB (kcall_len K) (by rfl) T.m_len PySem.boot_len (pa_cons (pv 5) pa_nil)) pa_nil))) (fun _ _ => rfl)) (kpg_tup K (n := 3) rfl (pgs_cons (pg_name (i := 6) nd rfl (.inr rfl)) (pgs_cons (pg_name (i := 9) nd rfl (.inl rfl)) (pgs_cons (pg_name (i := 10) nd rfl (.inl rfl)) pgs_nil)))))
        (C8.pss_cut (ps_if (pt_cmpR op_lt (pv 8) (pe_callB (kcall_len K) (by rfl) T.m_len PySem.boot_len (pa_cons (pv 5) pa_nil)) (nomark _))
          (pss_one (ps_asg (pe_ix (kix_list K) (pv 5) (pv 8) (fun _ _ => rfl)) (kpg_tup K (n := 3) rfl (pgs_cons (pg_name (i := 6) nd rfl (.inr rfl)) (pgs_cons (pg_name (i := 9) nd rfl (.inl rfl)) (pgs_cons (pg_name (i := 10) nd rfl (.inl rfl)) pgs_nil))))))
          pss_nil)
        (pss_cons (ps_if (PW.pt (pw_or (pt_cmpR op_eq (pe_callB (kcall_len K) (by rfl) T.m_len PySem.boot_len (pa_cons (pv 3) pa_nil)) (pv 2) (nomark _)) (pw_or1 (pt_val (pe_callB (cr_any rfl) (by rfl) T.m_any (by decide +kernel) (pa_cons (pe_lc (own := [("field", 12)]) (g := gName 12) (tt := tYes) rfl nd (kpi_tup K (pv 10)) (blkOk_by (by rfl)) (fun _ _ _ _ _ => (pg_name (i := 12) nd rfl (.inl rfl))) (fun _ _ _ _ _ => pts_nil) (fun _ _ _ _ _ => (pe_and (pe_cmpR op_ne (pv 12) pe_str (nomark _)) (pe_one (pe_cmpR (kop_eqNil K hr.units) (pe_dget (hu_of hr) (pv 4) (pv 12) (fun _ _ => rfl)) (pe_lst pa_nil) (nomark _)))))) pa_nil))))))
          (pss_one ps_continue)
          pss_nil)
        (pss_cons (ps_set (i := 11) nd rfl (.inl rfl) (pe_tup pa_nil))
        (pss_cons (ps_for PassesOwn.never rfl (kpi_tup K (pv 10)) (pg_name (i := 12) nd rfl (.inl rfl))
          (pss_one (ps_if (pt_cmpR op_eq (pv 12) pe_str (nomark _))
            (pss_one (ps_set (i := 11) nd rfl (.inl rfl) (pe_op (kop_catA K) (pv 11) (pe_tup (pa_cons (pe_def D__law_integer (hr.mono (by omega)) rfl (pa_cons (pv 0) pa_nil)) pa_nil)))))
            (pss_cons (ps_set (i := 7) nd rfl (.inl rfl) (pe_dget (hu_of hr) (pv 4) (pv 12) (fun _ _ => rfl)))
            (pss_cons (ps_set (i := 13) nd rfl (.inl rfl) (pe_def D__law_draw (hr.mono (by omega)) rfl (pa_cons (pv 0) (pa_cons (pe_callB (call_min2 rfl) (by rfl) T.m_min (by decide +kernel) (pa_cons (pe_callB (kcall_len K) (by rfl) T.m_len PySem.boot_len (pa_cons (pv 7) pa_nil)) (pa_cons (pe_ix (kix_list K) (pe_lst (pa_cons pe_int (pa_cons pe_int (pa_cons pe_int pa_nil)))) (pe_def D__law_draw (hr.mono (by omega)) rfl (pa_cons (pv 0) (pa_cons pe_int pa_nil))) (fun _ _ => rfl)) pa_nil))) pa_nil))))
            (pss_one (ps_set (i := 11) nd rfl (.inl rfl) (pe_op (kop_catA K) (pv 11) (pe_tup (pa_cons (pe_ix (kix_list K) (pv 7) (pe_op op_sub (pe_op op_sub (pe_callB (kcall_len K) (by rfl) T.m_len PySem.boot_len (pa_cons (pv 7) pa_nil)) pe_int) (pv 13)) (fun _ _ => rfl)) pa_nil))))))))))
        (pss_cons (ps_expr (pe_bm PySem.F.plainAttrs_list PySem.F.slot_list_append PySem.F.type_list_append mt_append (pe_dget (hu_of hr) (pv 4) (pv 6) (fun _ _ => rfl)) (pa_cons (pe_callB (kcall_len K) (by rfl) T.m_len PySem.boot_len (pa_cons (pv 3) pa_nil)) pa_nil)))
        (pss_one (ps_expr (pe_bm PySem.F.plainAttrs_list PySem.F.slot_list_append PySem.F.type_list_append mt_append (pv 3) (pa_cons (pe_tup (pa_cons (pv 9) (pa_cons (pv 11) pa_nil))) pa_nil)))))))))))
      (pss_one (ps_ret (pe_callTy (kcall_tuple K) (by rfl) T.m_tuple (by decide +kernel) (pa_cons (pv 3) pa_nil))))))), ?_⟩
    refine ⟨by show 0 ≤ sizeLine; decide, fun A hA d hd => ⟨by show 0 ≤ sizeLine; decide, fun M hM => ⟨by show 3 ≤ sizeLine; decide, fun T hT => ?_⟩⟩⟩
    have s1 := same_new (o := .lst []) hA
    have eA : (upd H A (.lst [])) A = some (.lst []) := upd_same
    generalize upd H A (.lst []) = H1 at *
    have s2 := same_new (o := .dK []) hd
    have ed : (upd H1 d (.dK [])) d = some (.dK []) := upd_same
    have eA := s2 _ _ eA
    have hd0 := s1.free hd
    generalize upd H1 d (.dK []) = H2 at *
    have s3 := same_new (o := .lst []) hM
    have eM : (upd H2 M (.lst [])) M = some (.lst []) := upd_same
    have nAM : A ≠ M := ne_of_none eA hM
    have eA := s3 _ _ eA
    have ed := s3 _ _ ed
    generalize upd H2 M (.lst []) = H3 at *
    have s4 := same_new (o := .tup [.ref A, .ref d, .ref M]) hT
    have eA := s4 _ _ eA
    have ed := s4 _ _ ed
    have eM := s4 _ _ eM
    refine ⟨T, _, rfl, .of upd_same, rfl, .ref A, _, rfl, .ref d, _, rfl, .ref M, _, rfl, rfl, ?_⟩
    have s04 := ((s1.trans s2).trans s3).trans s4
    have hM0 : H M = none := (s1.trans s2).free hM
    generalize upd H3 T (.tup [.ref A, .ref d, .ref M]) = H4 at *
    refine ⟨.ref a, rfl, a, rfl, ⟨_, (ha.mono (tk_same s04)).sq⟩, ?_⟩
    refine for_it (walk_tup (xs := xs)) (fun i σ Hx => ∃ (y6 y7 : Option V) (M : Addr) (ms : List V), σ = [some (.ref c), some (.ref a), some (.int (cnt : Nat)), some (.ref A), some (.ref d), some (.ref M), y6, y7, none, none, none, none, none, none] ∧ Same H Hx ∧ H M = none ∧ A ≠ M ∧ Hx A = some (.lst []) ∧ SpA H Hx d [A, M] ((ks.take i).map (·.1)) 0 ∧ Hx M = some (.lst ms) ∧ ImAll K Hx ms ((mkL (ks.take i)).map mk3)) ⟨_, _, M, [], rfl, s04, hM0, nAM, eA, ⟨[], ed, rfl, fun x hx => (nomatch hx)⟩, eM, .nil⟩ (fun i σ Hx _ z => ?_) ?_ ?_
    · obtain ⟨_, _, _, _, _, sm, _⟩ := z
      exact (ha.mono (tk_same sm)).sq
    · rintro i x σ Ha Hb hi ⟨y6, y7, M, ms, rfl, sm, hM0, nAM, eA, sp, eM, im⟩ ⟨rfl, ex⟩
      obtain ⟨kd, hkd, ikd⟩ := all_get (ImAll.mono (tk_same sm) _ hx) ex
      have kmem := List.mem_of_getElem? hkd
      obtain ⟨pk, u1, u2, rfl, hpk, iu1, iu2⟩ := im_pair ikd
      obtain rfl := iu1.str_inv
      obtain ⟨pm, us, rfl, hpm, ius⟩ := iu2.tuple_inv
      have lus : us.length = kd.2.length := all_len ius
      have m6 := (ok.mks _ kmem).2
      refine ⟨pk, _, rfl, hpk.sq, rfl, .str kd.1, _, rfl, .ref pm, _, rfl, rfl, ?_⟩
      obtain ⟨kvs, ek, h1, h2⟩ := sp.ex
      have lk : kvs.length ≤ 10 := by
        have e := congrArg List.length h1
        rw [List.length_map, List.length_map, List.length_map, List.length_take] at e
        omega
      refine ⟨by show 0 ≤ sizeLine; decide, fun L hL => ?_⟩
      have sL := same_new (o := .lst []) hL
      have eL : (upd Hb L (.lst [])) L = some (.lst []) := upd_same
      have ek' := sL _ _ ek
      have eA' := sL _ _ eA
      have eM' := sL _ _ eM
      have nLM : L ≠ M := (ne_of_none eM hL).symm
      have nLA : L ≠ A := (ne_of_none eA hL).symm
      have hL0 : H L = none := sm.free hL
      have ndL : d ≠ L := ne_of_none ek hL
      have sm5 := sm.trans sL
      have im5 := ImAll.mono (tk_same sL) _ im
      have hpm5 := hpm.mono (tk_same sL)
      have ius5 := ImAll.mono (tk_same sL) _ ius
      have sp5 := sp.same sL
      generalize upd Hb L (.lst []) = H5 at *
      refine ⟨.ref d, rfl, .str kd.1, rfl, d, _, rfl, .k (k := Sum.inr kd.1) ek' (small1000 (by omega)), ?_⟩
      have hv : valV kvs (Sum.inr kd.1) = none := valV_none (by
        rw [h1, List.map_map]
        intro z
        obtain ⟨k2, hk2, e2⟩ := List.mem_map.mp z
        have e2' : k2.1 = kd.1 := Sum.inr.inj e2
        obtain ⟨j, hj⟩ := List.getElem?_of_mem hk2
        have hji : j < i := by
          have := (List.getElem?_eq_some_iff.mp hj).1
          rw [List.length_take] at this
          omega
        rw [List.getElem?_take_of_lt hji] at hj
        have := (List.getElem?_inj (i := j) (j := i) (by rw [List.length_map]; omega) ok.nd).mp (by rw [List.getElem?_map, List.getElem?_map, hj, hkd]; exact congrArg some e2')
        omega)
      rw [putK_new _ hv]
      have tk6 := tk_dK (o := .dK (kvs ++ [(Sum.inr kd.1, V.ref L)])) ek'
      have sp6 : SpA H (upd H5 d (.dK (kvs ++ [(Sum.inr kd.1, V.ref L)]))) d [A, M] ((ks.take (i + 1)).map (·.1)) 0 := by
        refine ⟨_, upd_same, ?_, fun x hx => ?_⟩
        · rw [List.take_add_one, hkd, List.map_append, List.map_append, List.map_append, h1]; rfl
        · obtain ⟨kvs', ek2, _, h3⟩ := sp5.ex
          rw [ek'] at ek2
          obtain rfl : kvs = kvs' := by injection ek2 with e; injection e
          rw [List.map_append] at hx
          rcases List.mem_append.mp hx with hx | hx
          · obtain ⟨L', xs, rfl, g1, g2, g3, g4⟩ := h3 x hx
            refine ⟨L', xs, rfl, g1, g2, ?_, g4⟩
            rw [upd_ne (fun e => by rw [e, ek'] at g3; cases g3)]; exact g3
          · rw [List.mem_singleton.mp hx]
            refine ⟨L, [], rfl, hL0, ?_, ?_, Nat.le_refl _, fun _ h => (nomatch h)⟩
            · simp only [List.mem_cons, List.not_mem_nil, or_false, not_or]; exact ⟨nLA, nLM⟩
            · rw [upd_ne ndL.symm]; exact eL
      have sm6 : Same H (upd H5 d (.dK (kvs ++ [(Sum.inr kd.1, V.ref L)]))) := fun b o e => by rw [upd_ne (ne_of_none e hd0)]; exact sm5 _ _ e
      have ed6 : (upd H5 d (.dK (kvs ++ [(Sum.inr kd.1, V.ref L)]))) A = some (.lst []) := by rw [upd_ne (fun e => by rw [e, ek'] at eA'; cases eA')]; exact eA'
      have eM6 : (upd H5 d (.dK (kvs ++ [(Sum.inr kd.1, V.ref L)]))) M = some (.lst ms) := by rw [upd_ne (fun e => by rw [e, ek'] at eM'; cases eM')]; exact eM'
      have im6 := ImAll.mono tk6 _ im5
      have hpm6 := hpm5.mono tk6
      have ius6 := ImAll.mono tk6 _ ius5
      generalize upd H5 d (.dK (kvs ++ [(Sum.inr kd.1, V.ref L)])) = H6 at *
      refine ⟨.ref M, rfl, .ref pm, rfl, pm, rfl, ⟨_, hpm6.sq⟩, fun D hD => ?_⟩
      refine lc_all (walk_tup (xs := us)) (fun j Hx => Same H6 Hx ∧ ∃ es, Hx D = some (.lst es) ∧ ImAll K Hx es (((kd.2.take j).map fun m => (kd.1, m)).map mk3)) ⟨same_new hD, [], upd_same, .nil⟩ (fun j Hx _ z => (hpm6.mono (tk_same z.1)).sq) (fun j x Hx Hy hj z y => ?_) (fun Hx z => ?_)
      · obtain ⟨s7, es, eD, ies⟩ := z
        obtain ⟨rfl, hxj⟩ := y
        obtain ⟨m, hm, imm⟩ := all_get (ImAll.mono (tk_same s7) _ ius6) hxj
        obtain ⟨pp, w1, w2, rfl, hpp, iw1, iw2⟩ := im_pair imm
        obtain rfl := iw1.str_inv
        refine ⟨rfl, .str kd.1, rfl, .ref pp, rfl, pp, _, 0, _, rfl, rfl, hpp.sq, atI_nat (j := 0) rfl, .ref pp, rfl, pp, _, 1, _, rfl, rfl, hpp.sq, atI_nat (j := 1) rfl, by show 3 ≤ sizeLine; decide, fun T3 hT3 => ?_⟩
        have s8 := same_new (o := .tup [.str kd.1, .str m.1, w2]) hT3
        have eD8 := s8 _ _ eD
        have tk9 := tk_lst (o := .lst (es ++ [.ref T3])) eD8
        have le : es.length ≤ 6 := by
          have := all_len ies
          rw [List.length_map, List.length_take] at this
          omega
        refine ⟨es, eD8, small1000 (by omega), fun b o e => ?_, _, upd_same, ?_⟩
        · rw [upd_ne (ne_of_none e hD)]; exact s8 _ _ (s7 _ _ e)
        · rw [List.take_add_one, hm, List.map_append, List.map_append]
          refine ImAll.snoc (ImAll.mono ((tk_same s8).trans tk9) _ ies) ?_
          exact .tup ((ITup.mono (tk9 : TK _ _) (.inl upd_same))) (.cons (.str _) (.cons (.str _) (.cons (Im.mono ((tk_same s8).trans tk9) _ iw2) .nil)))
      · obtain ⟨s7, es, eD, ies⟩ := z
        rw [lus, List.take_of_length_le (Nat.le_refl _)] at ies
        have f1 := mkL_few (ks := ks.take i) fun k hk => (ok.mks k (List.mem_of_mem_take hk)).2
        rw [List.length_take] at f1
        have l1 := all_len im6
        have l2 := all_len ies
        rw [List.length_map] at l2
        refine ⟨M, D, ms, es, rfl, rfl, s7 _ _ eM6, eD, Nat.le_of_lt (small1000 (by omega)), fun N hN => ?_⟩
        have s8 := s7.trans (same_new (o := .lst (ms ++ es)) hN)
        have sp8 := (sp6.same s7).av hN
        have tk8 := tk_same (same_new (o := .lst (ms ++ es)) hN)
        refine ⟨_, _, N, ms ++ es, rfl, sm6.trans s8, sm6.free (s7.free hN), ne_of_none (s7 _ _ ed6) hN, s8 _ _ ed6, sp8.same (same_new hN), upd_same, ?_⟩
        rw [mkL_take hkd, List.map_append]
        exact im_app' (ImAll.mono (tk_same s8) _ im6) (ImAll.mono tk8 _ ies)
    · rintro σ Ha ⟨y6, y7, M, ms, rfl, sm, hM0, nAM, eA, sp, eM, im⟩
      rw [lx, List.take_of_length_le (Nat.le_refl _)] at sp im
      have f : Lz H c l d A M := ⟨hd0, hA, hM0, nAM, n, u0⟩
      have z0 : LQ K H c l d A M n 0 ks [] Ha := ⟨but2_same sm, u0.same sm, sp, ⟨[], eA, .nil⟩, ⟨ms, eM, im⟩⟩
      have mkf := mkL_few fun k hk => (ok.mks k hk).2
      have mks := mkL_some ok
      refine ⟨.int (cnt : Nat), rfl, _, _, rfl, rfl, wide_mul (a := 2) (b := 7) (by decide) (by omega) (by decide) (by decide) (by decide), _, rfl, by omega, by omega, ?_⟩
      refine for_it (walk_range (lo := 0) (n := (3 * (cnt : Int)).toNat)) (fun i σ Hx => ∃ (y6 y7 y8 y9 y10 y11 y12 y13 : Option V) (rows : List Rw), σ = [some (.ref c), some (.ref a), some (.int (cnt : Nat)), some (.ref A), some (.ref d), some (.ref M), y6, y7, y8, y9, y10, y11, y12, y13] ∧ LQ K H c l d A M (n + 30 * i) rows.length ks rows Hx ∧ (∀ r ∈ rows, LnOk r) ∧ rows.length ≤ cnt) ⟨_, _, _, _, _, _, _, _, [], rfl, z0, fun _ h => (nomatch h), Nat.zero_le _⟩ (fun _ _ _ _ _ => trivial) ?_ ?_
      · rintro i x σ Ha Hb hi ⟨y6, y7, y8, y9, y10, y11, y12, y13, rows, rfl, z, lo, lc⟩ ⟨rfl, rfl⟩
        show gName 8 (V.int ((0 : Int) + (i : Nat))) _ _ _
        rw [show (0 : Int) + (i : Nat) = (i : Nat) by omega]
        have hi' : i < 291 := by omega
        obtain ⟨ms, eM, iM⟩ := z.ms
        have lms : ms.length = (mkL ks).length := all_len iM
        refine ⟨.ref M, rfl, .ref c, rfl, .ref M, rfl, M, ms, rfl, .inl (.of eM), c, l, _, _, rfl, z.u, by omega, by omega, by omega, fun dd H1 hd u1 b1 => ?_⟩
        have z1 := z.but f u1 b1
        have eM1 := b1 _ _ (f.ne f.nM).1 (f.ne f.nM).2 eM
        have iM1 := ImAll.mono (b1.tk z.u) _ iM
        have get : ∀ (j : Nat), j < ms.length → ∃ (T : Addr) (tm : Str × Mk) (pf : Addr), ms[j]? = some (.ref T) ∧ tm ∈ mkL ks ∧ SqT K H1 T [.str tm.1, .str tm.2.1, .ref pf] ∧ ITup K H1 pf (tm.2.2.map V.str) := fun j hj => by
          obtain ⟨tm, htm⟩ : ∃ tm, (mkL ks)[j]? = some tm := ⟨_, List.getElem?_eq_getElem (by omega)⟩
          obtain ⟨x, ex, ix⟩ := all_at iM1 htm
          obtain ⟨T, v1, v2, v3, rfl, hT, i1, i2, i3⟩ := im_trip (show Im K H1 x (.tuple [.str tm.1, .str tm.2.1, sD tm.2.2]) from ix)
          obtain rfl := i1.str_inv
          obtain rfl := i2.str_inv
          obtain ⟨pf, fs, rfl, hpf, hfs⟩ := Im.tuple_inv (show Im K H1 v3 (.tuple (tm.2.2.map .str)) from i3)
          obtain rfl := im_strs hfs
          exact ⟨T, tm, pf, ex, List.mem_of_getElem? htm, hT.sq, hpf⟩
        obtain ⟨T, tm, pf, ex, mem, hT, hpf⟩ := get dd (by omega)
        refine ⟨M, _, (dd : Nat), .ref T, rfl, rfl, .of eM1, atI_nat ex, T, _, rfl, hT, rfl, .str tm.1, _, rfl, .str tm.2.1, _, rfl, .ref pf, _, rfl, rfl, ?_⟩
        refine ⟨fun σ' H' => ∃ (tm : Str × Mk) (pf : Addr), σ' = [some (.ref c), some (.ref a), some (.int (cnt : Nat)), some (.ref A), some (.ref d), some (.ref M), some (.str tm.1), y7, some (.int (i : Nat)), some (.str tm.2.1), some (.ref pf), y11, y12, y13] ∧ tm ∈ mkL ks ∧ LQ K H c l d A M (n + 30 * i + 1) rows.length ks rows H' ∧ ITup K H' pf (tm.2.2.map V.str), ?_, ?_⟩
        · refine ⟨.int (i : Nat), rfl, .ref M, rfl, M, ms, rfl, .inl (.of eM1), _, _, rfl, rfl, _, rfl, ?_⟩
          by_cases h : ((i : Nat) : Int) < (ms.length : Nat)
          · rw [decide_eq_true h]
            obtain ⟨T, tm, pf, ex, mem, hT, hpf⟩ := get i (by omega)
            exact iteT ⟨.ref M, rfl, .int (i : Nat), rfl, M, _, _, .ref T, rfl, rfl, .of eM1, atI_nat ex, T, _, rfl, hT, rfl, .str tm.1, _, rfl, .str tm.2.1, _, rfl, .ref pf, _, rfl, rfl, tm, pf, rfl, mem, z1, hpf⟩
          · rw [decide_eq_false h]
            exact iteF ⟨tm, pf, rfl, mem, z1, hpf⟩
        · clear get hpf hT mem ex
          rintro σ' H2 ⟨tm, pf, rfl, mem, z2, hpf⟩
          obtain ⟨ws, eA, iA⟩ := z2.ls
          have lws : ws.length = rows.length := all_len iA
          obtain ⟨kd, kmem, et, mmem⟩ := mkL_mem (t := tm.1) (m := tm.2) mem
          have l4 := (ok.mkk _ kmem _ mmem).2
          refine ⟨.ref A, rfl, A, ws, rfl, .inl (.of eA), .int (cnt : Nat), rfl, rfl, _, rfl, ?_⟩
          rw [dec_le]
          by_cases hc : ((ws.length : Nat) : Int) = (cnt : Nat)
          · rw [decide_eq_true hc]
            exact iteT ⟨_, _, _, _, _, _, _, _, rows, rfl, z2.mono (by omega), lo, lc⟩
          · rw [decide_eq_false hc]
            obtain ⟨kvs, ek, _⟩ := z2.sp.ex
            refine iteF ⟨.ref pf, rfl, pf, rfl, ⟨_, hpf.sq⟩, fun D hD => ?_⟩
            refine lc_all (walk_tup (xs := tm.2.2.map V.str)) (fun s Hx => Same H2 Hx ∧ ∃ bs : List Bool, Hx D = some (.lst (bs.map V.bl)) ∧ bs.length = s ∧ (bs.any id = false → ∀ (s' : Nat) f, s' < s → tm.2.2[s']? = some f → f ≠ "number" → ∃ (L : Addr) (xs : List Int), valV kvs (Sum.inr f) = some (.ref L) ∧ H L = none ∧ H2 L = some (.lst (xs.map V.int)) ∧ xs ≠ [])) ⟨same_new hD, [], upd_same, rfl, fun _ s' f h => absurd h (Nat.not_lt_zero _)⟩ (fun s Hx _ z => (hpf.mono (tk_same z.1)).sq) (fun s x Hx Hy hs z y => ?_) (fun Hx z => ?_)
            · obtain ⟨s5, bs, eD, lb, hb⟩ := z
              obtain ⟨rfl, hxs⟩ := y
              rw [List.getElem?_map] at hxs
              obtain ⟨fl, hfl, rfl⟩ := Option.map_eq_some_iff.mp hxs
              have hs4 : s < 4 := by
                have := (List.getElem?_eq_some_iff.mp hfl).1
                omega
              have fin : ∀ (Hz : Hp) (b : Bool), Same Hy Hz → (b = false → fl ≠ "number" → ∃ (L : Addr) (xs : List Int), valV kvs (Sum.inr fl) = some (.ref L) ∧ H L = none ∧ H2 L = some (.lst (xs.map V.int)) ∧ xs ≠ []) → ∃ ws, Hz D = some (.lst ws) ∧ ws.length < sizeLine ∧ Same H2 (upd Hz D (.lst (ws ++ [.bl b]))) ∧ ∃ bs : List Bool, (upd Hz D (.lst (ws ++ [.bl b]))) D = some (.lst (bs.map V.bl)) ∧ bs.length = s + 1 ∧ (bs.any id = false → ∀ (s' : Nat) f, s' < s + 1 → tm.2.2[s']? = some f → f ≠ "number" → ∃ (L : Addr) (xs : List Int), valV kvs (Sum.inr f) = some (.ref L) ∧ H L = none ∧ H2 L = some (.lst (xs.map V.int)) ∧ xs ≠ []) := fun Hz b sz h => by
                refine ⟨_, sz _ _ eD, small1000 (by rw [List.length_map]; omega), fun b' o e => ?_, bs ++ [b], by rw [upd_same, List.map_append]; rfl, by rw [List.length_append, lb]; rfl, fun ha s' f hs' hf hn => ?_⟩
                · rw [upd_ne (ne_of_none e hD)]; exact sz _ _ (s5 _ _ e)
                · rw [List.any_append, Bool.or_eq_false_iff] at ha
                  by_cases q : s' = s
                  · subst q
                    rw [hfl] at hf
                    obtain rfl := Option.some.inj hf
                    exact h (by have := ha.2; simpa using this) hn
                  · exact hb ha.1 s' f (by omega) hf hn
              refine ⟨rfl, .str fl, rfl, rfl, _, rfl, ?_⟩
              rw [dec_str]
              by_cases hn : fl = "number"
              · rw [decide_eq_true hn]
                exact iteF (fin Hy false (Same.refl _) fun _ h => absurd hn h)
              · rw [decide_eq_false hn]
                have hin : fl ∈ ks.map (·.1) := (ok.flds _ kmem _ mmem fl (List.mem_of_getElem? hfl)).resolve_left hn
                obtain ⟨L, xs, hL, g1, g2, g3, g4, g5⟩ := z2.sp.getV ek hin
                refine iteT ⟨.ref d, rfl, .str fl, rfl, d, _, rfl, dget_of (s5 _ _ ek) hL, by show 0 ≤ sizeLine; decide, fun Z hZ => ?_⟩
                have sZ := same_new (o := .lst []) hZ
                refine ⟨L, Z, xs.map V.int, rfl, rfl, .of (sZ _ _ (s5 _ _ g3)), .of upd_same, ?_⟩
                exact fin _ _ sZ fun hb _ => ⟨L, xs, hL, g1, g3, fun e => by subst e; exact absurd hb (by simp)⟩
            · obtain ⟨s5, bs, eD, lb, hb⟩ := z
              rw [List.length_map] at lb hb
              refine ⟨D, bs, rfl, .of eD, ?_⟩
              cases hbs : bs.any id with
              | true => exact ⟨true, rfl, iteT ⟨_, _, _, _, _, _, _, _, rows, rfl, (z2.same f s5).mono (by omega), lo, lc⟩⟩
              | false =>
              refine ⟨false, rfl, iteF ?_⟩
              have full := hb hbs
              refine ⟨by show 0 ≤ sizeLine; decide, fun E0 hE0 => ?_⟩
              have sE := same_new (o := .tup []) hE0
              have z3 := (z2.same f s5).same f sE
              have b3 : But2 c l H2 (upd Hx E0 (.tup [])) := but2_same (s5.trans sE)
              have hE3 : ITup K (upd Hx E0 (.tup [])) E0 (([] : List Int).map V.int) := .inl upd_same
              have hpf3 := hpf.mono (tk_same (s5.trans sE))
              generalize upd Hx E0 (.tup []) = H3 at *
              refine ⟨.ref pf, rfl, pf, rfl, ⟨_, hpf3.sq⟩, ?_⟩
              refine for_it (walk_tup (xs := tm.2.2.map V.str)) (fun s σ Hx => ∃ (y7 y12 y13 : Option V) (E : Addr) (es : List Int), σ = [some (.ref c), some (.ref a), some (.int (cnt : Nat)), some (.ref A), some (.ref d), some (.ref M), some (.str tm.1), y7, some (.int (i : Nat)), some (.str tm.2.1), some (.ref pf), some (.ref E), y12, y13] ∧ LQ K H c l d A M (n + 30 * i + 1 + 6 * s) rows.length ks rows Hx ∧ But2 c l H2 Hx ∧ ITup K Hx pf (tm.2.2.map V.str) ∧ ITup K Hx E (es.map V.int) ∧ es.length = s ∧ ∀ e ∈ es, DrI e) ⟨_, _, _, E0, [], rfl, z3, b3, hpf3, hE3, rfl, fun _ h => (nomatch h)⟩ (fun s σ Hx _ z => ?_) ?_ ?_
              · obtain ⟨_, _, _, _, _, _, _, _, h, _⟩ := z
                exact h.sq
              · rintro s x σ Hx Hy hs ⟨y7, y12, y13, E, es, rfl, z, b, hpf, hE, le, he⟩ ⟨rfl, hxs⟩
                rw [List.getElem?_map] at hxs
                obtain ⟨fl, hfl, rfl⟩ := Option.map_eq_some_iff.mp hxs
                have hs4 : s < 4 := by
                  have := (List.getElem?_eq_some_iff.mp hfl).1
                  omega
                -- one more entry
                have fin : ∀ (Hz : Hp) (m : Nat) (v : Int) (y7 y13 : Option V), m ≤ n + 30 * i + 1 + 6 * (s + 1) → DrI v → LQ K H c l d A M m rows.length ks rows Hz → But2 c l H2 Hz → ITup K Hz pf (tm.2.2.map V.str) → ITup K Hz E (es.map V.int) → ∀ T, Hz T = none → rCatA K (.ref E) (.ref T) (upd Hz T (.tup [.int v])) fun x H' => gName 11 x [some (.ref c), some (.ref a), some (.int (cnt : Nat)), some (.ref A), some (.ref d), some (.ref M), some (.str tm.1), y7, some (.int (i : Nat)), some (.str tm.2.1), some (.ref pf), some (.ref E), some (.str fl), y13] H' fun σ H'' => ∃ (y7 y12 y13 : Option V) (E : Addr) (es : List Int), σ = [some (.ref c), some (.ref a), some (.int (cnt : Nat)), some (.ref A), some (.ref d), some (.ref M), some (.str tm.1), y7, some (.int (i : Nat)), some (.str tm.2.1), some (.ref pf), some (.ref E), y12, y13] ∧ LQ K H c l d A M (n + 30 * i + 1 + 6 * (s + 1)) rows.length ks rows H'' ∧ But2 c l H2 H'' ∧ ITup K H'' pf (tm.2.2.map V.str) ∧ ITup K H'' E (es.map V.int) ∧ es.length = s + 1 ∧ ∀ e ∈ es, DrI e := fun Hz m v y7 y13 hm hv z b hpf hE T hT => by
                  have sT := same_new (o := .tup [.int v]) hT
                  refine cat_bigO (hE.mono (tk_same sT)) (.inl upd_same) (Nat.le_trans (show _ ≤ 100 by rw [List.length_map]; show es.length + 1 ≤ 100; omega) (by decide)) fun p H' s' hp => ?_
                  have sz := sT.trans s'
                  refine ⟨_, _, _, p, es ++ [v], rfl, (z.same f sz).mono hm, b.trans (but2_same sz), hpf.mono (tk_same sz), by rw [List.map_append]; exact hp, by rw [List.length_append, le]; rfl, fun e h => ?_⟩
                  rcases List.mem_append.mp h with h | h
                  · exact he e h
                  · rw [List.mem_singleton.mp h]; exact hv
                refine ⟨.str fl, rfl, rfl, _, rfl, ?_⟩
                rw [dec_str]
                by_cases hn : fl = "number"
                · rw [decide_eq_true hn]
                  refine iteT ⟨.ref E, rfl, .ref c, rfl, c, l, _, rfl, z.u, by omega, fun v H5 hv u5 b5 => ⟨by show 1 ≤ sizeLine; decide, fun T hT => ?_⟩⟩
                  exact fin H5 _ v _ _ (by omega) hv (z.but f u5 b5) (b.trans b5) (hpf.mono (b5.tk z.u)) (hE.mono (b5.tk z.u)) T hT
                · rw [decide_eq_false hn]
                  obtain ⟨L, xs, hL, g1, g2, g3⟩ := full s fl (by exact (List.getElem?_eq_some_iff.mp hfl).1) hfl hn
                  have ekx := b _ _ (f.ne f.nd).1 (f.ne f.nd).2 ek
                  have eLx := b _ _ (f.ne g1).1 (f.ne g1).2 g2
                  have hin : fl ∈ ks.map (·.1) := (ok.flds _ kmem _ mmem fl (List.mem_of_getElem? hfl)).resolve_left hn
                  obtain ⟨L', xs', hL', _, _, k3, k4, k5⟩ := z.sp.getV ekx hin
                  rw [hL] at hL'
                  obtain rfl : L = L' := by injection hL' with q; injection q
                  rw [eLx] at k3
                  have exs : xs = xs' := ints_inj (by injection k3 with q; injection q)
                  subst exs
                  have lpos : 1 ≤ xs.length := List.length_pos_iff.mpr g3
                  refine iteF ⟨.ref d, rfl, .str fl, rfl, d, _, rfl, dget_of ekx hL, ?_⟩
                  refine ⟨.ref c, rfl, .ref L, rfl, L, _, rfl, .inl (.of eLx), by show 3 ≤ sizeLine; decide, fun Z hZ => ?_⟩
                  have sZ := same_new (o := .lst [.int 1, .int 2, .int 96]) hZ
                  have eZ : (upd Hy Z (.lst [.int 1, .int 2, .int 96])) Z = some (.lst ([1, 2, 96].map V.int)) := upd_same
                  have nZc := z.u.nw hZ
                  have nZl := z.u.nl hZ
                  have uZ := z.u.same sZ
                  have tkZ := tk_same sZ
                  have bZ := but2_same (w := c) (l := l) sZ
                  generalize upd Hy Z (.lst [.int 1, .int 2, .int 96]) = HZ at *
                  refine ⟨.ref c, rfl, c, l, 3, _, rfl, uZ, by omega, by decide, by decide, fun e H5 he2 u5 b5 => ?_⟩
                  obtain ⟨g, hg, mg'⟩ := int_at [1, 2, 96] (d := e) (by show e < 3; omega)
                  have g96 : 1 ≤ g ∧ g ≤ 96 := (by decide : ∀ m ∈ [(1 : Int), 2, 96], 1 ≤ m ∧ m ≤ 96) g mg'
                  refine ⟨Z, _, (e : Nat), _, rfl, rfl, .of (b5 _ _ nZc nZl eZ), atI_nat hg, _, _, rfl, ?_⟩
                  rw [List.length_map]
                  obtain ⟨mn, emn, m1, m2⟩ : ∃ mn : Int, (if g < ((xs.length : Nat) : Int) then g else ((xs.length : Nat) : Int)) = mn ∧ 1 ≤ mn ∧ mn ≤ xs.length := by
                    by_cases q : g < ((xs.length : Nat) : Int)
                    · exact ⟨g, if_pos q, g96.1, by omega⟩
                    · exact ⟨_, if_neg q, by omega, Int.le_refl _⟩
                  rw [emn]
                  refine ⟨c, l, mn, _, rfl, u5, by omega, by omega, by omega, fun bk H6 hbk u6 b6 => ?_⟩
                  have bx6 : But2 c l Hy H6 := (bZ.trans b5).trans b6
                  have tk6 : TK Hy H6 := bx6.tk z.u
                  have eL6 := bx6 _ _ (f.ne g1).1 (f.ne g1).2 eLx
                  obtain ⟨v, hv⟩ : ∃ v, xs[xs.length - 1 - bk]? = some v := ⟨_, List.getElem?_eq_getElem (by omega)⟩
                  have v97 := k5 v (List.mem_of_getElem? hv)
                  refine ⟨.ref E, rfl, .ref L, rfl, .ref L, rfl, L, _, rfl, .inl (.of eL6), _, _, rfl, rfl, .int (bk : Nat), rfl, _, _, rfl, rfl, L, _, _, .int v, rfl, rfl, .of eL6, ?_, by show 1 ≤ sizeLine; decide, fun T hT => ?_⟩
                  · rw [List.length_map, show ((xs.length : Nat) : Int) - 1 - ((bk : Nat) : Int) = ((xs.length - 1 - bk : Nat) : Int) by omega]
                    exact atI_nat (by rw [List.getElem?_map, hv]; rfl)
                  · exact fin H6 _ v _ _ (by omega) (drI_small (by show _ < 1099511627776; omega)) (z.but f u6 bx6) (b.trans bx6) (hpf.mono tk6) (hE.mono tk6) T hT
              · rintro σ Hx ⟨y7, y12, y13, E, es, rfl, z, b, hpf, hE, le, he⟩
                rw [List.length_map] at le z
                have ekx := b _ _ (f.ne f.nd).1 (f.ne f.nd).2 ek
                have eAx := b _ _ (f.ne f.nA).1 (f.ne f.nA).2 eA
                have hin : tm.1 ∈ ks.map (·.1) := by rw [et]; exact List.mem_map.mpr ⟨kd, kmem, rfl⟩
                obtain ⟨L, xs, hL, g1, g2, g3, g4, g5⟩ := z.sp.getV ekx hin
                refine ⟨.ref d, rfl, .str tm.1, rfl, d, _, rfl, dget_of ekx hL, .inl ⟨rfl, _, .of g3⟩, .ref A, rfl, A, _, rfl, .inl (.of eAx), L, _, _, rfl, rfl, g3, small1000 (by rw [List.length_map]; omega), ?_⟩
                rw [lws]
                have z6 := z.putL f g1 g2 g3 g4 g5
                have nAL : A ≠ L := fun q => g2 (by rw [q]; exact List.mem_cons_self ..)
                have eA6 : (upd Hx L (.lst (xs.map V.int ++ [.int (rows.length : Nat)]))) A = some (.lst ws) := by rw [upd_ne nAL]; exact eAx
                have hE6 := hE.mono (tk_lst (o := .lst (xs.map V.int ++ [.int (rows.length : Nat)])) g3)
                generalize upd Hx L (.lst (xs.map V.int ++ [.int (rows.length : Nat)])) = H6 at *
                refine ⟨.ref A, rfl, .inl ⟨rfl, _, .of eA6⟩, .str tm.2.1, rfl, .ref E, rfl, by show 2 ≤ sizeLine; decide, fun T hT => ?_⟩
                have sT := same_new (o := .tup [.str tm.2.1, .ref E]) hT
                have z7 := z6.same f sT
                have iT : Im K (upd H6 T (.tup [.str tm.2.1, .ref E])) (.ref T) (rwD (tm.2.1, es)) := .tup (.inl upd_same) (.cons (.str _) (.cons (.tup (hE6.mono (tk_same sT)) (ints_im es)) .nil))
                have z8 := z7.putA f (sT _ _ eA6) iT
                refine ⟨A, ws, .ref T, rfl, rfl, sT _ _ eA6, small1000 (by omega), ?_⟩
                refine ⟨_, _, _, _, _, _, _, _, rows ++ [(tm.2.1, es)], rfl, ?_, fun r h => ?_, ?_⟩
                · rw [List.length_append]
                  exact z8.mono (by omega)
                · rcases List.mem_append.mp h with h | h
                  · exact lo r h
                  · rw [List.mem_singleton.mp h]
                    exact ⟨(ok.mkk _ kmem _ mmem).1.1, by show es.length ≤ 4; omega, he⟩
                · rw [List.length_append]
                  show _ + 1 ≤ _
                  omega
      · rintro σ Ha ⟨y6, y7, y8, y9, y10, y11, y12, y13, rows, rfl, z, lo, lc⟩
        obtain ⟨ws, eA, iA⟩ := z.ls
        refine ⟨.ref A, rfl, A, _, rfl, .inl ⟨.of eA, fun p hp => ?_⟩⟩
        have sp := same_new (o := .tup ws) hp
        refine q p rows _ lo (by omega) ((z.u.same sp).mono (by omega)) (z.b.trans (but2_same sp)) (.tup (.inl upd_same) (ImAll.mono (tk_same sp) _ iA))
end
end K63

set_option Elab.async false
set_option linter.all false
set_option maxRecDepth 100000
set_option exponentiation.threshold 20000
set_option pp.deepTerms false
set_option pp.deepTerms.threshold 8
namespace K63
open PySem PySem.Spec PyProof.Rows L2 Ly Mt
/-! ### the same, sizes -/
section
variable {P : Program} {w : World} {K : PySem.W.Frag} {mg : Str → Option Value} {base : Heap}
abbrev s__law_same : Stmt := topS 42
theorem sc__law_same : FnScope ["found", "due", "k"] ["found", "due"] (defScope s__law_same) := ⟨rfl, rfl, rfl, by decide +kernel, rfl, by decide +kernel, by decide +kernel⟩
def sp_lsame (K : PySem.W.Frag) (n : Nat) : Sp := fun vs H Q _ => ∃ (t : Nat) (u v : V), vs = [u, v] ∧ t < n ∧ ((∃ b : Bool, u = .bl b ∧ v = .bl b) ∨ (∃ i : Int, u = .int i ∧ v = .int i) ∨ (1 ≤ t ∧ ∃ (a b : Addr) (ns : List Int), u = .ref a ∧ v = .ref b ∧ ITup K H a (ns.map V.int) ∧ ITup K H b (ns.map V.int) ∧ ns.length ≤ 900)) ∧ ∀ H', Same H H' → Q (.bl true) H'
theorem ok_lsame0 {f : Addr} {fd : FuncData} {k : Nat} (F : Fun K "_law_same" "_law_same" s__law_same f fd) : FnOk P w K mg base CX0 (k + 1) f fd ["found", "due"] (sp_lsame K 0) := by
  refine F.ok sc__law_same (fun vs H Q E h => ?_) (fun cdv A outer s H vs Q E hr h => ?_)
  · obtain ⟨_, _, _, _, n, _⟩ := h
    exact absurd n (Nat.not_lt_zero _)
  · obtain ⟨_, _, _, _, n, _⟩ := h
    exact absurd n (Nat.not_lt_zero _)
theorem ok__law_same {f : Addr} {fd : FuncData} {k : Nat} (F : Fun K "_law_same" "_law_same" s__law_same f fd) (T : Tx K mg){ki d : Nat} (D__law_same : Def P w K mg base ki "_law_same" s__law_same ["found", "due"] (sp_lsame K d)) (hk : ki ≤ k) : FnOk P w K mg base CX0 (k + 1) f fd ["found", "due"] (sp_lsame K (d + 1)) := by
  have nd := sc__law_same.nd
  refine F.ok sc__law_same (fun vs H Q E h => ?_) (fun cdv A outer s H vs Q E hr h => ?_)
  · obtain ⟨_, _, _, rfl, _⟩ := h
    rfl
  · obtain ⟨t, u, v, rfl, ht, z, q⟩ := h
    refine ⟨_, (pss_cons (ps_if (pt_cmp (pc_isN (pv 1)))
        (pss_one (ps_ret (pe_cmp (pc_isN (pv 0)) rfl)))
        pss_nil)
      (pss_cons (ps_if (pt_cmpR op_isV (pv 1) pe_bl (nomark _))
        (pss_one (ps_ret (pe_cmpR op_isV (pv 0) pe_bl (nomark _))))
        pss_nil)
      (pss_cons (ps_if (pt_cmpR op_isV (pv 1) pe_bl (nomark _))
        (pss_one (ps_ret (pe_cmpR op_isV (pv 0) pe_bl (nomark _))))
        pss_nil)
      (pss_cons (ps_if (pt_val (pe_callB (kcall_isi K) (by rfl) T.m_isinstance (by decide +kernel) (pa_cons (pv 1) (pa_cons (pe_bltn (v := .ty "int") (u := .type "int") (by rfl) T.m_int (by decide +kernel) rfl) pa_nil))))
        (pss_one (ps_ret (pe_and (pe_callB (kcall_isi K) (by rfl) T.m_isinstance (by decide +kernel) (pa_cons (pv 0) (pa_cons (pe_bltn (v := .ty "int") (u := .type "int") (by rfl) T.m_int (by decide +kernel) rfl) pa_nil))) (pe_and (pe_not (pe_callB (kcall_isi K) (by rfl) T.m_isinstance (by decide +kernel) (pa_cons (pv 0) (pa_cons (pe_bltn (v := .ty "bool") (u := .type "bool") (by rfl) T.m_bool (by decide +kernel) rfl) pa_nil)))) (pe_one (pe_cmpR op_eq (pv 0) (pv 1) (nomark _)))))))
        pss_nil)
      (pss_cons (ps_if (pt_val (pe_callB (kcall_isi K) (by rfl) T.m_isinstance (by decide +kernel) (pa_cons (pv 1) (pa_cons (pe_bltn (v := .ty "str") (u := .type "str") (by rfl) T.m_str (by decide +kernel) rfl) pa_nil))))
        (pss_one (ps_ret (pe_and (pe_callB (kcall_isi K) (by rfl) T.m_isinstance (by decide +kernel) (pa_cons (pv 0) (pa_cons (pe_bltn (v := .ty "str") (u := .type "str") (by rfl) T.m_str (by decide +kernel) rfl) pa_nil))) (pe_one (pe_cmpR op_eq (pv 0) (pv 1) (nomark _))))))
        pss_nil)
      (pss_cons (ps_if (PW.pt (pw_or (pt_cmpR op_ne (pe_callB (kcall_isi K) (by rfl) T.m_isinstance (by decide +kernel) (pa_cons (pv 1) (pa_cons (pe_bltn (v := .ty "tuple") (u := .type "tuple") (by rfl) T.m_tuple (by decide +kernel) rfl) pa_nil))) (pe_callB (kcall_isi K) (by rfl) T.m_isinstance (by decide +kernel) (pa_cons (pv 0) (pa_cons (pe_bltn (v := .ty "tuple") (u := .type "tuple") (by rfl) T.m_tuple (by decide +kernel) rfl) pa_nil))) (nomark _)) (pw_or1 (pt_cmpR op_ne (pe_callB (kcall_isi K) (by rfl) T.m_isinstance (by decide +kernel) (pa_cons (pv 1) (pa_cons (pe_bltn (v := .ty "list") (u := .type "list") (by rfl) T.m_list (by decide +kernel) rfl) pa_nil))) (pe_callB (kcall_isi K) (by rfl) T.m_isinstance (by decide +kernel) (pa_cons (pv 0) (pa_cons (pe_bltn (v := .ty "list") (u := .type "list") (by rfl) T.m_list (by decide +kernel) rfl) pa_nil))) (nomark _)))))
        (pss_one (ps_ret pe_bl))
        pss_nil)
      (pss_cons (ps_if (pt_cmpR op_ne (pe_callB (kcall_len K) (by rfl) T.m_len PySem.boot_len (pa_cons (pv 0) pa_nil)) (pe_callB (kcall_len K) (by rfl) T.m_len PySem.boot_len (pa_cons (pv 1) pa_nil)) (nomark _))
        (pss_one (ps_ret pe_bl))
        pss_nil)
      (pss_one (ps_ret (pe_callB (kcr_all K) (by rfl) T.m_all (by decide +kernel) (pa_cons (pe_lc (own := [("k", 2)]) (g := gName 2) (tt := tYes) rfl nd (pi_range1 rfl T.m_range (pa_cons (pe_callB (kcall_len K) (by rfl) T.m_len PySem.boot_len (pa_cons (pv 1) pa_nil)) pa_nil)) (blkOk_by (by rfl)) (fun _ _ _ _ _ => (pg_name (i := 2) nd rfl (.inl rfl))) (fun _ _ _ _ _ => pts_nil) (fun _ _ _ _ _ => (pe_def D__law_same (hr.mono (by omega)) rfl (pa_cons (pe_ix (kix_tup K) (pv 0) (pv 2) (fun _ _ => rfl)) (pa_cons (pe_ix (kix_tup K) (pv 1) (pv 2) (fun _ _ => rfl)) pa_nil))))) pa_nil))))))))))), ?_⟩
    have q0 := q H (Same.refl H)
    rcases z with ⟨b, rfl, rfl⟩ | ⟨i, rfl, rfl⟩ | ⟨t1, a, b, ns, rfl, rfl, ha, hb, l9⟩
    · refine ⟨.bl b, rfl, false, rfl, iteF ⟨.bl b, rfl, true, rfl, _, rfl, ?_⟩⟩
      cases b with
      | true =>
        rw [decide_eq_true rfl]
        refine iteT ⟨.bl true, rfl, true, rfl, ?_⟩
        rw [decide_eq_true rfl]
        exact q0
      | false =>
        rw [decide_eq_false (fun h => by cases h)]
        refine iteF ⟨.bl false, rfl, false, rfl, _, rfl, ?_⟩
        rw [decide_eq_true rfl]
        refine iteT ⟨.bl false, rfl, false, rfl, ?_⟩
        rw [decide_eq_true rfl]
        exact q0
    · refine ⟨.int i, rfl, false, rfl, iteF ⟨.int i, rfl, true, rfl, _, rfl, ?_⟩⟩
      rw [decide_eq_false (fun h => by cases h)]
      refine iteF ⟨.int i, rfl, false, rfl, _, rfl, ?_⟩
      rw [decide_eq_false (fun h => by cases h)]
      refine iteF ⟨.int i, rfl, .int i, _, .type "int", _, true, rfl, .ty _, .base (.int i), kit_ty (by decide +kernel), true, rfl, iteT ?_⟩
      refine ⟨.int i, rfl, .int i, _, .type "int", _, true, rfl, .ty _, .base (.int i), kit_ty (by decide +kernel), true, rfl, iteT ?_⟩
      refine ⟨.int i, rfl, .int i, _, .type "int", _, false, rfl, .ty _, .base (.int i), kit_ty (by decide +kernel), false, rfl, true, rfl, iteT ⟨.int i, rfl, .int i, rfl, rfl, ?_⟩⟩
      rw [decide_eq_true rfl]
      exact q0
    · refine ⟨.ref b, rfl, false, rfl, iteF ⟨.ref b, rfl, true, rfl, _, rfl, ?_⟩⟩
      rw [decide_eq_false (fun h => by cases h)]
      refine iteF ⟨.ref b, rfl, false, rfl, _, rfl, ?_⟩
      rw [decide_eq_false (fun h => by cases h)]
      refine iteF ⟨.ref b, rfl, .ref b, _, .type "tuple", _, false, rfl, .ty _, sqt_ty hb.sq, kit_ty (by decide +kernel), false, rfl, iteF ?_⟩
      refine ⟨.ref b, rfl, .ref b, _, .type "tuple", _, false, rfl, .ty _, sqt_ty hb.sq, kit_ty (by decide +kernel), false, rfl, iteF ?_⟩
      refine ⟨.ref b, rfl, .ref b, _, .type "tuple", _, true, rfl, .ty _, sqt_ty hb.sq, kit_ty (by decide +kernel), .ref a, rfl, .ref a, _, .type "tuple", _, true, rfl, .ty _, sqt_ty ha.sq, kit_ty (by decide +kernel), rfl, _, rfl, ?_⟩
      rw [decide_eq_true rfl]
      refine iteF ⟨.ref b, rfl, .ref b, _, .type "tuple", _, false, rfl, .ty _, sqt_ty hb.sq, kit_ty (by decide +kernel), .ref a, rfl, .ref a, _, .type "tuple", _, false, rfl, .ty _, sqt_ty ha.sq, kit_ty (by decide +kernel), rfl, _, rfl, ?_⟩
      rw [decide_eq_true rfl]
      refine iteF ⟨.ref a, rfl, a, _, rfl, .inr ha.sq, .ref b, rfl, b, _, rfl, .inr hb.sq, rfl, _, rfl, ?_⟩
      rw [decide_eq_true rfl]
      refine iteF ⟨.ref b, rfl, b, _, rfl, .inr hb.sq, _, rfl, by rw [List.length_map]; omega, by rw [List.length_map]; omega, fun D hD => ?_⟩
      refine lc_all (walk_range (lo := 0) (n := (((ns.map V.int).length : Nat) : Int).toNat)) (fun i Hx => Same H Hx ∧ Hx D = some (.lst ((List.replicate i true).map V.bl))) ⟨same_new hD, upd_same⟩ (fun _ _ _ _ => trivial) (fun i x Hx Hy hi z y => ?_) (fun Hx z => ?_)
      · obtain ⟨s1, eD⟩ := z
        obtain ⟨rfl, rfl⟩ := y
        rw [Int.toNat_natCast, List.length_map] at hi
        obtain ⟨n, hn⟩ : ∃ n, ns[i]? = some n := ⟨_, List.getElem?_eq_getElem hi⟩
        refine ⟨rfl, .ref a, rfl, .int (0 + (i : Nat)), rfl, a, _, _, .int n, rfl, rfl, (ha.mono (tk_same s1)).sq, by rw [Int.zero_add]; exact atI_nat (by rw [List.getElem?_map, hn]; rfl), .ref b, rfl, .int (0 + (i : Nat)), rfl, b, _, _, .int n, rfl, rfl, (hb.mono (tk_same s1)).sq, by rw [Int.zero_add]; exact atI_nat (by rw [List.getElem?_map, hn]; rfl), 0, .int n, .int n, rfl, by omega, .inr (.inl ⟨n, rfl, rfl⟩), fun H8 s8 => ⟨_, s8 _ _ eD, small1000 (by rw [List.length_map, List.length_replicate]; omega), fun b o e => ?_, ?_⟩⟩
        · rw [upd_ne (ne_of_none e hD)]; exact s8 _ _ (s1 _ _ e)
        · rw [upd_same, List.replicate_succ', List.map_append]; rfl
      · obtain ⟨s1, eD⟩ := z
        refine ⟨D, _, rfl, .of eD, ?_⟩
        rw [show (List.replicate _ true).all id = true from List.all_eq_true.mpr fun x hx => (List.mem_replicate.mp hx).2]
        exact q Hx s1
abbrev s__law_sizes : Stmt := topS 43
theorem sc__law_sizes : FnScope ["table", "lines", "found", "maker", "entries", "fields", "k"] ["table", "lines"] (defScope s__law_sizes) := ⟨rfl, rfl, rfl, by decide +kernel, rfl, by decide +kernel, by decide +kernel⟩
def sl_sizes (K : PySem.W.Frag) : Sp := fun vs H Q _ => ∃ (d : Addr) (v : V) (ks : List Kd) (rows : List Rw), vs = [.ref d, v] ∧ KindsOk ks ∧ TabO K H d (oRows ks) ∧ Im K H v (rwsD rows) ∧ RowsR ks rows ∧ ∀ p H', Same H H' → ITup K H' p ((foldR (szG ks) rows).map V.int) → Q (.ref p) H'
theorem ok__law_sizes {f : Addr} {fd : FuncData} {k : Nat} (F : Fun K "_law_sizes" "_law_sizes" s__law_sizes f fd) (T : Tx K mg) : FnOk P w K mg base CX0 (k + 1) f fd ["table", "lines"] (sl_sizes K) := by
  have nd := sc__law_sizes.nd
  refine F.ok sc__law_sizes (fun vs H Q E h => ?_) (fun cdv A outer s H vs Q E hr h => ?_)
  · obtain ⟨_, _, _, _, rfl, _⟩ := h
    rfl
  · obtain ⟨d, v, ks, rows, rfl, ok, tb, iv, ro, q⟩ := h
    obtain ⟨a, xs, rfl, ha, hx⟩ := iv.tuple_inv
    have lx : xs.length = rows.length := all_len hx
    have few := ro.few
    refine ⟨_, (pss_cons (ps_set (i := 2) nd rfl (.inr rfl) (pe_lst pa_nil))
      (pss_cons (ps_for PassesOwn.never rfl (kpi_tup K (pv 1)) (kpg_tup K (n := 2) rfl (pgs_cons (pg_name (i := 3) nd rfl (.inl rfl)) (pgs_cons (pg_name (i := 4) nd rfl (.inr rfl)) pgs_nil)))
        (pss_cons (ps_set (i := 5) nd rfl (.inr rfl) (pe_ix (kix_tup K) (pe_dget (hu_of hr) (pv 0) (pv 3) (fun _ _ => rfl)) pe_int (fun _ _ => rfl)))
        (pss_one (ps_expr (pe_bm PySem.F.plainAttrs_list PySem.F.slot_list_append PySem.F.type_list_append mt_append (pv 2) (pa_cons (pe_op op_add pe_int (pe_callB (kcr_sum K) (by rfl) T.m_sum (by decide +kernel) (pa_cons (pe_lc (own := [("k", 6)]) (g := gName 6) rfl nd (pi_range1 rfl T.m_range (pa_cons (pe_callB (kcall_len K) (by rfl) T.m_len PySem.boot_len (pa_cons (pv 5) pa_nil)) pa_nil)) (blkOk_by (by rfl)) (fun _ _ _ _ _ => (pg_name (i := 6) nd rfl (.inl rfl))) (fun _ _ _ _ _ => (pts_one (pt_cmpR op_ne (pe_ix (kix_tup K) (pv 5) (pv 6) (fun _ _ => rfl)) pe_str (nomark _)))) (fun _ _ _ _ _ => (pe_ix (kix_list K) (pv 2) (pe_ix (kix_tup K) (pv 4) (pv 6) (fun _ _ => rfl)) (fun _ _ => rfl)))) pa_nil))) pa_nil))))))
      (pss_one (ps_ret (pe_callTy (kcall_tuple K) (by rfl) T.m_tuple (by decide +kernel) (pa_cons (pv 2) pa_nil)))))), ?_⟩
    refine ⟨by show 0 ≤ sizeLine; decide, fun L hL => ?_⟩
    have sL := same_new (o := .lst []) hL
    have eL : (upd H L (.lst [])) L = some (.lst []) := upd_same
    generalize upd H L (.lst []) = H0 at *
    refine ⟨.ref a, rfl, a, rfl, ⟨_, (ha.mono (tk_same sL)).sq⟩, ?_⟩
    refine for_it (walk_tup (xs := xs)) (fun t σ Ha => ∃ (y3 y4 y5 : Option V), σ = [some (.ref d), some (.ref a), some (.ref L), y3, y4, y5, none] ∧ Same H Ha ∧ Ha L = some (.lst ((foldR (szG ks) (rows.take t)).map V.int))) ⟨_, _, _, rfl, sL, by rw [List.take_zero]; exact eL⟩ (fun t σ Ha _ z => ?_) ?_ ?_
    · obtain ⟨_, _, _, _, sm, _⟩ := z
      exact (ha.mono (tk_same sm)).sq
    · rintro t x σ Ha Hb ht ⟨y3, y4, y5, rfl, sm, eL⟩ ⟨rfl, hxt⟩
      obtain ⟨r, hr', ir⟩ := all_get (ImAll.mono (tk_same sm) _ hx) hxt
      obtain ⟨p, z1, z2, rfl, hp, iz1, iz2⟩ := im_pair ir
      obtain rfl := iz1.str_inv
      obtain ⟨pe, es, rfl, hpe, hes⟩ := iz2.tuple_inv
      obtain rfl := im_intsN hes
      obtain ⟨i, j, kd, m, R⟩ := ro.each t r hr'
      obtain ⟨jj, vr, gr, irr⟩ := tbO_get (tb.same sm) ok R.lk
      obtain ⟨qr, r1, r2, r3, rfl, hqr, ir1, ir22, ir3⟩ := im_trip irr
      have ir3' : Im K Hb r3 (.tuple (m.2.map .str)) := ir3
      obtain ⟨pf, fs, rfl, hpf, hfs⟩ := ir3'.tuple_inv
      obtain rfl := im_strs hfs
      have kmem := List.mem_of_getElem? R.at'.hk
      have mmem := List.mem_of_getElem? R.at'.hm
      have l4 := (ok.mkk _ kmem _ mmem).2
      have lr := R.len
      have tl : t ≤ rows.length := by omega
      have fll := foldR_len (g := szG ks) t tl
      refine ⟨p, _, rfl, hp.sq, rfl, .str r.1, _, rfl, .ref pe, _, rfl, rfl, ?_⟩
      refine ⟨.ref d, rfl, .str r.1, rfl, d, _, rfl, gr, qr, _, 2, _, rfl, rfl, hqr.sq, atI_nat (j := 2) rfl, ?_⟩
      refine ⟨.ref L, rfl, .inl ⟨rfl, _, .of eL⟩, .ref pf, rfl, pf, _, rfl, .inr hpf.sq, _, rfl, by rw [List.length_map]; omega, by rw [List.length_map]; omega, fun D hD => ?_⟩
      rw [List.length_map]
      have nLD : L ≠ D := ne_of_none eL hD
      refine lc_it (walk_range (lo := 0) (n := ((m.2.length : Nat) : Int).toNat)) (fun s Hx => Same Hb Hx ∧ Hx D = some (.lst ((szL m.2 r.2 (foldR (szG ks) (rows.take t)) s).map V.int)) ∧ (szL m.2 r.2 (foldR (szG ks) (rows.take t)) s).length ≤ s) ⟨same_new hD, upd_same, Nat.le_refl _⟩ (fun _ _ _ _ => trivial) (fun s x Hx Hy hi z y => ?_) (fun Hx z => ?_)
      · obtain ⟨s3, eD, lD⟩ := z
        obtain ⟨rfl, rfl⟩ := y
        rw [Int.toNat_natCast] at hi
        obtain ⟨f, hf⟩ : ∃ f, m.2[s]? = some f := ⟨_, List.getElem?_eq_getElem hi⟩
        obtain ⟨e, he⟩ : ∃ e, r.2[s]? = some e := ⟨_, List.getElem?_eq_getElem (by omega)⟩
        have eL4 := s3 _ _ eL
        have hs4 : s < 4 := by omega
        have st := partL_step (num := fun _ => ([] : List Int)) (at' := fun i => [(foldR (szG ks) (rows.take t)).getD i 0]) hf he
        refine ⟨rfl, .ref pf, rfl, .int (0 + (s : Nat)), rfl, pf, _, _, .str f, rfl, rfl, (hpf.mono (tk_same s3)).sq, by rw [Int.zero_add]; exact atI_nat (by rw [List.getElem?_map, hf]; rfl), rfl, _, rfl, ?_⟩
        rw [dec_str]
        by_cases hn : f = "number"
        · rw [decide_eq_true hn]
          rw [if_pos hn, List.append_nil] at st
          exact iteF ⟨s3, by unfold szL; rw [st]; exact eD, by unfold szL; rw [st]; exact Nat.le_succ_of_le lD⟩
        · rw [decide_eq_false hn]
          rw [if_neg hn] at st
          obtain ⟨n, rfl, hnt⟩ := R.ents s f e hf he hn
          obtain ⟨rn, hrn⟩ : ∃ rn, rows[n]? = some rn := ⟨_, List.getElem?_eq_getElem (by omega)⟩
          have g1 := foldR_get (g := szG ks) hrn hnt tl
          have st' : szL m.2 r.2 (foldR (szG ks) (rows.take t)) (s + 1) = szL m.2 r.2 (foldR (szG ks) (rows.take t)) s ++ [szG ks rn (foldR (szG ks) (rows.take n))] := by
            unfold szL
            rw [st, Int.toNat_natCast, List.getD_eq_getElem?_getD, g1]; rfl
          refine iteT ⟨.ref L, rfl, .ref pe, rfl, .int (0 + (s : Nat)), rfl, pe, _, _, .int (n : Nat), rfl, rfl, (hpe.mono (tk_same s3)).sq, by rw [Int.zero_add]; exact atI_nat (by rw [List.getElem?_map, he]; rfl), L, _, _, .int (szG ks rn (foldR (szG ks) (rows.take n))), rfl, rfl, .of eL4, atI_nat (by rw [List.getElem?_map, g1]; rfl), _, eD, small1000 (by rw [List.length_map]; omega), fun b o e => ?_, ?_, ?_⟩
          · rw [upd_ne (ne_of_none e hD)]; exact s3 _ _ e
          · rw [upd_same, st', List.map_append]; rfl
          · rw [st', List.length_append]; show _ + 1 ≤ _; omega
      · obtain ⟨s3, eD, lD⟩ := z
        rw [Int.toNat_natCast] at eD
        refine ⟨D, _, rfl, .of eD, _, _, rfl, rfl, L, _, _, rfl, rfl, s3 _ _ eL, small1000 (by rw [List.length_map]; omega), ?_⟩
        refine ⟨_, _, _, rfl, fun b o e => ?_, ?_⟩
        · rw [upd_ne (ne_of_none e hL)]; exact s3 _ _ (sm _ _ e)
        · rw [upd_same, foldR_step hr', List.map_append]
          unfold szG
          rw [R.fls]; rfl
    · rintro σ Ha ⟨y3, y4, y5, rfl, sm, eL⟩
      rw [lx, List.take_of_length_le (Nat.le_refl _)] at eL
      exact ⟨.ref L, rfl, L, _, rfl, .inl ⟨.of eL, fun l hl => q l _ (sm.trans (same_new hl)) (.inl upd_same)⟩⟩
end
end K63

set_option Elab.async false
set_option linter.all false
set_option maxRecDepth 100000
/-! repr of odd data of any kind -/
namespace Ly
open PySem PySem.Spec PyProof.Rows L2
def rReprV (K : PySem.W.Frag) : List V → Hp → VK → Prop := fun vs H Q => ∃ (S : Addr → Prop) (x : V) (d : PyData), vs = [x] ∧ Od K S H x d ∧ d.showable = true ∧ d.shown.length ≤ sizeLine ∧ d.depth ≤ 15 ∧ Q (.str d.shown) H
theorem kcr_reprV {X : Cx} (K : PySem.W.Frag) (calm : Calm X.A) (hu : X.A.units + 20 < cLine) (eK : X.K = K := by rfl) : CallR X (.builtin "repr") (rReprV K) := by
  intro pins s σ H vs us Q I r q
  obtain ⟨S, x, d, rfl, hd, sh, sz, dp, q⟩ := q
  cases hd with
  | tup e r' => exact kcr_reprO K calm hu eK pins s σ H _ us Q I r ⟨S, _, _, rfl, .tup e r', sh, sz, dp, q⟩
  | lst a b c e => exact kcr_reprO K calm hu eK pins s σ H _ us Q I r ⟨S, _, _, rfl, .lst a b c e, sh, sz, dp, q⟩
  | dic a b => exact kcr_reprO K calm hu eK pins s σ H _ us Q I r ⟨S, _, _, rfl, .dic a b, sh, sz, dp, q⟩
  | non =>
    obtain ⟨u, rfl, r1⟩ := vals1 r
    cases r1
    exact PySem.P.repr_of_none ⟨.str _, H, I.tok _, ⟨_, rfl⟩, q⟩
  | bl b =>
    obtain ⟨u, rfl, r1⟩ := vals1 r
    cases r1
    refine PySem.P.repr_of_bool ⟨.str _, H, I.tok _, ⟨_, rfl⟩, ?_⟩
    cases b <;> exact q
  | int i _ =>
    obtain ⟨u, rfl, t, rfl⟩ := vals1 r
    exact PySem.P.repr_of_int (of_decide_eq_true sh) ⟨.str _, H, I.tok _, ⟨_, rfl⟩, by rw [PyData.shown_int] at q; exact q⟩
  | str z _ =>
    obtain ⟨u, rfl, t, rfl⟩ := vals1 r
    exact PySem.P.repr_of_str ⟨.str _, H, I.tok _, ⟨_, rfl⟩, q⟩ sz
end Ly

set_option Elab.async false
set_option linter.all false
set_option maxRecDepth 100000
/-! lists of texts as data, for == -/
namespace Ly
open PySem PySem.Spec PyProof.Rows L2
section
variable {K : PySem.W.Frag} {H : Hp}
theorem dp_strs : ∀ ns : List Str, DpAll K H (ns.map V.str) (ns.map PyData.str)
  | [] => .nil
  | n :: ns => .cons (.str n) (dp_strs ns)
theorem lay_strs : ∀ ns : List Str, (∀ n ∈ ns, PyData.strOk n = true) → PyData.canLayAll0 (ns.map PyData.str) = true
  | [], _ => by simp [PyData.canLayAll0]
  | n :: ns, h => by simp [PyData.canLayAll0, PyData.canLay0, lay_strs ns fun x hx => h x (List.mem_cons_of_mem _ hx), h n (List.mem_cons_self ..)]
theorem deep_strs : ∀ ns : List Str, PyData.depthAll (ns.map PyData.str) ≤ 1
  | [] => by simp [PyData.depthAll]
  | n :: ns => by
    have := deep_strs ns
    simp only [List.map_cons, PyData.depthAll, PyData.depth]
    omega
theorem shaped_strs (ns : List Str) (ok : ∀ n ∈ ns, PyData.strOk n = true) : SeqAt.shaped (.list (ns.map PyData.str)) = true := by
  have h := deep_strs ns
  have h2 : PyData.depth (.list (ns.map PyData.str)) ≤ 64 := by
    simp only [PyData.depth]; omega
  show (PyData.canLay0 (.list (ns.map PyData.str)) && decide (PyData.depth (.list (ns.map PyData.str)) ≤ 64)) = true
  rw [Bool.and_eq_true]
  exact ⟨by simp only [PyData.canLay0]; exact lay_strs ns ok, decide_eq_true h2⟩
theorem eqv_strs_nil (ns : List Str) : PyData.eqv (.list (ns.map PyData.str)) (.list []) = ns.isEmpty := by
  cases ns <;> simp [PyData.eqv, PyData.eqvAll]
end
end Ly

set_option Elab.async false
set_option linter.all false
set_option maxRecDepth 100000
set_option exponentiation.threshold 20000
set_option pp.deepTerms false
set_option pp.deepTerms.threshold 8
namespace K63
open PySem PySem.Spec PyProof.Rows L2 Ly Mt
/-! ### doors, and what is right of a value -/
section
variable {P : Program} {w : World} {K : PySem.W.Frag} {mg : Str → Option Value} {base : Heap}
theorem kb_words_of_kinds_rows : ∀ f fd, Fun K "words_of" "words_of" s_words_of f fd → KBinds K fd ["kinds", "rows"] ["kinds", "rows"] (fun us ws => match us, ws with | [], [x, y] => [x, y] | _, _ => []) (fun us ws => match us, ws with | [], [x, y] => [x, y] | _, _ => []) := by
  intro f fd U
  obtain ⟨oc, od, kV, doc, pm, an, cdv, ct, osl, rfl, lk, hcd⟩ := U.ex
  refine ⟨fun s us ws X hl => ?_, fun {vs us zs ws} r rz => ?_⟩
  · match us, ws, hl with
    | [], [x, y], _ => exact .of_eq rfl
    | [], [], h => simp at h
    | [], [_], h => simp at h
    | [], _ :: _ :: _ :: _, h => simp at h
    | _ :: _, _, h => simp at h
  · cases r with
    | cons a b => exact .nil
    | nil =>
      cases rz with
      | nil => exact .nil
      | cons a0 b0 =>
        cases b0 with
        | nil => exact .nil
        | cons a1 b1 =>
          cases b1 with
          | nil => exact .cons a0 (.cons a1 .nil)
          | cons _ _ => exact .nil

theorem kb_sizes_kinds_rows : ∀ f fd, Fun K "sizes" "sizes" s_sizes f fd → KBinds K fd ["kinds", "rows"] ["kinds", "rows"] (fun us ws => match us, ws with | [], [x, y] => [x, y] | _, _ => []) (fun us ws => match us, ws with | [], [x, y] => [x, y] | _, _ => []) := by
  intro f fd U
  obtain ⟨oc, od, kV, doc, pm, an, cdv, ct, osl, rfl, lk, hcd⟩ := U.ex
  refine ⟨fun s us ws X hl => ?_, fun {vs us zs ws} r rz => ?_⟩
  · match us, ws, hl with
    | [], [x, y], _ => exact .of_eq rfl
    | [], [], h => simp at h
    | [], [_], h => simp at h
    | [], _ :: _ :: _ :: _, h => simp at h
    | _ :: _, _, h => simp at h
  · cases r with
    | cons a b => exact .nil
    | nil =>
      cases rz with
      | nil => exact .nil
      | cons a0 b0 =>
        cases b0 with
        | nil => exact .nil
        | cons a1 b1 =>
          cases b1 with
          | nil => exact .cons a0 (.cons a1 .nil)
          | cons _ _ => exact .nil

theorem kb_is_rows_kinds_thing : ∀ f fd, Fun K "is_rows" "is_rows" s_is_rows f fd → KBinds K fd ["kinds", "thing"] ["kinds", "thing"] (fun us ws => match us, ws with | [], [x, y] => [x, y] | _, _ => []) (fun us ws => match us, ws with | [], [x, y] => [x, y] | _, _ => []) := by
  intro f fd U
  obtain ⟨oc, od, kV, doc, pm, an, cdv, ct, osl, rfl, lk, hcd⟩ := U.ex
  refine ⟨fun s us ws X hl => ?_, fun {vs us zs ws} r rz => ?_⟩
  · match us, ws, hl with
    | [], [x, y], _ => exact .of_eq rfl
    | [], [], h => simp at h
    | [], [_], h => simp at h
    | [], _ :: _ :: _ :: _, h => simp at h
    | _ :: _, _, h => simp at h
  · cases r with
    | cons a b => exact .nil
    | nil =>
      cases rz with
      | nil => exact .nil
      | cons a0 b0 =>
        cases b0 with
        | nil => exact .nil
        | cons a1 b1 =>
          cases b1 with
          | nil => exact .cons a0 (.cons a1 .nil)
          | cons _ _ => exact .nil

theorem hu20w {A : Around} {k : Nat} (hr : Room k A) : A.units + 20 < cLine := by have := hr.units; omega
def doorR (b : Bool) : Str := if b = true then "let" else "rows"
theorem toRw_rw (r : Rw) : toRw (rwD r) = r := by
  show (r.1, (r.2.map PyData.int).map inO) = r
  rw [List.map_map, show (inO ∘ PyData.int) = id from rfl, List.map_id]
theorem rws_inj {xs ys : List Rw} (h : rwsD xs = rwsD ys) : xs = ys := by
  have e : xs.map rwD = ys.map rwD := by injection h
  have e2 := congrArg (List.map toRw) e
  rw [List.map_map, List.map_map, map_self (f := toRw ∘ rwD) fun x _ => toRw_rw x, map_self (f := toRw ∘ rwD) fun x _ => toRw_rw x] at e2
  exact e2
abbrev s__law_door : Stmt := topS 45
theorem sc__law_door : FnScope ["door", "family", "value", "found"] ["door", "family", "value"] (defScope s__law_door) := ⟨rfl, rfl, rfl, by decide +kernel, rfl, by decide +kernel, by decide +kernel⟩
def sl_door (K : PySem.W.Frag) : Sp := fun vs H Q _ => ∃ (S : Addr → Prop) (v u : V) (ks : List Kd) (e : PyData) (n : Nat), vs = [.int (n : Nat), v, u] ∧ n ≤ 1 ∧ Im K H v (ksD ks) ∧ KindsOk ks ∧ Od K S H u e ∧ ∀ H', Same H H' → Q (.str (doorR (jRows ks e))) H'
theorem ok__law_door {f : Addr} {fd : FuncData} {k : Nat} (F : Fun K "_law_door" "_law_door" s__law_door f fd) (T : Tx K mg){er : Er} (TE : Tr K mg er) {k1 : Nat} (D_sizes : DefX P w K mg base k1 "sizes" s_sizes ["kinds", "rows"] (sr_sizes K er)) {k2 : Nat} (D_words_of : DefX P w K mg base k2 "words_of" s_words_of ["kinds", "rows"] (sr_wordsof K er)) (e1 : k1 ≤ k) (e2 : k2 ≤ k) : FnOk P w K mg base CX0 (k + 1) f fd ["door", "family", "value"] (sl_door K) := by
  have nd := sc__law_door.nd
  refine F.ok sc__law_door (fun vs H Q E h => ?_) (fun cdv A outer s H vs Q E hr h => ?_)
  · obtain ⟨_, _, _, _, _, _, rfl, _⟩ := h
    rfl
  · obtain ⟨S, v, u, ks, e, n, rfl, n1, iv, ok, od, q⟩ := h
    refine ⟨_, (pss_cons (ps_set (i := 3) nd rfl (.inl rfl) pe_str)
      (pss_cons (ps_try_list rfl rfl takes0 (fun W pn xe tk _ => (pss_one (ps_if (pt_cmpR op_eq (pv 0) pe_int (nomark _))
          (pss_one (ps_expr (pe_defX D_sizes tk (hr.mono (by omega)) rfl (pa_cons (pv 1) (pa_cons (pv 2) pa_nil)))))
          (pss_one (ps_expr (pe_defKX D_words_of tk (hr.mono (by omega)) rfl kb_words_of_kinds_rows (pk_cons (pv 1) (pk_cons (pv 2) pk_nil))))))))
        (.cons ⟨rfl, by decide, .inl TE.g_BadRows⟩ (fun a oe cls d pn hz hf => (pss_one (ps_set (i := 3) nd rfl (.inl rfl) pe_str)))
        (.cons ⟨rfl, by decide, .inl TE.g_TreeError⟩ (fun a oe cls d pn hz hf => (pss_one (ps_set (i := 3) nd rfl (.inl rfl) pe_str)))
        .nil)))
      (pss_one (ps_ret (pv 3))))), ?_⟩
    have qt : jRows ks e = true → ∀ H', Same H H' → Q (.str "let") H' := fun j H' s => by
      have := q H' s
      rw [j] at this
      exact this
    have qf : jRows ks e = false → ∀ H', Same H H' → Q (.str "rows") H' := fun j H' s => by
      have := q H' s
      rw [j] at this
      exact this
    match n, n1 with
    | 0, _ =>
      refine ⟨.int 0, rfl, rfl, _, rfl, ?_⟩
      rw [decide_eq_true rfl]
      exact iteT ⟨v, rfl, u, rfl, S, v, u, ks, e, rfl, iv, ok, od, fun rows er ro hj p H1 s1 hp => ⟨_, rfl, qt hj _ s1⟩, fun hj H1 s1 => ⟨true, TE.e_rr, fun _ a ha => ⟨_, rfl, qf hj _ s1⟩, (fun z => nomatch z)⟩⟩
    | 1, _ =>
      refine ⟨.int 1, rfl, rfl, _, rfl, ?_⟩
      rw [decide_eq_false (fun z => by cases z)]
      exact iteF ⟨v, rfl, u, rfl, S, v, u, ks, e, rfl, iv, ok, od, fun rows er ro hj => ⟨fun h4 H1 s1 => ⟨_, rfl, qt hj _ s1⟩, fun h4 p us H1 s1 hp hu => ⟨_, rfl, qt hj _ s1⟩⟩, fun hj H1 s1 => ⟨true, TE.e_rr, fun _ a ha => ⟨_, rfl, qf hj _ s1⟩, (fun z => nomatch z)⟩⟩
abbrev s__law_value_right : Stmt := topS 46
theorem sc__law_value_right : FnScope ["family", "value", "copied", "table", "due", "told", "due_sizes", "found", "door"] ["family", "value"] (defScope s__law_value_right) := ⟨rfl, rfl, rfl, by decide +kernel, rfl, by decide +kernel, by decide +kernel⟩
def sl_right (K : PySem.W.Frag) : Sp := fun vs H Q _ => ∃ (S : Addr → Prop) (v u : V) (ks : List Kd) (d : PyData), vs = [v, u] ∧ Im K H v (ksD ks) ∧ KindsOk ks ∧ Od K S H u d ∧ (PyData.tuple [ksD ks, d]).showable = true ∧ (PyData.tuple [ksD ks, d]).shown.length ≤ sizeLine ∧ (PyData.tuple [ksD ks, d]).depth ≤ 15 ∧ ∀ H', Same H H' → Q (.bl true) H'
set_option maxHeartbeats 1000000 in
theorem ok__law_value_right {f : Addr} {fd : FuncData} {k : Nat} (F : Fun K "_law_value_right" "_law_value_right" s__law_value_right f fd) (T : Tx K mg){er : Er} {k1 : Nat} (D__law_table : Def P w K mg base k1 "_law_table" s__law_table ["family"] (sl_table K)) {k2 : Nat} (D__law_is_lines : Def P w K mg base k2 "_law_is_lines" s__law_is_lines ["table", "value"] (sl_is_lines K)) {k3 : Nat} (D_is_rows : Def P w K mg base k3 "is_rows" s_is_rows ["kinds", "thing"] (sr_rows K)) {k4 : Nat} (D__law_sizes : Def P w K mg base k4 "_law_sizes" s__law_sizes ["table", "lines"] (sl_sizes K)) {k5 : Nat} (D__law_door : Def P w K mg base k5 "_law_door" s__law_door ["door", "family", "value"] (sl_door K)) {k6 : Nat} (D__law_same : Def P w K mg base k6 "_law_same" s__law_same ["found", "due"] (sp_lsame K 2)) {k7 : Nat} (D_sizes : DefX P w K mg base k7 "sizes" s_sizes ["kinds", "rows"] (sr_sizes K er)) (e1 : k1 ≤ k) (e2 : k2 ≤ k) (e3 : k3 ≤ k) (e4 : k4 ≤ k) (e5 : k5 ≤ k) (e6 : k6 ≤ k) (e7 : k7 ≤ k) : Kept P w K mg base (k + 1) f fd ["family", "value"] (sl_right K) := by
  have nd := sc__law_value_right.nd
  refine kept_of F sc__law_value_right (fun vs H Q E h => ?_) (fun cdv A outer s H vs Q E hr calm h => ?_)
  · obtain ⟨_, _, _, _, _, rfl, _⟩ := h
    rfl
  · obtain ⟨S, v, u, ks, d, rfl, iv, ok, od, sh, sz, dp, q⟩ := h
    have pairOd : ∀ {H' : Hp} {T : Addr}, Same H H' → H' T = none → Od K S (upd H' T (.tup [v, u])) (.ref T) (.tuple [ksD ks, d]) := fun {H' T} s hT => .tup (.inl upd_same) (.cons (Im.od _ (shKs ok) (Im.mono (tk_same (s.trans (same_new hT))) _ iv)) (.cons (od.mono (fo_same (s.trans (same_new hT)))) .nil))
    refine ⟨_, (pss_cons (ps_set (i := 2) nd rfl (.inl rfl) (pe_callB (kcr_reprV K calm (hu20w hr)) (by rfl) T.m_repr (by decide +kernel) (pa_cons (pe_tup (pa_cons (pv 0) (pa_cons (pv 1) pa_nil))) pa_nil)))
      (pss_cons (ps_set (i := 3) nd rfl (.inl rfl) (pe_def D__law_table (hr.mono (by omega)) rfl (pa_cons (pv 0) pa_nil)))
      (pss_cons (ps_set (i := 4) nd rfl (.inr rfl) (pe_def D__law_is_lines (hr.mono (by omega)) rfl (pa_cons (pv 3) (pa_cons (pv 1) pa_nil))))
      (pss_cons (ps_set (i := 5) nd rfl (.inl rfl) (pe_lst (pa_cons (pe_def D_is_rows (hr.mono (by omega)) rfl (pa_cons (pv 0) (pa_cons (pv 1) pa_nil))) (pa_cons (pe_defK D_is_rows (hr.mono (by omega)) rfl kb_is_rows_kinds_thing (pk_cons (pv 0) (pk_cons (pv 1) pk_nil))) pa_nil))))
      (pss_cons (ps_if (pt_not (pt_val (pe_callB (kcr_all K) (by rfl) T.m_all (by decide +kernel) (pa_cons (pe_lc (own := [("found", 7)]) (g := gName 7) (tt := tYes) rfl nd (kpi_list K (pv 5)) (blkOk_by (by rfl)) (fun _ _ _ _ _ => (pg_name (i := 7) nd rfl (.inl rfl))) (fun _ _ _ _ _ => pts_nil) (fun _ _ _ _ _ => (pe_def D__law_same (hr.mono (by omega)) rfl (pa_cons (pv 7) (pa_cons (pv 4) pa_nil))))) pa_nil))))
        (pss_one (ps_ret pe_bl))
        pss_nil)
      (pss_cons (ps_if (pt_cmpR (kop_neD K hr.units) (pe_lc (own := [("door", 8)]) (g := gName 8) (tt := tYes) rfl nd (pi_range1 rfl T.m_range (pa_cons pe_int pa_nil)) (blkOk_by (by rfl)) (fun _ _ _ _ _ => (pg_name (i := 8) nd rfl (.inl rfl))) (fun _ _ _ _ _ => pts_nil) (fun _ _ _ _ _ => (pe_def D__law_door (hr.mono (by omega)) rfl (pa_cons (pv 8) (pa_cons (pv 0) (pa_cons (pv 1) pa_nil)))))) (pe_ix (kix_list K) (pe_lst (pa_cons (pe_lst (pa_cons pe_str (pa_cons pe_str pa_nil))) (pa_cons (pe_lst (pa_cons pe_str (pa_cons pe_str pa_nil))) pa_nil))) (pe_callTy call_int1 (by rfl) T.m_int (by decide +kernel) (pa_cons (pe_not (pv 4)) pa_nil)) (fun _ _ => rfl)) (nomark _))
        (pss_one (ps_ret pe_bl))
        pss_nil)
      (C8.pss_cut (ps_if (pt_val (pv 4))
        (pss_cons (ps_set (i := 6) nd rfl (.inl rfl) (pe_def D__law_sizes (hr.mono (by omega)) rfl (pa_cons (pv 3) (pa_cons (pv 1) pa_nil))))
        (pss_one (ps_if (PW.pt (pw_or (pt_not (pt_val (pe_def D__law_same (hr.mono (by omega)) rfl (pa_cons (pe_defX D_sizes takes0 (hr.mono (by omega)) rfl (pa_cons (pv 0) (pa_cons (pv 1) pa_nil))) (pa_cons (pv 6) pa_nil))))) (pw_or1 (pt_not (pt_val (pe_def D__law_same (hr.mono (by omega)) rfl (pa_cons (pe_defKX D_sizes takes0 (hr.mono (by omega)) rfl kb_sizes_kinds_rows (pk_cons (pv 0) (pk_cons (pv 1) pk_nil))) (pa_cons (pv 6) pa_nil))))))))
          (pss_one (ps_ret pe_bl))
          pss_nil)))
        pss_nil)
      (pss_one (ps_ret (pe_cmpR op_eq (pe_callB (kcr_reprV K calm (hu20w hr)) (by rfl) T.m_repr (by decide +kernel) (pa_cons (pe_tup (pa_cons (pv 0) (pa_cons (pv 1) pa_nil))) pa_nil)) (pv 2) (nomark _))))))))))), ?_⟩
    refine ⟨v, rfl, u, rfl, by show 2 ≤ sizeLine; decide, fun T hT => ⟨S, .ref T, .tuple [ksD ks, d], rfl, pairOd (Same.refl H) hT, sh, sz, dp, ?_⟩⟩
    have s0 := same_new (o := .tup [v, u]) hT
    generalize upd H T (.tup [v, u]) = H0 at *
    generalize hsh : (PyData.tuple [ksD ks, d]).shown = shn at *
    refine ⟨v, rfl, v, ks, rfl, Im.mono (tk_same s0) _ iv, ok, fun t H1 s1 _ tb => ?_⟩
    have s01 := s0.trans s1
    refine ⟨.ref t, rfl, u, rfl, S, t, u, ks, d, rfl, ok, tb, od.mono (fo_same s01), fun H2 s2 => ?_⟩
    have s02 := s01.trans s2
    have tb2 := tb.same s2
    refine ⟨v, rfl, u, rfl, S, v, u, ks, d, rfl, Im.mono (tk_same s02) _ iv, ok, od.mono (fo_same s02), fun H3 s3 => ?_⟩
    have s03 := s02.trans s3
    refine ⟨v, rfl, u, rfl, S, v, u, ks, d, rfl, Im.mono (tk_same s03) _ iv, ok, od.mono (fo_same s03), fun H4 s4 => ⟨by show 2 ≤ sizeLine; decide, fun L hL => ?_⟩⟩
    have s04 := s03.trans s4
    have sL := same_new (o := .lst [.bl (jRows ks d), .bl (jRows ks d)]) hL
    have eL : (upd H4 L (.lst [.bl (jRows ks d), .bl (jRows ks d)])) L = some (.lst (List.replicate 2 (.bl (jRows ks d)))) := upd_same
    have s05 := s04.trans sL
    have tb5 := tb2.same ((s3.trans s4).trans sL)
    generalize upd H4 L (.lst [.bl (jRows ks d), .bl (jRows ks d)]) = H5 at *
    refine ⟨.ref L, rfl, L, rfl, ⟨_, .of eL⟩, fun D hD => ?_⟩
    refine lc_all (walk_list (xs := List.replicate 2 (.bl (jRows ks d)))) (fun i Hx => Same H5 Hx ∧ Hx D = some (.lst ((List.replicate i true).map V.bl))) ⟨same_new hD, upd_same⟩ (fun i Hx _ z => .of (z.1 _ _ eL)) (fun i x Hx Hy hi z y => ?_) (fun Hx z => ?_)
    · obtain ⟨s6, eD⟩ := z
      obtain ⟨rfl, hxi⟩ := y
      have ex : x = .bl (jRows ks d) := (List.mem_replicate.mp (List.mem_of_getElem? hxi)).2
      subst ex
      have hi3 : i < 2 := hi
      refine ⟨rfl, .bl (jRows ks d), rfl, .bl (jRows ks d), rfl, 0, .bl (jRows ks d), .bl (jRows ks d), rfl, by decide, .inl ⟨_, rfl, rfl⟩, fun H8 s8 => ⟨_, s8 _ _ eD, small1000 (by rw [List.length_map, List.length_replicate]; omega), fun b o e => ?_, ?_⟩⟩
      · rw [upd_ne (ne_of_none e hD)]; exact s8 _ _ (s6 _ _ e)
      · rw [upd_same, List.replicate_succ', List.map_append]; rfl
    obtain ⟨s6, eD⟩ := z
    refine ⟨D, _, rfl, .of eD, _, rfl, ?_⟩
    refine iteF ?_
    have s06 := s05.trans s6
    have tb6 := tb5.same s6
    -- the doors
    refine ⟨2, rfl, by decide, by decide, fun D2 hD2 => ?_⟩
    refine lc_all (walk_range (lo := 0) (n := (2 : Int).toNat)) (fun i H6 => Same Hx H6 ∧ H6 D2 = some (.lst ((List.replicate i (doorR (jRows ks d))).map V.str))) ⟨same_new hD2, upd_same⟩ (fun _ _ _ _ => trivial) (fun i x H6 H7 hi z y => ?_) (fun H6 z => ?_)
    · obtain ⟨s7, e2⟩ := z
      obtain ⟨rfl, rfl⟩ := y
      have hi6 : i < 2 := hi
      have s07 := s06.trans s7
      refine ⟨rfl, .int (0 + (i : Nat)), rfl, v, rfl, u, rfl, S, v, u, ks, d, i, by rw [Int.zero_add]; rfl, by omega, Im.mono (tk_same s07) _ iv, ok, od.mono (fo_same s07), fun H8 s8 => ⟨_, s8 _ _ e2, small1000 (by rw [List.length_map, List.length_replicate]; omega), fun b o e => ?_, ?_⟩⟩
      · rw [upd_ne (ne_of_none e hD2)]; exact s8 _ _ (s7 _ _ e)
      · rw [upd_same, List.replicate_succ', List.map_append]; rfl
    obtain ⟨s7, e2⟩ := z
    have s07 := s06.trans s7
    have tb7 := tb6.same s7
    refine ⟨by show 2 ≤ sizeLine; decide, fun L1 hL1 => ⟨by show 2 ≤ sizeLine; decide, fun L2 hL2 => ⟨by show 2 ≤ sizeLine; decide, fun L3 hL3 => ?_⟩⟩⟩
    have sa := same_new (o := .lst [.str "let", .str "let"]) hL1
    have ea : (upd H6 L1 (.lst [.str "let", .str "let"])) L1 = some (.lst ((List.replicate 2 (doorR true)).map V.str)) := upd_same
    generalize upd H6 L1 (.lst [.str "let", .str "let"]) = Ha at *
    have sb := same_new (o := .lst [.str "rows", .str "rows"]) hL2
    have eb : (upd Ha L2 (.lst [.str "rows", .str "rows"])) L2 = some (.lst ((List.replicate 2 (doorR false)).map V.str)) := upd_same
    have ea := sb _ _ ea
    generalize upd Ha L2 (.lst [.str "rows", .str "rows"]) = Hb at *
    have sc := same_new (o := .lst [.ref L1, .ref L2]) hL3
    have ec : (upd Hb L3 (.lst [.ref L1, .ref L2])) L3 = some (.lst [.ref L1, .ref L2]) := upd_same
    have ea := sc _ _ ea
    have eb := sc _ _ eb
    have s8 := (sa.trans sb).trans sc
    have e28 := s8 _ _ e2
    have s08 := s07.trans s8
    have tb8 := tb7.same s8
    generalize upd Hb L3 (.lst [.ref L1, .ref L2]) = Hc at *
    obtain ⟨Ld, j, eLd, ej, ed⟩ : ∃ (Ld : Addr) (j : Nat), ([.ref L1, .ref L2] : List V)[j]? = some (.ref Ld) ∧ (if (!(jRows ks d)) = true then (1 : Int) else 0) = (j : Nat) ∧ Hc Ld = some (.lst ((List.replicate 2 (doorR (jRows ks d))).map V.str)) := by
      cases jRows ks d with
      | true => exact ⟨L1, 0, rfl, rfl, ea⟩
      | false => exact ⟨L2, 1, rfl, rfl, eb⟩
    refine ⟨.bl (jRows ks d), rfl, jRows ks d, rfl, .inr ⟨_, rfl, L3, _, _, .ref Ld, rfl, rfl, .of ec, ?_, ?_⟩⟩
    · rw [ej]; exact atI_nat eLd
    have ok2 : ∀ z ∈ List.replicate 2 (doorR (jRows ks d)), PyData.strOk z = true := by
      cases jRows ks d <;> decide +kernel
    refine ⟨_, _, .lst (.of e28) (dp_strs _), .lst (.of ed) (dp_strs _), shaped_strs _ ok2, shaped_strs _ ok2, _, rfl, ?_⟩
    rw [show (PyData.list ((List.replicate (2 : Int).toNat (doorR (jRows ks d))).map PyData.str)).eqv (.list ((List.replicate 2 (doorR (jRows ks d))).map PyData.str)) = true by cases jRows ks d <;> decide +kernel]
    refine iteF ?_
    refine ⟨fun σ' H' => ∃ (y6 : Option V), σ' = [some v, some u, some (.str shn), some (.ref t), some (.bl (jRows ks d)), some (.ref L), y6, none, none] ∧ Same Hc H', ?_, ?_⟩
    · refine ⟨.bl (jRows ks d), rfl, jRows ks d, rfl, ?_⟩
      cases hj : jRows ks d with
      | false => exact iteF ⟨_, rfl, Same.refl _⟩
      | true =>
        obtain ⟨rows, rfl, ro⟩ := rows_j hj
        have few := ro.few
        have lsz := foldR_len (g := szG ks) rows.length (rows := rows) (Nat.le_refl _)
        rw [List.take_of_length_le (Nat.le_refl _)] at lsz
        have iu : Im K Hc u (rwsD rows) := Od.im _ (noL_rw rows) (od.mono (fo_same s08))
        refine iteT ⟨.ref t, rfl, u, rfl, t, u, ks, rows, rfl, ok, tb8, iu, ro, fun p H7 s7 hp => ?_⟩
        have s09 := s08.trans s7
        refine ⟨v, rfl, u, rfl, S, v, u, ks, rwsD rows, rfl, Im.mono (tk_same s09) _ iv, ok, od.mono (fo_same s09), fun rows' er' ro' hj' p2 H8 s8 hp2 => ?_, fun h => by rw [hj] at h; cases h⟩
        obtain rfl := rws_inj er'
        refine ⟨.ref p, rfl, 1, .ref p2, .ref p, rfl, by decide, .inr (.inr ⟨by decide, p2, p, _, rfl, rfl, hp2, hp.mono (tk_same s8), by omega⟩), fun H9 s9 => ⟨true, rfl, iteF ?_⟩⟩
        have s010 := (s09.trans s8).trans s9
        refine ⟨v, rfl, u, rfl, S, v, u, ks, rwsD rows, rfl, Im.mono (tk_same s010) _ iv, ok, od.mono (fo_same s010), fun rows' er' ro' hj' p2 H10 s10 hp2 => ?_, fun h => by rw [hj] at h; cases h⟩
        obtain rfl := rws_inj er'
        refine ⟨.ref p, rfl, 1, .ref p2, .ref p, rfl, by decide, .inr (.inr ⟨by decide, p2, p, _, rfl, rfl, hp2, hp.mono (tk_same ((s8.trans s9).trans s10)), by omega⟩), fun H11 s11 => ⟨true, rfl, iteF ?_⟩⟩
        exact ⟨_, rfl, (((s7.trans s8).trans s9).trans s10).trans s11⟩
    · rintro σ' H7 ⟨y6, rfl, s7⟩
      have s09 := s08.trans s7
      refine ⟨v, rfl, u, rfl, by show 2 ≤ sizeLine; decide, fun T hT => ⟨S, .ref T, .tuple [ksD ks, d], rfl, ?_, sh, by rw [hsh]; exact sz, dp, .str shn, rfl, rfl, ?_⟩⟩
      · have sT := s09.trans (same_new (o := .tup [v, u]) hT)
        exact .tup (.inl upd_same) (.cons (Im.od _ (shKs ok) (Im.mono (tk_same sT) _ iv)) (.cons (od.mono (fo_same sT)) .nil))
      · rw [hsh, decide_eq_true rfl]
        exact q _ (s09.trans (same_new hT))
end
end K63

set_option Elab.async false
set_option linter.all false
set_option maxRecDepth 100000
set_option exponentiation.threshold 20000
set_option pp.deepTerms false
set_option pp.deepTerms.threshold 8
namespace K63
open PySem PySem.Spec PyProof.Rows L2 Ly Mt
/-! ### things made of a thing -/
structure BentW (L B : Nat) (d e : PyData) : Prop where
  bn : Bn (2 * L + 60) (B + 110) (d.depth + 2) (3 * d.bulk + 2 * L + 100) e
theorem small_bentW {L B : Nat} {d e : PyData} (h : Bn 12 110 2 25 e) : BentW L B d e := ⟨h.mono (by omega) (by omega) (by omega) (by omega)⟩
def rLenU (K : PySem.W.Frag) : List V → Hp → VK → Prop := fun xs H Q => rLenK K xs H Q ∨ ∃ z, xs = [.str z] ∧ z.length ≤ sizeLine ∧ Q (.int (z.length : Nat)) H
theorem kcall_lenU {X : Cx} (K : PySem.W.Frag) (e : X.K = K := by rfl) : CallR X (.builtin "len") (rLenU K) := by
  intro pins s σ H xs us Q I r h
  rcases h with h | ⟨z, rfl, hz, q⟩
  · exact kcall_len K e pins s σ H xs us Q I r h
  · exact call_len_str pins s σ H _ us Q I r ⟨z, rfl, hz, q⟩
theorem rep2 {α : Type} (xs : List α) : (List.replicate (2 : Int).toNat xs).flatten = xs ++ xs := by
  show (List.replicate 2 xs).flatten = _
  simp [List.replicate]
theorem rep3 {α : Type} (xs : List α) : (List.replicate (3 : Int).toNat xs).flatten = xs ++ (xs ++ xs) := by
  show (List.replicate 3 xs).flatten = _
  simp [List.replicate]
structure OkW (ds : List PyData) (p : PyData → Prop) : Prop where
  few : ds.length ≤ 100000
  t : ∀ es, (∀ e ∈ es, e ∈ ds) → PyData.bulkAll es ≤ 3 * PyData.bulkAll ds → p (.tuple es)
  l : p (.list ds)
section
variable {K : PySem.W.Frag} {S : Addr → Prop} {H0 : Hp} {σ : L2.St} {p : PyData → Prop} {a : Addr} {xs : List V} {ds : List PyData}
theorem gw_cut (ha : ITup K H0 a xs) (hx : OdAll K S H0 xs ds) (lo hi : Option Int) {H : Hp} {Q : VK} (s : Same H0 H) (q : ∀ b es H', Same H H' → ITup K H' b (cutV xs lo hi) → OdAll K S H' (cutV xs lo hi) es → (∀ e ∈ es, e ∈ ds) → PyData.bulkAll es ≤ PyData.bulkAll ds → (cutV xs lo hi).length ≤ ds.length → Q (.ref b) H') : rSlTT K (.ref a) lo hi H Q := by
  refine .inr (sl_any' (ha.mono (tk_same s)) fun b H1 s1 hb => ?_)
  obtain ⟨es, o1, m1, b1⟩ := cut_od (hx.mono (fo_same (s.trans s1))) lo hi
  have h4 := cutV_length xs lo hi
  have h2 := hx.len
  exact q b es H1 s1 hb o1 m1 b1 (by omega)
theorem gw_app {b c : Addr} {ys zs : List V} {es fs : List PyData} {H : Hp} {Q : VK} (tb : ITup K H b ys) (tc : ITup K H c zs) (ob : OdAll K S H ys es) (oc : OdAll K S H zs fs) (hl : ys.length + zs.length ≤ 400000) (q : ∀ d H', Same H H' → ITup K H' d (ys ++ zs) → OdAll K S H' (ys ++ zs) (es ++ fs) → Q (.ref d) H') : rCatA K (.ref b) (.ref c) H Q :=
  cat_bigO tb tc (Nat.le_trans hl (by decide)) fun d H1 s1 hd => q d H1 s1 hd ((ob.app oc).mono (fo_same s1))
variable {i : Nat} (hv : σ[1]? = some (some (.ref a))) (hi : σ[2]? = some (some (.int (i : Nat)))) (ha : ITup K H0 a xs) (hx : OdAll K S H0 xs ds) (ok : OkW ds p)
include hv hi ha hx ok
theorem gw_1 : Gd K S H0 σ p (tOp (rCatA K) (tSl (rSlTT K) (tVar 1) tNoPart (tPart (tVar 2))) (tSl (rSlTT K) (tVar 1) (tPart (tOp (rI0 fun i j => .int (i + j)) (tVar 2) (tC (.int 1)))) tNoPart)) := fun H Q s q =>
  ⟨.ref a, hv, .int (i : Nat), hi, (i : Nat), rfl, gw_cut ha hx none (some (i : Nat)) s fun b1 es1 H1 s1 t1 o1 m1 k1 l1 => ⟨.ref a, hv, .int (i : Nat), hi, _, _, rfl, rfl, (i : Int) + 1, rfl, gw_cut ha hx (some ((i : Int) + 1)) none (s.trans s1) fun b2 es2 H2 s2 t2 o2 m2 k2 l2 => by
    have few := ok.few
    exact gw_app (t1.mono (tk_same s2)) t2 (o1.mono (fo_same s2)) o2 (by omega) fun d H3 s3 t3 o3 => q _ (.tuple (es1 ++ es2)) H3 ((s1.trans s2).trans s3) (.tup t3 o3) (ok.t _ (fun e he => (List.mem_append.mp he).elim (m1 e) (m2 e)) (by rw [bulkAll_app]; omega))⟩⟩
theorem gw_2 : Gd K S H0 σ p (tOp (rCatA K) (tOp (rCatA K) (tSl (rSlTT K) (tVar 1) tNoPart (tPart (tVar 2))) (tSl (rSlTT K) (tVar 1) (tPart (tVar 2)) (tPart (tOp (rI0 fun i j => .int (i + j)) (tVar 2) (tC (.int 1)))))) (tSl (rSlTT K) (tVar 1) (tPart (tVar 2)) tNoPart)) := fun H Q s q =>
  ⟨.ref a, hv, .int (i : Nat), hi, (i : Nat), rfl, gw_cut ha hx none (some (i : Nat)) s fun b1 es1 H1 s1 t1 o1 m1 k1 l1 => ⟨.ref a, hv, .int (i : Nat), hi, (i : Nat), rfl, .int (i : Nat), hi, _, _, rfl, rfl, (i : Int) + 1, rfl, gw_cut ha hx (some (i : Nat)) (some ((i : Int) + 1)) (s.trans s1) fun b2 es2 H2 s2 t2 o2 m2 k2 l2 => by
    have few := ok.few
    exact gw_app (t1.mono (tk_same s2)) t2 (o1.mono (fo_same s2)) o2 (by omega) fun d H3 s3 t3 o3 => ⟨.ref a, hv, .int (i : Nat), hi, (i : Nat), rfl, gw_cut ha hx (some (i : Nat)) none (((s.trans s1).trans s2).trans s3) fun b4 es4 H4 s4 t4 o4 m4 k4 l4 => gw_app (t3.mono (tk_same s4)) t4 (o3.mono (fo_same s4)) o4 (by rw [List.length_append]; omega) fun d H5 s5 t5 o5 => q _ (.tuple (es1 ++ es2 ++ es4)) H5 ((((s1.trans s2).trans s3).trans s4).trans s5) (.tup t5 o5) (ok.t _ (fun e he => (List.mem_append.mp he).elim (fun he => (List.mem_append.mp he).elim (m1 e) (m2 e)) (m4 e)) (by rw [bulkAll_app, bulkAll_app]; omega))⟩⟩⟩
theorem gw_3 : Gd K S H0 σ p (tOp (rCatA K) (tSl (rSlTT K) (tVar 1) (tPart (tVar 2)) tNoPart) (tSl (rSlTT K) (tVar 1) tNoPart (tPart (tVar 2)))) := fun H Q s q =>
  ⟨.ref a, hv, .int (i : Nat), hi, (i : Nat), rfl, gw_cut ha hx (some (i : Nat)) none s fun b1 es1 H1 s1 t1 o1 m1 k1 l1 => ⟨.ref a, hv, .int (i : Nat), hi, (i : Nat), rfl, gw_cut ha hx none (some (i : Nat)) (s.trans s1) fun b2 es2 H2 s2 t2 o2 m2 k2 l2 => by
    have few := ok.few
    exact gw_app (t1.mono (tk_same s2)) t2 (o1.mono (fo_same s2)) o2 (by omega) fun d H3 s3 t3 o3 => q _ (.tuple (es1 ++ es2)) H3 ((s1.trans s2).trans s3) (.tup t3 o3) (ok.t _ (fun e he => (List.mem_append.mp he).elim (m1 e) (m2 e)) (by rw [bulkAll_app]; omega))⟩⟩
omit hi in
theorem gw_list (hS : ∀ a, H0 a = none → S a) : Gd K S H0 σ p (tCB (rListB K) (tCons (tVar 1) tNil)) := fun H Q s q =>
  ⟨.ref a, hv, a, xs, rfl, (ha.mono (tk_same s)).sq, fun l hl hb => q _ _ _ (same_new hl) (.lst (hS l (s.free hl)) hb upd_same (hx.mono (fo_same (s.trans (same_new hl))))) ok.l⟩
omit hi in
theorem gw_dbl : Gd K S H0 σ p (tOp (rRep3 K) (tVar 1) (tC (.int 2))) := fun H Q s q => by
  have few := ok.few
  have h2 := hx.len
  refine ⟨.ref a, hv, a, 2, xs, rfl, rfl, (ha.mono (tk_same s)).sq, by decide, by decide, by omega, fun e => ?_, fun l hl => ?_⟩
  · have e2 : ds = [] := List.eq_nil_of_length_eq_zero (by rw [← h2, e]; rfl)
    exact q _ (.tuple ds) H (Same.refl H) (.tup (ha.mono (tk_same s)) (hx.mono (fo_same s))) (ok.t _ (fun e he => he) (by omega))
  · rw [rep2]
    have hx' := hx.mono (fo_same (S := S) (s.trans (same_new (o := .tup (xs ++ xs)) hl)))
    exact q _ (.tuple (ds ++ ds)) _ (same_new hl) (.tup (.inl upd_same) (hx'.app hx')) (ok.t _ (fun e he => (List.mem_append.mp he).elim id id) (by rw [bulkAll_app]; omega))
omit hi in
theorem gw_tri : Gd K S H0 σ p (tOp (rRep3 K) (tVar 1) (tC (.int 3))) := fun H Q s q => by
  have few := ok.few
  have h2 := hx.len
  refine ⟨.ref a, hv, a, 3, xs, rfl, rfl, (ha.mono (tk_same s)).sq, by decide, by decide, by omega, fun e => ?_, fun l hl => ?_⟩
  · exact q _ (.tuple ds) H (Same.refl H) (.tup (ha.mono (tk_same s)) (hx.mono (fo_same s))) (ok.t _ (fun e he => he) (by omega))
  · rw [rep3]
    have hx' := hx.mono (fo_same (S := S) (s.trans (same_new (o := .tup (xs ++ (xs ++ xs))) hl)))
    exact q _ (.tuple (ds ++ (ds ++ ds))) _ (same_new hl) (.tup (.inl upd_same) (hx'.app (hx'.app hx'))) (ok.t _ (fun e he => (List.mem_append.mp he).elim id fun he => (List.mem_append.mp he).elim id id) (by rw [bulkAll_app, bulkAll_app]; omega))
end
/-! ### texts -/
theorem appS_len (x y : Str) : (x ++ y).length = x.length + y.length := by
  show (x.cps ++ y.cps).size = _
  rw [Array.size_append]; rfl
theorem appS_mem {x y : Str} {c : Nat} : c ∈ (x ++ y).cps.toList ↔ c ∈ x.cps.toList ∨ c ∈ y.cps.toList := by
  show c ∈ (x.cps ++ y.cps).toList ↔ _
  rw [Array.toList_append, List.mem_append]
theorem cutS_in {z : Str} {lo hi : Option Int} : ∀ c ∈ (cutS z lo hi).cps.toList, c ∈ z.cps.toList := fun c hc => List.mem_of_mem_drop (List.mem_of_mem_take (by simpa [cutS] using hc))
section
variable {K : PySem.W.Frag} {S : Addr → Prop} {H0 : Hp} {σ : L2.St} {p : PyData → Prop} {z : Str} {i : Nat} {ch : Nat}
variable (hv : σ[1]? = some (some (.str z))) (hi : σ[2]? = some (some (.int (i : Nat)))) (hs : σ[5]? = some (some (.str ⟨#[ch]⟩))) (l : z.length ≤ 5000) (pl : ∀ c ∈ z.cps.toList, c < 128) (pc : ch < 128) (ok : ∀ y : Str, y.length ≤ 2 * z.length + 2 → (∀ c ∈ y.cps.toList, c < 128) → p (.str y))
include l ok
theorem gx_mk {y : Str} {H : Hp} {Q : VK} (hl : y.length ≤ 2 * z.length + 2) (hp : ∀ c ∈ y.cps.toList, c < 128) (q : ∀ x d H', Same H H' → Od K S H' x d → p d → Q x H') : Q (.str y) H := q _ _ H (Same.refl H) (.str y (by omega)) (ok y hl hp)
include hv pl
theorem gx_cut (lo hi : Option Int) {H : Hp} {Q : VK} (q : ∀ y : Str, y.length ≤ z.length → (∀ c ∈ y.cps.toList, c < 128) → Q (.str y) H) : rSlTT K (.str z) lo hi H Q :=
  .inl ⟨z, rfl, Nat.le_trans l (by decide), q _ (cutS_length z lo hi) fun c hc => pl c (cutS_in c hc)⟩
theorem gx_sl1 : Gd K S H0 σ p (tSl (rSlTT K) (tVar 1) (tPart (tC (.int 1))) tNoPart) := fun H Q s q =>
  ⟨.str z, hv, 1, rfl, gx_cut hv l pl ok _ _ fun y hy py => gx_mk l ok (by omega) py q⟩
theorem gx_sl2 : Gd K S H0 σ p (tSl (rSlTT K) (tVar 1) tNoPart (tPart (tUn (rU fun i => .int (-i)) (tC (.int 1))))) := fun H Q s q =>
  ⟨.str z, hv, 1, rfl, -1, rfl, gx_cut hv l pl ok _ _ fun y hy py => gx_mk l ok (by omega) py q⟩
theorem gx_sl3 : Gd K S H0 σ p (tSl (rSlTT K) (tVar 1) tNoPart (tPart (tC (.int 1)))) := fun H Q s q =>
  ⟨.str z, hv, 1, rfl, gx_cut hv l pl ok _ _ fun y hy py => gx_mk l ok (by omega) py q⟩
theorem gx_upper : Gd K S H0 σ p (tBM0 K "str" (fun x xs H Q => ∃ a, x = .str a ∧ xs = [] ∧ a.length ≤ 5592405 ∧ Q (.str (Txt.upper a)) H) (tVar 1)) := fun H Q s q =>
  ⟨.str z, hv, rfl, z, rfl, rfl, by omega, gx_mk l ok (by rw [upper_ascii pl]; show (z.cps.map up1).size ≤ _; rw [Array.size_map]; show z.length ≤ _; omega) (fun c hc => by
    rw [upper_ascii pl] at hc
    simp only [Array.toList_map, List.mem_map] at hc
    obtain ⟨x, hx, rfl⟩ := hc
    have := pl x hx
    unfold up1
    split <;> omega) q⟩
theorem gx_lower : Gd K S H0 σ p (tBM0 K "str" (fun x xs H Q => ∃ a, x = .str a ∧ xs = [] ∧ a.length ≤ 5592405 ∧ Q (.str (Txt.lower a)) H) (tVar 1)) := fun H Q s q =>
  ⟨.str z, hv, rfl, z, rfl, rfl, by omega, gx_mk l ok (by rw [lower_ascii pl]; show (z.cps.map lo1).size ≤ _; rw [Array.size_map]; show z.length ≤ _; omega) (fun c hc => by
    rw [lower_ascii pl] at hc
    simp only [Array.toList_map, List.mem_map] at hc
    obtain ⟨x, hx, rfl⟩ := hc
    have := pl x hx
    unfold lo1
    split <;> omega) q⟩
include hs pc
theorem gx_add : Gd K S H0 σ p (tOp rAddS (tVar 1) (tVar 5)) := fun H Q s q =>
  ⟨.str z, hv, .str ⟨#[ch]⟩, hs, _, _, rfl, rfl, Nat.le_trans (show z.length + 1 ≤ 10000 by omega) (by decide), gx_mk l ok (by rw [appS_len]; show _ + 1 ≤ _; omega) (fun c hc => by
    rcases appS_mem.mp hc with hc | hc
    · exact pl c hc
    · have : c = ch := by simpa using hc
      omega) q⟩
include hi
theorem gx_ins {hiO loO : Option Int} {tlo thi : _} (e : ∀ H (Q : Option Int → Hp → Prop), Q loO H → tlo σ H Q) (e2 : ∀ H (Q : Option Int → Hp → Prop), Q hiO H → thi σ H Q) : Gd K S H0 σ p (tOp rAddS (tOp rAddS (tSl (rSlTT K) (tVar 1) tNoPart (tPart (tVar 2))) (tVar 5)) (tSl (rSlTT K) (tVar 1) tlo thi)) := fun H Q s q =>
  ⟨.str z, hv, .int (i : Nat), hi, (i : Nat), rfl, gx_cut hv l pl ok _ _ fun y hy py => ⟨.str ⟨#[ch]⟩, hs, _, _, rfl, rfl, Nat.le_trans (show y.length + 1 ≤ 10000 by omega) (by decide), .str z, hv, e _ _ (e2 _ _ (gx_cut hv l pl ok _ _ fun y2 hy2 py2 => ⟨_, _, rfl, rfl, Nat.le_trans (show _ ≤ 10001 by rw [appS_len]; show y.length + 1 + y2.length ≤ 10001; omega) (by decide), gx_mk l ok (by rw [appS_len, appS_len]; show y.length + 1 + y2.length ≤ _; omega) (fun c hc => by
    rcases appS_mem.mp hc with hc | hc
    · rcases appS_mem.mp hc with hc | hc
      · exact py c hc
      · have : c = ch := by simpa using hc
        omega
    · exact py2 c hc) q⟩))⟩⟩
end
end K63

set_option Elab.async false
set_option linter.all false
set_option maxRecDepth 100000
set_option exponentiation.threshold 20000
set_option pp.deepTerms false
set_option pp.deepTerms.threshold 8
namespace K63
open PySem PySem.Spec PyProof.Rows L2 Ly Mt
/-! ### lines are turned -/
theorem im_take {K : PySem.W.Frag} {H : Hp} : ∀ {ws : List V} {l : List PyData} (n : Nat), ImAll K H ws l → ImAll K H (ws.take n) (l.take n)
  | _, _, 0, _ => by rw [List.take_zero, List.take_zero]; exact .nil
  | _, _, n + 1, .nil => by rw [List.take_nil, List.take_nil]; exact .nil
  | _, _, n + 1, .cons a r => by rw [List.take_succ_cons, List.take_succ_cons]; exact .cons a (im_take n r)
theorem im_drop {K : PySem.W.Frag} {H : Hp} : ∀ {ws : List V} {l : List PyData} (n : Nat), ImAll K H ws l → ImAll K H (ws.drop n) (l.drop n)
  | _, _, 0, h => by rw [List.drop_zero, List.drop_zero]; exact h
  | _, _, n + 1, .nil => by rw [List.drop_nil, List.drop_nil]; exact .nil
  | _, _, n + 1, .cons a r => by rw [List.drop_succ_cons, List.drop_succ_cons]; exact im_drop n r
def pD (p : Nat × Nat) : PyData := .tuple [.int (p.1 : Nat), .int (p.2 : Nat)]
section
variable {P : Program} {w : World} {K : PySem.W.Frag} {mg : Str → Option Value} {base : Heap}
abbrev s__law_turned : Stmt := topS 44
theorem sc__law_turned : FnScope ["well", "table", "lines", "spots", "at", "k", "maker", "entries", "to"] ["well", "table", "lines"] (defScope s__law_turned) := ⟨rfl, rfl, rfl, by decide +kernel, rfl, by decide +kernel, by decide +kernel⟩
def sl_turned (K : PySem.W.Frag) : Sp := fun vs H Q _ => ∃ (c l : Addr) (n : Nat) (x u : V) (rows : List Rw), vs = [.ref c, x, u] ∧ Wel H c l n ∧ n < 2 ^ 58 ∧ Im K H u (rwsD rows) ∧ rows.length ≤ 97 ∧ (∀ r ∈ rows, LnOk r) ∧
  ∀ p rows' H', rows'.length = rows.length → (∀ r ∈ rows', LnOk r) → Wel H' c l (n + 5) → But2 c l H H' → Im K H' (.ref p) (rwsD rows') → Q (.ref p) H'
set_option maxHeartbeats 1000000 in
theorem ok__law_turned {f : Addr} {fd : FuncData} {k : Nat} (F : Fun K "_law_turned" "_law_turned" s__law_turned f fd) (T : Tx K mg){k1 : Nat} (D__law_draw : Def P w K mg base k1 "_law_draw" s__law_draw ["well", "many"] sp_draw) (e1 : k1 ≤ k) : FnOk P w K mg base CX0 (k + 1) f fd ["well", "table", "lines"] (sl_turned K) := by
  have nd := sc__law_turned.nd
  refine F.ok sc__law_turned (fun vs H Q E h => ?_) (fun cdv A outer s H vs Q E hr h => ?_)
  · obtain ⟨_, _, _, _, _, _, rfl, _⟩ := h
    rfl
  · obtain ⟨c, l, n, x, u, rows, rfl, uw, n58, iu, r97, lo, q⟩ := h
    obtain ⟨a, xs, rfl, ha, hx⟩ := iu.tuple_inv
    have lx : xs.length = rows.length := all_len hx
    refine ⟨_, (pss_cons (ps_set (i := 3) nd rfl (.inl rfl) (pe_lst pa_nil))
      (pss_cons (ps_for PassesOwn.never rfl (pi_range1 rfl T.m_range (pa_cons (pe_callB (kcall_len K) (by rfl) T.m_len PySem.boot_len (pa_cons (pv 2) pa_nil)) pa_nil)) (pg_name (i := 4) nd rfl (.inr rfl))
        (pss_one (ps_set (i := 3) nd rfl (.inl rfl) (pe_op op_cat (pv 3) (pe_lc (own := [("k", 5)]) (g := gName 5) (tt := tYes) rfl nd (pi_range1 rfl T.m_range (pa_cons (pe_callB (kcall_len K) (by rfl) T.m_len PySem.boot_len (pa_cons (pe_ix (kix_tup K) (pe_ix (kix_tup K) (pv 2) (pv 4) (fun _ _ => rfl)) pe_int (fun _ _ => rfl)) pa_nil)) pa_nil)) (blkOk_by (by rfl)) (fun _ _ _ _ _ => (pg_name (i := 5) nd rfl (.inl rfl))) (fun _ _ _ _ _ => pts_nil) (fun _ _ _ _ _ => (pe_tup (pa_cons (pv 4) (pa_cons (pv 5) pa_nil)))))))))
      (pss_cons (ps_if (pt_cmpR (kop_eqNil K hr.units) (pv 3) (pe_lst pa_nil) (nomark _))
        (pss_one (ps_ret (pv 2)))
        pss_nil)
      (pss_cons (ps_asg (pe_ix (kix_list K) (pv 3) (pe_def D__law_draw (hr.mono (by omega)) rfl (pa_cons (pv 0) (pa_cons (pe_callB (kcall_len K) (by rfl) T.m_len PySem.boot_len (pa_cons (pv 3) pa_nil)) pa_nil))) (fun _ _ => rfl)) (kpg_tup K (n := 2) rfl (pgs_cons (pg_name (i := 4) nd rfl (.inr rfl)) (pgs_cons (pg_name (i := 5) nd rfl (.inl rfl)) pgs_nil))))
      (pss_cons (ps_asg (pe_ix (kix_tup K) (pv 2) (pv 4) (fun _ _ => rfl)) (kpg_tup K (n := 2) rfl (pgs_cons (pg_name (i := 6) nd rfl (.inl rfl)) (pgs_cons (pg_name (i := 7) nd rfl (.inl rfl)) pgs_nil))))
      (pss_cons (ps_set (i := 8) nd rfl (.inl rfl) (pe_ix (kix_list K) (pe_lst (pa_cons (pv 4) (pa_cons (pe_op op_add (pv 4) pe_int) (pa_cons (pe_callB (kcall_len K) (by rfl) T.m_len PySem.boot_len (pa_cons (pv 2) pa_nil)) (pa_cons (pe_un un_neg pe_int) (pa_cons pe_int (pa_cons (pe_un un_neg (pe_callB (kcall_len K) (by rfl) T.m_len PySem.boot_len (pa_cons (pv 2) pa_nil))) (pa_cons (pe_op op_sub (pv 4) pe_int) (pa_cons (pe_def D__law_draw (hr.mono (by omega)) rfl (pa_cons (pv 0) (pa_cons (pe_op op_add (pv 4) pe_int) pa_nil))) pa_nil))))))))) (pe_def D__law_draw (hr.mono (by omega)) rfl (pa_cons (pv 0) (pa_cons pe_int pa_nil))) (fun _ _ => rfl)))
      (pss_one (ps_ret (pe_op (kop_catA K) (pe_op (kop_catA K) (pe_slice (ksl_tupA K) (pv 2) po_none (po_some (pv 4))) (pe_tup (pa_cons (pe_tup (pa_cons (pv 6) (pa_cons (pe_op (kop_catA K) (pe_op (kop_catA K) (pe_slice (ksl_tupA K) (pv 7) po_none (po_some (pv 5))) (pe_tup (pa_cons (pv 8) pa_nil))) (pe_slice (ksl_tupA K) (pv 7) (po_some (pe_op op_add (pv 5) pe_int)) po_none)) pa_nil))) pa_nil))) (pe_slice (ksl_tupA K) (pv 2) (po_some (pe_op op_add (pv 4) pe_int)) po_none)))))))))), ?_⟩
    refine ⟨by show 0 ≤ sizeLine; decide, fun M hM => ?_⟩
    have sM := same_new (o := .lst []) hM
    have eM : (upd H M (.lst [])) M = some (.lst []) := upd_same
    generalize upd H M (.lst []) = H1 at *
    refine ⟨.ref a, rfl, a, xs, rfl, .inr (ha.mono (tk_same sM)).sq, _, rfl, by omega, by omega, ?_⟩
    rw [lx]
    refine for_it (walk_range (lo := 0) (n := ((rows.length : Nat) : Int).toNat)) (fun i σ Hx => ∃ (y4 : Option V) (M : Addr) (ws : List V) (ps : List (Nat × Nat)), σ = [some (.ref c), some x, some (.ref a), some (.ref M), y4, none, none, none, none] ∧ Same H Hx ∧ H M = none ∧ Hx M = some (.lst ws) ∧ ImAll K Hx ws (ps.map pD) ∧ (∀ p ∈ ps, ∃ r, rows[p.1]? = some r ∧ p.2 < r.2.length) ∧ ps.length ≤ 4 * i) ⟨_, M, [], [], rfl, sM, hM, eM, .nil, fun _ h => (nomatch h), Nat.zero_le _⟩ (fun _ _ _ _ _ => trivial) ?_ ?_
    · rintro i x1 σ Hx Hb hi ⟨y4, M, ws, ps, rfl, sm, hM, eM, iw, hps, lps⟩ ⟨rfl, rfl⟩
      show gName 4 (V.int ((0 : Int) + (i : Nat))) _ _ _
      rw [show (0 : Int) + (i : Nat) = (i : Nat) by omega]
      rw [Int.toNat_natCast] at hi
      obtain ⟨r, hr'⟩ : ∃ r, rows[i]? = some r := ⟨_, List.getElem?_eq_getElem hi⟩
      have l4 := (lo r (List.mem_of_getElem? hr')).few
      obtain ⟨x2, ex, ix⟩ := all_at (ImAll.mono (tk_same sm) _ hx) hr'
      obtain ⟨p, z1, z2, rfl, hp, iz1, iz2⟩ := im_pair ix
      obtain ⟨pe, es, rfl, hpe, hes⟩ := iz2.tuple_inv
      obtain rfl := im_intsN hes
      have lws : ws.length = ps.length := all_len iw
      refine ⟨.ref M, rfl, .ref a, rfl, .int (i : Nat), rfl, a, xs, _, .ref p, rfl, rfl, (ha.mono (tk_same sm)).sq, atI_nat ex, p, _, 1, _, rfl, rfl, hp.sq, atI_nat (j := 1) rfl, pe, _, rfl, .inr hpe.sq, _, rfl, by rw [List.length_map]; omega, by rw [List.length_map]; omega, fun D hD => ?_⟩
      rw [List.length_map]
      refine lc_all (walk_range (lo := 0) (n := ((r.2.length : Nat) : Int).toNat)) (fun j Hx => Same Hb Hx ∧ ∃ es, Hx D = some (.lst es) ∧ ImAll K Hx es (((List.range j).map fun k => (i, k)).map pD)) ⟨same_new hD, [], upd_same, .nil⟩ (fun _ _ _ _ => trivial) (fun j x Hx Hy hj z y => ?_) (fun Hx z => ?_)
      · obtain ⟨s3, es, eD, ie⟩ := z
        obtain ⟨rfl, rfl⟩ := y
        rw [Int.toNat_natCast] at hj
        have le : es.length = j := by rw [all_len ie, List.length_map, List.length_range]
        refine ⟨rfl, .int (i : Nat), rfl, .int (0 + (j : Nat)), rfl, by show 2 ≤ sizeLine; decide, fun T hT => ?_⟩
        have sT := same_new (o := .tup [.int (i : Nat), .int (0 + (j : Nat))]) hT
        have eD4 := sT _ _ eD
        have tk9 := tk_lst (o := .lst (es ++ [.ref T])) eD4
        refine ⟨es, eD4, small1000 (by omega), fun b o e => ?_, _, upd_same, ?_⟩
        · rw [upd_ne (ne_of_none e hD)]; exact sT _ _ (s3 _ _ e)
        · rw [List.range_succ, List.map_append, List.map_append]
          refine ImAll.snoc (ImAll.mono ((tk_same sT).trans tk9) _ ie) (Im.mono tk9 _ ?_)
          rw [Int.zero_add]
          exact .tup (.inl upd_same) (.cons (.int _) (.cons (.int _) .nil))
      · obtain ⟨s3, es, eD, ie⟩ := z
        rw [Int.toNat_natCast] at ie
        have le : es.length = r.2.length := by rw [all_len ie, List.length_map, List.length_range]
        refine ⟨M, D, ws, es, rfl, rfl, s3 _ _ eM, eD, Nat.le_of_lt (small1000 (by omega)), fun N hN => ?_⟩
        have sN := same_new (o := .lst (ws ++ es)) hN
        have s4 := s3.trans sN
        refine ⟨_, N, _, ps ++ (List.range r.2.length).map fun k => (i, k), rfl, sm.trans s4, (sm.trans s3).free hN, upd_same, ?_, fun p hp => ?_, ?_⟩
        · rw [List.map_append]
          exact im_app' (ImAll.mono (tk_same s4) _ iw) (ImAll.mono (tk_same sN) _ ie)
        · rcases List.mem_append.mp hp with hp | hp
          · exact hps p hp
          · obtain ⟨k, hk, rfl⟩ := List.mem_map.mp hp
            exact ⟨r, hr', List.mem_range.mp hk⟩
        · rw [List.length_append, List.length_map, List.length_range]; omega
    · rintro σ Hx ⟨y4, M, ws, ps, rfl, sm, hM, eM, iw, hps, lps⟩
      rw [Int.toNat_natCast] at lps
      have lws : ws.length = ps.length := all_len iw
      refine ⟨.ref M, rfl, by show 0 ≤ sizeLine; decide, fun Z hZ => ?_⟩
      have sZ := same_new (o := .lst []) hZ
      have eM := sZ _ _ eM
      have iw := ImAll.mono (tk_same sZ) _ iw
      have sm := sm.trans sZ
      refine ⟨M, Z, ws, rfl, rfl, .of eM, .of upd_same, _, rfl, ?_⟩
      generalize upd Hx Z (.lst []) = H2 at *
      by_cases hw : ws = []
      · rw [decide_eq_true hw]
        exact iteT ⟨.ref a, rfl, q a rows H2 rfl lo ((uw.same sm).mono (by omega)) (but2_same sm) (Im.mono (tk_same sm) _ (.tup ha hx))⟩
      · rw [decide_eq_false hw]
        have wpos : 1 ≤ ws.length := List.length_pos_iff.mpr hw
        refine iteF ⟨.ref M, rfl, .ref c, rfl, .ref M, rfl, M, ws, rfl, .inl (.of eM), c, l, _, _, rfl, uw.same sm, by omega, by omega, by omega, fun dd H3 hd u3 b3 => ?_⟩
        have b03 := (but2_same sm).trans b3
        have eM3 := b3 _ _ (uw.nw hM) (uw.nl hM) eM
        have iw3 := ImAll.mono (b3.tk (uw.same sm)) _ iw
        obtain ⟨ap, hap⟩ : ∃ ap, ps[dd]? = some ap := ⟨_, List.getElem?_eq_getElem (by omega)⟩
        obtain ⟨x2, ex, ix⟩ := all_at iw3 hap
        obtain ⟨T, z1, z2, rfl, hT, iz1, iz2⟩ := im_pair ix
        obtain rfl := iz1.int_inv
        obtain rfl := iz2.int_inv
        refine ⟨M, _, (dd : Nat), .ref T, rfl, rfl, .of eM3, atI_nat ex, T, _, rfl, hT.sq, rfl, .int (ap.1 : Nat), _, rfl, .int (ap.2 : Nat), _, rfl, rfl, ?_⟩
        obtain ⟨r, hr', hk⟩ := hps ap (List.mem_of_getElem? hap)
        obtain ⟨at', k⟩ := ap
        have hr' : rows[at']? = some r := hr'
        have hk : k < r.2.length := hk
        have hat := (List.getElem?_eq_some_iff.mp hr').1
        have rmem := List.mem_of_getElem? hr'
        have l4 := (lo r rmem).few
        have ha3 := ha.mono (b03.tk uw)
        have hx3 := ImAll.mono (b03.tk uw) _ hx
        obtain ⟨x3, ex3, ix3⟩ := all_at hx3 hr'
        obtain ⟨p, z1, z2, rfl, hp, iz1, iz2⟩ := im_pair ix3
        obtain rfl := iz1.str_inv
        obtain ⟨pe, es, rfl, hpe, hes⟩ := iz2.tuple_inv
        obtain rfl := im_intsN hes
        refine ⟨.ref a, rfl, .int (at' : Nat), rfl, a, xs, _, .ref p, rfl, rfl, ha3.sq, atI_nat ex3, p, _, rfl, hp.sq, rfl, .str r.1, _, rfl, .ref pe, _, rfl, rfl, ?_⟩
        refine ⟨.int (at' : Nat), rfl, .int (at' : Nat), rfl, _, _, rfl, rfl, .ref a, rfl, a, xs, rfl, .inr ha3.sq, 1, rfl, .ref a, rfl, a, xs, rfl, .inr ha3.sq, _, rfl, .int (at' : Nat), rfl, _, _, rfl, rfl, .ref c, rfl, .int (at' : Nat), rfl, _, _, rfl, rfl, c, l, _, _, rfl, u3, by omega, by omega, by omega, fun d2 H4 hd2 u4 b4 => ?_⟩
        refine ⟨by show 8 ≤ sizeLine; decide, fun L hL => ?_⟩
        have sL := same_new (o := .lst ([((at' : Nat) : Int), (at' : Nat) + 1, ((xs.length : Nat) : Int), -1, 0, -((xs.length : Nat) : Int), (at' : Nat) - 1, (d2 : Nat)].map V.int)) hL
        have eL : (upd H4 L (.lst ([((at' : Nat) : Int), (at' : Nat) + 1, ((xs.length : Nat) : Int), -1, 0, -((xs.length : Nat) : Int), (at' : Nat) - 1, (d2 : Nat)].map V.int))) L = some (.lst ([((at' : Nat) : Int), (at' : Nat) + 1, ((xs.length : Nat) : Int), -1, 0, -((xs.length : Nat) : Int), (at' : Nat) - 1, (d2 : Nat)].map V.int)) := upd_same
        have uL := u4.same sL
        have nLc := u4.nw hL
        have nLl := u4.nl hL
        have b34 := b4.trans (but2_same sL)
        have all1 : ∀ z ∈ [((at' : Nat) : Int), (at' : Nat) + 1, ((xs.length : Nat) : Int), -1, 0, -((xs.length : Nat) : Int), (at' : Nat) - 1, (d2 : Nat)], z.natAbs ≤ 200 := by
          intro z hz
          simp only [List.mem_cons, List.not_mem_nil, or_false] at hz
          omega
        refine ⟨.ref c, rfl, c, l, 8, _, rfl, uL, by omega, by decide, by decide, fun e H5 he u5 b5 => ?_⟩
        obtain ⟨to, hto, mto⟩ := int_at [((at' : Nat) : Int), (at' : Nat) + 1, ((xs.length : Nat) : Int), -1, 0, -((xs.length : Nat) : Int), (at' : Nat) - 1, (d2 : Nat)] (d := e) (by show e < 8; omega)
        have t200 := all1 to mto
        refine ⟨L, _, (e : Nat), _, rfl, rfl, .of (b5 _ _ nLc nLl eL), atI_nat hto, ?_⟩
        have b05 := (b03.trans b34).trans b5
        have b35 := b34.trans b5
        have ha5 := ha.mono (b05.tk uw)
        have hpe5 := hpe.mono (b35.tk u3)
        have big : ∀ n : Nat, n ≤ 1000000 → n ≤ sizeLine := fun n h => Nat.le_trans h (by decide)
        refine ⟨.ref a, rfl, .int (at' : Nat), rfl, (at' : Nat), rfl, sl_any' ha5 fun p1 H6 s6 hp1 => ?_⟩
        rw [cutV_to (n := at') (by omega)] at hp1
        have hpe6 := hpe5.mono (tk_same s6)
        refine ⟨.str r.1, rfl, .ref pe, rfl, .int (k : Nat), rfl, (k : Nat), rfl, sl_any' hpe6 fun p2 H7 s7 hp2 => ?_⟩
        rw [cutV_to (n := k) (by rw [List.length_map]; omega)] at hp2
        refine ⟨.int to, rfl, by show 1 ≤ sizeLine; decide, fun p3 hp3 => ?_⟩
        have s8 := same_new (o := .tup [.int to]) hp3
        refine cat_bigO (hp2.mono (tk_same s8)) (.inl upd_same) (big _ (by rw [List.length_take]; show _ + 1 ≤ _; omega)) fun p4 H8 s8' hp4 => ?_
        have s78 := s8.trans s8'
        have hpe8 := hpe6.mono (tk_same (s7.trans s78))
        refine ⟨.ref pe, rfl, .int (k : Nat), rfl, _, _, rfl, rfl, (k : Int) + 1, rfl, ?_⟩
        rw [show (k : Int) + 1 = ((k + 1 : Nat) : Int) by omega]
        dsimp only [tNoPart]
        refine sl_any' hpe8 fun p5 H9 s9 hp5 => ?_
        rw [cutV_from (n := k + 1) (by rw [List.length_map]; omega)] at hp5
        refine cat_bigO (hp4.mono (tk_same s9)) hp5 (big _ (by rw [List.length_append, List.length_take, List.length_drop, List.length_map]; show _ + 1 + _ ≤ _; omega)) fun p6 H10 s10 hp6 => ⟨by show 2 ≤ sizeLine; decide, fun p7 hp7 => ⟨by show 1 ≤ sizeLine; decide, fun p8 hp8 => ?_⟩⟩
        have s11 := same_new (o := .tup [.str r.1, .ref p6]) hp7
        have hp7' : ITup K (upd H10 p7 (.tup [.str r.1, .ref p6])) p7 [.str r.1, .ref p6] := .inl upd_same
        have hp6' := hp6.mono (tk_same s11)
        generalize upd H10 p7 (.tup [.str r.1, .ref p6]) = H11 at *
        have s12 := same_new (o := .tup [.ref p7]) hp8
        have s612 : Same H6 (upd H11 p8 (.tup [.ref p7])) := (((((s7.trans s78).trans s9).trans s10).trans s11).trans s12)
        refine cat_bigO (hp1.mono (tk_same s612)) (.inl upd_same) (big _ (by rw [List.length_take]; show _ + 1 ≤ _; omega)) fun p9 H13 s13 hp9 => ?_
        have ha13 := ha5.mono (tk_same ((s6.trans s612).trans s13))
        refine ⟨.ref a, rfl, .int (at' : Nat), rfl, _, _, rfl, rfl, (at' : Int) + 1, rfl, ?_⟩
        rw [show (at' : Int) + 1 = ((at' + 1 : Nat) : Int) by omega]
        dsimp only [tNoPart]
        refine sl_any' ha13 fun p10 H14 s14 hp10 => ?_
        rw [cutV_from (n := at' + 1) (by omega)] at hp10
        refine cat_bigO (hp9.mono (tk_same s14)) hp10 (big _ (by rw [List.length_append, List.length_take, List.length_drop]; show _ + 1 + _ ≤ _; omega)) fun p11 H15 s15 hp11 => ?_
        have s515 : Same H5 H15 := (((s6.trans s612).trans s13).trans s14).trans s15
        have b015 := b05.trans (but2_same s515)
        have hx15 := ImAll.mono (b015.tk uw) _ hx
        have s1215 := ((s12.trans s13).trans s14).trans s15
        have i7 : Im K H15 (.ref p7) (rwD (r.1, r.2.take k ++ [to] ++ r.2.drop (k + 1))) := .tup (hp7'.mono (tk_same s1215)) (.cons (.str _) (.cons (.tup (hp6'.mono (tk_same s1215)) (by
          rw [show (r.2.map V.int).take k ++ [V.int to] ++ (r.2.map V.int).drop (k + 1) = (r.2.take k ++ [to] ++ r.2.drop (k + 1)).map V.int by rw [List.map_append, List.map_append, List.map_take, List.map_drop]; rfl]
          exact ints_im _)) .nil))
        refine q p11 (rows.take at' ++ [(r.1, r.2.take k ++ [to] ++ r.2.drop (k + 1))] ++ rows.drop (at' + 1)) H15 ?_ (fun r2 h2 => ?_) ((u5.same s515).mono (by omega)) b015 (.tup hp11 ?_)
        · rw [List.length_append, List.length_append, List.length_take, List.length_drop]
          show _ + 1 + _ = _
          omega
        · rw [List.mem_append, List.mem_append, List.mem_singleton] at h2
          rcases h2 with (h2 | rfl) | h2
          · exact lo r2 (List.mem_of_mem_take h2)
          · refine ⟨(lo r rmem).nm, ?_, fun z hz => ?_⟩
            · show (r.2.take k ++ [to] ++ r.2.drop (k + 1)).length ≤ 4
              rw [List.length_append, List.length_append, List.length_take, List.length_drop]
              show _ + 1 + _ ≤ _
              omega
            · rcases List.mem_append.mp hz with hz | hz
              · rcases List.mem_append.mp hz with hz | hz
                · exact (lo r rmem).ents z (List.mem_of_mem_take hz)
                · rw [List.mem_singleton.mp hz]
                  exact drI_small (by show _ < 1099511627776; omega)
              · exact (lo r rmem).ents z (List.mem_of_mem_drop hz)
          · exact lo r2 (List.mem_of_mem_drop h2)
        · rw [List.map_append, List.map_append, List.map_take, List.map_drop]
          exact im_app' (im_app' (im_take _ hx15) (.cons i7 .nil)) (im_drop _ hx15)
end
end K63

set_option Elab.async false
set_option linter.all false
set_option maxRecDepth 100000
set_option exponentiation.threshold 20000
set_option pp.deepTerms false
set_option pp.deepTerms.threshold 8
namespace K63
open PySem PySem.Spec PyProof.Rows L2 Ly Mt
section
variable {K : PySem.W.Frag} {S : Addr → Prop} {H0 : Hp} {σ : L2.St} {p : PyData → Prop} {v : V} {n : Int} {B : Nat}
variable (hv : σ[1]? = some (some v)) (hn : numV v = some n) (B9 : B ≤ 1800) (B1 : 10 ≤ B) (nb : n.natAbs < 2 ^ B) (ok : ∀ i : Int, i.natAbs < 2 ^ (B + 31) → p (.int i))
include hv hn B9 B1 nb ok
theorem gj_mk {i : Int} {H : Hp} {Q : VK} (h : i.natAbs < 2 ^ (B + 31)) (q : ∀ x d H', Same H H' → Od K S H' x d → p d → Q x H') : Q (.int i) H :=
  q _ _ H (Same.refl H) (.int i (Nat.lt_of_lt_of_le h (Nat.pow_le_pow_right (by decide) (by omega)))) (ok i h)
theorem gj_two : 2 ^ B + 2 ≤ 2 ^ (B + 31) := by
  have e : 2 ^ (B + 31) = 2 ^ B * 2147483648 := by rw [Nat.pow_add]
  have h1 : 1 ≤ 2 ^ B := Nat.one_le_two_pow
  omega
theorem gj_add : Gd K S H0 σ p (tOp rAddB (tVar 1) (tC (.int 1))) := fun H Q s q => ⟨v, hv, n, 1, hn, rfl, gj_mk hv hn B9 B1 nb ok (by have := gj_two hv hn B9 B1 nb ok; omega) q⟩
theorem gj_sub : Gd K S H0 σ p (tOp rSubB (tVar 1) (tC (.int 1))) := fun H Q s q => ⟨v, hv, n, 1, hn, rfl, gj_mk hv hn B9 B1 nb ok (by have := gj_two hv hn B9 B1 nb ok; omega) q⟩
theorem gj_neg : Gd K S H0 σ p (tUn rNegB (tVar 1)) := fun H Q s q => ⟨v, hv, n, hn, gj_mk hv hn B9 B1 nb ok (by have := gj_two hv hn B9 B1 nb ok; omega) q⟩
theorem gj_mul : Gd K S H0 σ p (tOp rMulB (tVar 1) (tOp (rI CPow fun i j => .int (i ^ j.toNat)) (tC (.int 10)) (tC (.int 9)))) := fun H Q s q =>
  ⟨v, hv, _, _, rfl, rfl, ⟨by decide, by decide, by decide⟩, n, _, hn, rfl, wide_mul (a := B) (b := 30) nb (by decide) (by omega) (by decide) (by omega), gj_mk hv hn B9 B1 nb ok (by
    rw [Int.natAbs_mul]
    have e : 2 ^ (B + 31) = 2 ^ B * 2147483648 := by rw [Nat.pow_add]
    rw [e, show ((10 : Int) ^ (9 : Int).toNat).natAbs = 1000000000 by decide]
    have h1 : 1 ≤ 2 ^ B := Nat.one_le_two_pow
    have := Nat.mul_le_mul_right 1000000000 (Nat.le_of_lt nb)
    omega) q⟩
theorem gj_str (oks : ∀ y : Str, y.length ≤ 40 → (∀ c ∈ y.cps.toList, c < 128) → p (.str y)) : Gd K S H0 σ p (tSl rSlS (tCB (fun xs H Q => (∃ i : Int, xs = [.int i] ∧ i.natAbs.log2 < 1920 ∧ Q (.str (toString i)) H) ∨ ∃ b : Bool, xs = [.bl b] ∧ Q (.str (if b then "True" else "False")) H) (tCons (tVar 1) tNil)) tNoPart (tPart (tC (.int 40)))) := fun H Q s q => by
  have c40 : ∀ z : Str, (cutS z none (some 40)).length ≤ 40 := fun z => by
    show (List.toArray _).size ≤ _
    rw [List.size_toArray, List.length_take]
    have e2 : HT.sIx z.length z.length (some 40) = min 40 z.length := HT.sIx_nat _ _ 40
    rw [e2]
    omega
  have fin : ∀ z : Str, z.length ≤ 5000 → (∀ c ∈ z.cps.toList, c < 128) → rSlS (.str z) none (some 40) H Q := fun z lz pz =>
    ⟨z, rfl, Nat.le_trans lz (by decide), q _ _ H (Same.refl H) (.str _ (Nat.le_trans (c40 z) (by decide))) (oks _ (c40 z) fun c hc => pz c (cutS_in c hc))⟩
  rcases numV_inv hn with rfl | ⟨b, rfl, _⟩
  · have h1 := int_len (i := n) (by omega) nb
    have h2 := int_plain n
    rw [PyData.shown_int] at h1 h2
    exact ⟨.int n, hv, .inl ⟨n, rfl, Nat.lt_of_lt_of_le (PySem.Flt.log2_lt_of (by omega) nb) (by omega), 40, rfl, fin _ (by omega) h2⟩⟩
  · refine ⟨.bl b, hv, .inr ⟨b, rfl, 40, rfl, ?_⟩⟩
    cases b with
    | true => exact fin _ (by decide) (by decide)
    | false => exact fin _ (by decide) (by decide)
end
section
variable {K : PySem.W.Frag} {S : Addr → Prop} {H0 : Hp} {σ : L2.St} {p : PyData → Prop} {v : V} {t : PyData}
theorem gk_two (hv : σ[1]? = some (some v)) (o : Od K S H0 v t) (h : p (.tuple [t, t])) : Gd K S H0 σ p (tTup (tCons (tVar 1) (tCons (tVar 1) tNil))) := fun H Q s q =>
  ⟨v, hv, v, hv, by show 2 ≤ sizeLine; decide, fun l hl => by
    have o' := o.mono (fo_same (s.trans (same_new (o := .tup [v, v]) hl)))
    exact q _ _ _ (same_new hl) (.tup (.inl upd_same) (.cons o' (.cons o' .nil))) h⟩
theorem gk_t1 (z : Str) (hz : z.length ≤ 100000) (h : p (.tuple [.str z])) : Gd K S H0 σ p (tTup (tCons (tC (.str z)) tNil)) := fun H Q s q =>
  ⟨by show 1 ≤ sizeLine; decide, fun l hl => q _ _ _ (same_new hl) (.tup (.inl upd_same) (.cons (.str z hz) .nil)) h⟩
theorem gk_t2 (z : Str) (hz : z.length ≤ 100000) (h : p (.tuple [.str z, .tuple []])) : Gd K S H0 σ p (tTup (tCons (tC (.str z)) (tCons (tTup tNil) tNil))) := fun H Q s q =>
  ⟨by show 0 ≤ sizeLine; decide, fun l hl => ⟨by show 2 ≤ sizeLine; decide, fun m hm => q _ _ _ ((same_new hl).trans (same_new hm)) (.tup (.inl upd_same) (.cons (.str z hz) (.cons (.tup (.inl (same_new hm _ _ upd_same)) .nil) .nil))) h⟩⟩
theorem gk_t3 (z : Str) (hz : z.length ≤ 100000) (i j : Int) (hi : SmI i) (hj : SmI j) (h : p (.tuple [.str z, .tuple [.int i, .int j]])) : Gd K S H0 σ p (tTup (tCons (tC (.str z)) (tCons (tTup (tCons (tC (.int i)) (tCons (tC (.int j)) tNil))) tNil))) := fun H Q s q =>
  ⟨by show 2 ≤ sizeLine; decide, fun l hl => ⟨by show 2 ≤ sizeLine; decide, fun m hm => q _ _ _ ((same_new hl).trans (same_new hm)) (.tup (.inl upd_same) (.cons (.str z hz) (.cons (.tup (.inl (same_new hm _ _ upd_same)) (.cons (.int i hi) (.cons (.int j hj) .nil))) .nil))) h⟩⟩
theorem gk_pow (h : p (.int (10 ^ 30))) : Gd K S H0 σ p (tOp (rI CPow fun i j => .int (i ^ j.toNat)) (tC (.int 10)) (tC (.int 30))) := fun H Q s q =>
  ⟨_, _, rfl, rfl, ⟨by decide, by decide, by decide⟩, q _ _ H (Same.refl H) (.int _ (by decide)) h⟩
end
/-- a list, and a written one behind it -/
theorem cat_lstB {K : PySem.W.Frag} {S : Addr → Prop} {H0 H : Hp} {σ : L2.St} {p : PyData → Prop} {n i : Nat} {ta : TA} {M : Addr} {ws : List V} {es : List PyData} {Q : VK} (g : GdA K S H0 σ p n ta) (s : Same H0 H) (hn : n ≤ 100) (hM : σ[i]? = some (some (.ref M))) (eM : H M = some (.lst ws)) (lw : ws.length ≤ 100) (ow : OdAll K S H ws es) (pe : ∀ d ∈ es, p d)
    (k : ∀ N xs ds H', Same H H' → H N = none → H' N = some (.lst xs) → OdAll K S H' xs ds → (∀ d ∈ ds, p d) → xs.length = ws.length + n → Q (.ref N) H') : tOp rCat (tVar i) (tLstB ta) σ H Q := by
  refine ⟨.ref M, hM, g H _ s fun us fs H2 s2 o2 p2 l2 => ⟨Nat.le_of_lt (small1000 (by omega)), fun L hL _ => ?_⟩⟩
  have sL := same_new (o := .lst us) hL
  have s3 := s2.trans sL
  refine ⟨M, L, ws, us, rfl, rfl, s3 _ _ eM, upd_same, Nat.le_of_lt (small1000 (by omega)), fun N hN => ?_⟩
  have sN := same_new (o := .lst (ws ++ us)) hN
  refine k N _ (es ++ fs) _ (s3.trans sN) (s3.free hN) upd_same ((ow.mono (fo_same (s3.trans sN))).app (o2.mono (fo_same (sL.trans sN)))) (fun d hd => ?_) (by rw [List.length_append, l2])
  rcases List.mem_append.mp hd with hd | hd
  · exact pe d hd
  · exact p2 d hd
theorem lst_dr {K : PySem.W.Frag} {S : Addr → Prop} {H0 H : Hp} {σ : L2.St} {p : PyData → Prop} {n : Nat} {ta : TA} {Q : VK} (g : GdA K S H0 σ p n ta) (s : Same H0 H) (hn : n ≤ 100)
    (k : ∀ ws es H2 M, Same H H2 → OdAll K S H2 ws es → (∀ d ∈ es, p d) → ws.length = n → H2 M = none → Q (.ref M) (upd H2 M (.lst ws))) : tLstB ta σ H Q :=
  g H _ s fun ws es H2 s2 o2 p2 l2 => ⟨Nat.le_of_lt (small1000 (by omega)), fun M hM _ => k ws es H2 M s2 o2 p2 l2 hM⟩
theorem lst_ix {K : PySem.W.Frag} {S : Addr → Prop} {H0 H : Hp} {σ : L2.St} {p : PyData → Prop} {n : Nat} {ta : TA} {te2 : TE} {Q : VK} (g : GdA K S H0 σ p n ta) (s : Same H0 H) (hn : n ≤ 100)
    (k : ∀ ws es H2 M, Same H H2 → OdAll K S H2 ws es → (∀ d ∈ es, p d) → ws.length = n → H2 M = none → te2 σ (upd H2 M (.lst ws)) fun y H3 => rIxL K (.ref M) y H3 Q) : tOp (rIxL K) (tLstB ta) te2 σ H Q :=
  g H _ s fun ws es H2 s2 o2 p2 l2 => ⟨Nat.le_of_lt (small1000 (by omega)), fun M hM _ => k ws es H2 M s2 o2 p2 l2 hM⟩
/-- one of a list, drawn -/
theorem od_draw {K : PySem.W.Frag} {S : Addr → Prop} {H : Hp} {σ : L2.St} {p : PyData → Prop} {c l N : Addr} {n : Nat} {ws : List V} {es : List PyData} {Q : VK} (m : Int) (h0 : σ[0]? = some (some (.ref c))) (u : Wel H c l n) (hn : n < 2 ^ 59) (nSc : ¬ S c) (nSl : ¬ S l) (Nc : N ≠ c) (Nl : N ≠ l) (eN : H N = some (.lst ws)) (ow : OdAll K S H ws es) (pe : ∀ d ∈ es, p d) (hm : m = (ws.length : Nat)) (h1 : 1 ≤ ws.length) (h2 : ws.length ≤ 1000)
    (q : ∀ x e H', Wel H' c l (n + 1) → But2 c l H H' → Od K S H' x e → p e → Q x H') : tCall sp_draw [] E0 (tCons (tVar 0) (tCons (tC (.int m)) tNil)) σ H fun y H2 => rIxL K (.ref N) y H2 Q := by
  refine ⟨.ref c, h0, c, l, m, n, rfl, u, by omega, by omega, by omega, fun d H' hd u' b' => ?_⟩
  obtain ⟨x, hx⟩ : ∃ x, ws[d]? = some x := ⟨_, List.getElem?_eq_getElem (by omega)⟩
  have fo : Fo S H H' := ⟨b'.tk u, fun a o s e => b' _ _ (fun z => nSc (z ▸ s)) (fun z => nSl (z ▸ s)) e⟩
  obtain ⟨e, he, oe⟩ := (ow.mono fo).getV hx
  exact ⟨N, ws, (d : Nat), x, rfl, rfl, .of (b' _ _ Nc Nl eN), atI_nat hx, q x e H' u' b' oe (pe e (List.mem_of_getElem? he))⟩
section
variable {K : PySem.W.Frag} {S : Addr → Prop} {H0 : Hp} {σ : L2.St} {p : PyData → Prop} {v : V} {n : Int} {B : Nat}
theorem int5 (hv : σ[1]? = some (some v)) (hn : numV v = some n) (B9 : B ≤ 1800) (B1 : 10 ≤ B) (nb : n.natAbs < 2 ^ B) (ok : ∀ i : Int, i.natAbs < 2 ^ (B + 31) → p (.int i)) (oks : ∀ y : Str, y.length ≤ 40 → (∀ c ∈ y.cps.toList, c < 128) → p (.str y)) :
    GdA K S H0 σ p 5 (tCons (tOp rAddB (tVar 1) (tC (.int 1))) (tCons (tOp rSubB (tVar 1) (tC (.int 1))) (tCons (tUn rNegB (tVar 1)) (tCons (tOp rMulB (tVar 1) (tOp (rI CPow fun i j => .int (i ^ j.toNat)) (tC (.int 10)) (tC (.int 9)))) (tCons (tSl rSlS (tCB (fun xs H Q => (∃ i : Int, xs = [.int i] ∧ i.natAbs.log2 < 1920 ∧ Q (.str (toString i)) H) ∨ ∃ b : Bool, xs = [.bl b] ∧ Q (.str (if b then "True" else "False")) H) (tCons (tVar 1) tNil)) tNoPart (tPart (tC (.int 40)))) tNil))))) :=
  gda_cons (gj_add hv hn B9 B1 nb ok) (gda_cons (gj_sub hv hn B9 B1 nb ok) (gda_cons (gj_neg hv hn B9 B1 nb ok) (gda_cons (gj_mul hv hn B9 B1 nb ok) (gda_cons (gj_str hv hn B9 B1 nb ok oks) gda_nil))))
end
/-! ### the odd things -/
def bnB (e : PyData) : Bool := lfD 12 110 e && (decide (e.depth ≤ 2) && decide (e.bulk ≤ 25))
theorem bn_of {e : PyData} (h : bnB e = true) : Bn 12 110 2 25 e := by
  unfold bnB at h
  rw [Bool.and_eq_true, Bool.and_eq_true, decide_eq_true_iff, decide_eq_true_iff] at h
  exact ⟨h.1, h.2.1, h.2.2⟩
section
variable {K : PySem.W.Frag} {S : Addr → Prop} {H0 : Hp} {σ : L2.St} {p : PyData → Prop} {v : V} {t : PyData}
theorem odd1 (sb : ∀ e, Bn 12 110 2 25 e → p e) : GdA K S H0 σ p 14 (tCons (tC (.str "")) (tCons (tC (.str "number")) (tCons (tC (.str "Number")) (tCons (tC (.str "fun")) (tCons (tC (.str "kind")) (tCons (tC (.str "a")) (tCons (tC (.str "A")) (tCons (tC (.str "a1")) (tCons (tC (.str "A1")) (tCons (tC (.str "1A")) (tCons (tC (.str "A_")) (tCons (tC (.str "A b")) (tCons (tC (.str "Abcdefghij")) (tCons (tC (.str "abcdefghij")) tNil)))))))))))))) :=
  (gda_cons (gd_str "" (by decide +kernel) (sb _ (bn_of (by decide +kernel)))) (gda_cons (gd_str "number" (by decide +kernel) (sb _ (bn_of (by decide +kernel)))) (gda_cons (gd_str "Number" (by decide +kernel) (sb _ (bn_of (by decide +kernel)))) (gda_cons (gd_str "fun" (by decide +kernel) (sb _ (bn_of (by decide +kernel)))) (gda_cons (gd_str "kind" (by decide +kernel) (sb _ (bn_of (by decide +kernel)))) (gda_cons (gd_str "a" (by decide +kernel) (sb _ (bn_of (by decide +kernel)))) (gda_cons (gd_str "A" (by decide +kernel) (sb _ (bn_of (by decide +kernel)))) (gda_cons (gd_str "a1" (by decide +kernel) (sb _ (bn_of (by decide +kernel)))) (gda_cons (gd_str "A1" (by decide +kernel) (sb _ (bn_of (by decide +kernel)))) (gda_cons (gd_str "1A" (by decide +kernel) (sb _ (bn_of (by decide +kernel)))) (gda_cons (gd_str "A_" (by decide +kernel) (sb _ (bn_of (by decide +kernel)))) (gda_cons (gd_str "A b" (by decide +kernel) (sb _ (bn_of (by decide +kernel)))) (gda_cons (gd_str "Abcdefghij" (by decide +kernel) (sb _ (bn_of (by decide +kernel)))) (gda_cons (gd_str "abcdefghij" (by decide +kernel) (sb _ (bn_of (by decide +kernel)))) gda_nil))))))))))))))
theorem odd2 (sb : ∀ e, Bn 12 110 2 25 e → p e) (hS : ∀ a, H0 a = none → S a) : GdA K S H0 σ p 15 (tCons (tC (.str "Abcdefghijk")) (tCons (tC (.str "abcdefghijk")) (tCons (tC (.str "A\n")) (tCons (tC (.int 0)) (tCons (tC (.int 1)) (tCons (tUn (rU fun i => .int (-i)) (tC (.int 1))) (tCons (tC (.int 2)) (tCons (tC (.bl true)) (tCons (tC (.bl false)) (tCons (tC .non) (tCons (tTup tNil) (tCons (tLstB tNil) (tCons tDNewK (tCons (tTup (tCons (tC (.str "A")) tNil)) (tCons (tTup (tCons (tC (.str "A")) (tCons (tTup tNil) tNil))) tNil))))))))))))))) :=
  (gda_cons (gd_str "Abcdefghijk" (by decide +kernel) (sb _ (bn_of (by decide +kernel)))) (gda_cons (gd_str "abcdefghijk" (by decide +kernel) (sb _ (bn_of (by decide +kernel)))) (gda_cons (gd_str "A\n" (by decide +kernel) (sb _ (bn_of (by decide +kernel)))) (gda_cons (gd_int 0 (by decide) (sb _ (bn_of (by decide +kernel)))) (gda_cons (gd_int 1 (by decide) (sb _ (bn_of (by decide +kernel)))) (gda_cons (gd_neg 1 (by decide) (sb _ (bn_of (by decide +kernel)))) (gda_cons (gd_int 2 (by decide) (sb _ (bn_of (by decide +kernel)))) (gda_cons (gd_bl true (sb _ (bn_of (by decide +kernel)))) (gda_cons (gd_bl false (sb _ (bn_of (by decide +kernel)))) (gda_cons (gd_non (sb _ (bn_of (by decide +kernel)))) (gda_cons (gd_tup0 (sb _ (bn_of (by decide +kernel)))) (gda_cons (gd_lst0 hS (sb _ (bn_of (by decide +kernel)))) (gda_cons (gd_dic0 hS (sb _ (bn_of (by decide +kernel)))) (gda_cons (gk_t1 "A" (by decide +kernel) (sb _ (bn_of (by decide +kernel)))) (gda_cons (gk_t2 "A" (by decide +kernel) (sb _ (bn_of (by decide +kernel)))) gda_nil)))))))))))))))
theorem odd3 (sb : ∀ e, Bn 12 110 2 25 e → p e) (hS : ∀ a, H0 a = none → S a) (hv : σ[1]? = some (some v)) (o : Od K S H0 v t) (k1 : p (.tuple [t])) (k2 : p (.list [t])) (k3 : p (.tuple [t, t])) : GdA K S H0 σ p 7 (tCons (tTup (tCons (tVar 1) tNil)) (tCons (tLstB (tCons (tVar 1) tNil)) (tCons (tTup (tCons (tVar 1) (tCons (tVar 1) tNil))) (tCons (tTup (tCons (tC (.str "num")) (tCons (tTup (tCons (tC (.int 1)) (tCons (tC (.int 1)) tNil))) tNil))) (tCons (tOp (rI CPow fun i j => .int (i ^ j.toNat)) (tC (.int 10)) (tC (.int 30))) (tCons (tTup (tCons (tC (.int 0)) (tCons (tC (.int 1)) tNil))) (tCons (tTup (tCons (tC (.str "Fun")) (tCons (tTup tNil) tNil))) tNil))))))) :=
  (gda_cons (g_one hv o k1) (gda_cons (g_lst hv o hS k2) (gda_cons (gk_two hv o k3) (gda_cons (gk_t3 "num" (by decide +kernel) 1 1 (by decide) (by decide) (sb _ (bn_of (by decide +kernel)))) (gda_cons (gk_pow (sb _ (bn_of (by decide +kernel)))) (gda_cons (gd_pair 0 1 (by decide) (by decide) (sb _ (bn_of (by decide +kernel)))) (gda_cons (gk_t2 "Fun" (by decide +kernel) (sb _ (bn_of (by decide +kernel)))) gda_nil)))))))
end
end K63

set_option Elab.async false
set_option linter.all false
set_option maxRecDepth 100000
set_option exponentiation.threshold 20000
set_option pp.deepTerms false
set_option pp.deepTerms.threshold 8
namespace K63
open PySem PySem.Spec PyProof.Rows L2 Ly Mt
/-! ### _law_bent -/
section
variable {P : Program} {w : World} {K : PySem.W.Frag} {mg : Str → Option Value} {base : Heap}
abbrev s__law_bent : Stmt := topS 40
theorem sc__law_bent : FnScope ["well", "value", "at", "ways", "signs", "sign", "odd"] ["well", "value"] (defScope s__law_bent) := ⟨rfl, rfl, rfl, by decide +kernel, rfl, by decide +kernel, by decide +kernel⟩
def signsS : Str := " !\"#$&'()*+,-./0123456789:;<=>?@ABCDEFGHIJKLMNOPQRSTUVWXYZ[\\]^_`abcdefghijklmnopqrstuvwxyz{|}~\n"
theorem signs_len : 1 ≤ signsS.length ∧ signsS.length ≤ 100 := by decide +kernel
theorem signs_at {d : Nat} (h : d < signsS.length) : ∃ ch, signsS.cps.toList[d]? = some ch ∧ ch < 128 := by
  have all : ∀ c ∈ signsS.cps.toList, c < 128 := by decide +kernel
  have hd : d < signsS.cps.toList.length := by rw [Array.length_toList]; exact h
  exact ⟨_, List.getElem?_eq_getElem hd, all _ (List.getElem_mem hd)⟩
def sp_wbent (K : PySem.W.Frag) (n : Nat) : Sp := fun vs H Q _ => ∃ (S : Addr → Prop) (c l : Addr) (m : Nat) (v : V) (d : PyData) (L B : Nat), vs = [.ref c, v] ∧ Wel H c l m ∧ m + 6 * n < 2 ^ 58 ∧ ¬ S c ∧ ¬ S l ∧ Od K S H v d ∧ d.depth < n ∧ lfD L B d = true ∧ L ≤ 5000 ∧ B ≤ 1700 ∧ 10 ≤ B ∧ d.bulk ≤ 100000 ∧
  ∀ x e H', Wel H' c l (m + 6 * n) → But2 c l H H' → Od K (fun a => S a ∨ H a = none) H' x e → BentW L B d e → Q x H'
theorem ok_wbent0 {f : Addr} {fd : FuncData} {k : Nat} (F : Fun K "_law_bent" "_law_bent" s__law_bent f fd) : FnOk P w K mg base CX0 (k + 1) f fd ["well", "value"] (sp_wbent K 0) := by
  refine F.ok sc__law_bent (fun vs H Q E h => ?_) (fun cdv A outer s H vs Q E hr h => ?_)
  · obtain ⟨_, _, _, _, _, _, _, _, _, _, _, _, _, _, n, _⟩ := h
    exact absurd n (Nat.not_lt_zero _)
  · obtain ⟨_, _, _, _, _, _, _, _, _, _, _, _, _, _, n, _⟩ := h
    exact absurd n (Nat.not_lt_zero _)
theorem lfI_of {L C : Nat} {i : Int} (h : i.natAbs < 2 ^ C) : lfD L C (.int i) = true := decide_eq_true h
theorem okI_of {L B : Nat} {t : PyData} (i : Int) (hi : i.natAbs < 2 ^ (B + 31)) : BentW L B t (.int i) := by
  have h2 : 2 ^ (B + 31) ≤ 2 ^ (B + 110) := Nat.pow_le_pow_right (by decide) (by omega)
  exact ⟨⟨lfI_of (Nat.lt_of_lt_of_le hi h2), Nat.zero_le _, Nat.zero_le _⟩⟩
set_option maxHeartbeats 1000000 in
theorem ok__law_bent {f : Addr} {fd : FuncData} {k : Nat} (F : Fun K "_law_bent" "_law_bent" s__law_bent f fd) (T : Tx K mg){ki d k1 : Nat} (D__law_bent : Def P w K mg base ki "_law_bent" s__law_bent ["well", "value"] (sp_wbent K d)) (hk : ki ≤ k) (D__law_draw : Def P w K mg base k1 "_law_draw" s__law_draw ["well", "many"] sp_draw) (e1 : k1 ≤ k) : FnOk P w K mg base CX0 (k + 1) f fd ["well", "value"] (sp_wbent K (d + 1)) := by
  have nd := sc__law_bent.nd
  refine F.ok sc__law_bent (fun vs H Q E h => ?_) (fun cdv A outer s H vs Q E hr h => ?_)
  · obtain ⟨_, _, _, _, _, _, _, _, rfl, _⟩ := h
    rfl
  · obtain ⟨S, c, l, m, v, t, L, B, rfl, u, m58, nSc, nSl, od, tn, lf, L5, B9, B1, bk, q⟩ := h
    refine ⟨_, (C8.pss_cut (ps_if (PW.pt (pw_and (pt_val (pe_callB (kcall_isi K) (by rfl) T.m_isinstance (by decide +kernel) (pa_cons (pv 1) (pa_cons (pe_bltn (v := .ty "tuple") (u := .type "tuple") (by rfl) T.m_tuple (by decide +kernel) rfl) pa_nil)))) (pw_and (pt_cmpR (kop_neTup0 K hr.units) (pv 1) (pe_tup pa_nil) (nomark _)) (pw_and1 (pt_cmpR op_gt (pe_def D__law_draw (hr.mono (by omega)) rfl (pa_cons (pv 0) (pa_cons pe_int pa_nil))) pe_int (nomark _))))))
        (pss_cons (ps_set (i := 2) nd rfl (.inl rfl) (pe_def D__law_draw (hr.mono (by omega)) rfl (pa_cons (pv 0) (pa_cons (pe_callB (kcall_lenU K) (by rfl) T.m_len PySem.boot_len (pa_cons (pv 1) pa_nil)) pa_nil))))
        (pss_one (ps_ret (pe_op (kop_catA K) (pe_op (kop_catA K) (pe_slice (ksl_tt K) (pv 1) po_none (po_some (pv 2))) (pe_tup (pa_cons (pe_def D__law_bent (hr.mono (by omega)) rfl (pa_cons (pv 0) (pa_cons (pe_ix (kix_tup K) (pv 1) (pv 2) (fun _ _ => rfl)) pa_nil))) pa_nil))) (pe_slice (ksl_tt K) (pv 1) (po_some (pe_op op_add (pv 2) pe_int)) po_none)))))
        pss_nil)
      (C8.pss_cut (ps_if (PW.pt (pw_and (pt_val (pe_callB (kcall_isi K) (by rfl) T.m_isinstance (by decide +kernel) (pa_cons (pv 1) (pa_cons (pe_bltn (v := .ty "tuple") (u := .type "tuple") (by rfl) T.m_tuple (by decide +kernel) rfl) pa_nil)))) (pw_and1 (pt_cmpR op_gt (pe_def D__law_draw (hr.mono (by omega)) rfl (pa_cons (pv 0) (pa_cons pe_int pa_nil))) pe_int (nomark _)))))
        (pss_cons (ps_set (i := 2) nd rfl (.inl rfl) (pe_def D__law_draw (hr.mono (by omega)) rfl (pa_cons (pv 0) (pa_cons (pe_op op_add (pe_callB (kcall_lenU K) (by rfl) T.m_len PySem.boot_len (pa_cons (pv 1) pa_nil)) pe_int) pa_nil))))
        (pss_cons (ps_set (i := 3) nd rfl (.inl rfl) (pe_lstB (pa_cons (pe_op (kop_catA K) (pe_slice (ksl_tt K) (pv 1) po_none (po_some (pv 2))) (pe_slice (ksl_tt K) (pv 1) (po_some (pe_op op_add (pv 2) pe_int)) po_none)) (pa_cons (pe_op (kop_catA K) (pe_op (kop_catA K) (pe_slice (ksl_tt K) (pv 1) po_none (po_some (pv 2))) (pe_slice (ksl_tt K) (pv 1) (po_some (pv 2)) (po_some (pe_op op_add (pv 2) pe_int)))) (pe_slice (ksl_tt K) (pv 1) (po_some (pv 2)) po_none)) (pa_cons (pe_op (kop_catA K) (pe_slice (ksl_tt K) (pv 1) (po_some (pv 2)) po_none) (pe_slice (ksl_tt K) (pv 1) po_none (po_some (pv 2)))) pa_nil)))))
        (pss_one (ps_ret (pe_ix (kix_list K) (pe_op op_cat (pv 3) (pe_lstB (pa_cons (pe_callTy (kcall_listB K) (by rfl) T.m_list (by decide +kernel) (pa_cons (pv 1) pa_nil)) (pa_cons (pe_op (kop_rep3 K) (pv 1) pe_int) (pa_cons (pe_op (kop_rep3 K) (pv 1) pe_int) pa_nil))))) (pe_def D__law_draw (hr.mono (by omega)) rfl (pa_cons (pv 0) (pa_cons pe_int pa_nil))) (fun _ _ => rfl))))))
        pss_nil)
      (C8.pss_cut (ps_if (PW.pt (pw_and (pt_val (pe_callB (kcall_isi K) (by rfl) T.m_isinstance (by decide +kernel) (pa_cons (pv 1) (pa_cons (pe_bltn (v := .ty "str") (u := .type "str") (by rfl) T.m_str (by decide +kernel) rfl) pa_nil)))) (pw_and1 (pt_cmpR op_gt (pe_def D__law_draw (hr.mono (by omega)) rfl (pa_cons (pv 0) (pa_cons pe_int pa_nil))) pe_int (nomark _)))))
        (pss_cons (ps_set (i := 4) nd rfl (.inl rfl) pe_str)
        (pss_cons (ps_par (i := 2) (j := 5) (by rfl) nd rfl rfl (by decide) rfl rfl (pa_cons (pe_def D__law_draw (hr.mono (by omega)) rfl (pa_cons (pv 0) (pa_cons (pe_op op_add (pe_callB (kcall_lenU K) (by rfl) T.m_len PySem.boot_len (pa_cons (pv 1) pa_nil)) pe_int) pa_nil))) (pa_cons (pe_ix ix_str (pv 4) (pe_def D__law_draw (hr.mono (by omega)) rfl (pa_cons (pv 0) (pa_cons (pe_callB call_len_str (by rfl) T.m_len PySem.boot_len (pa_cons (pv 4) pa_nil)) pa_nil))) (fun _ _ => rfl)) pa_nil)) (by rfl))
        (pss_cons (ps_set (i := 3) nd rfl (.inl rfl) (pe_lstB (pa_cons (pe_op op_add_str (pe_op op_add_str (pe_slice (ksl_tt K) (pv 1) po_none (po_some (pv 2))) (pv 5)) (pe_slice (ksl_tt K) (pv 1) (po_some (pv 2)) po_none)) (pa_cons (pe_op op_add_str (pe_op op_add_str (pe_slice (ksl_tt K) (pv 1) po_none (po_some (pv 2))) (pv 5)) (pe_slice (ksl_tt K) (pv 1) (po_some (pe_op op_add (pv 2) pe_int)) po_none)) (pa_cons (pe_op op_add_str (pv 1) (pv 5)) (pa_cons (lpe_bm0 K PySem.F.plainAttrs_str PySem.F.slot_str_lower PySem.F.type_str_lower mt_lower (pv 1)) pa_nil))))))
        (pss_one (ps_ret (pe_ix (kix_list K) (pe_op op_cat (pv 3) (pe_lstB (pa_cons (lpe_bm0 K PySem.F.plainAttrs_str PySem.F.slot_str_upper PySem.F.type_str_upper mt_upper (pv 1)) (pa_cons (pe_slice (ksl_tt K) (pv 1) (po_some pe_int) po_none) (pa_cons (pe_slice (ksl_tt K) (pv 1) po_none (po_some (pe_un un_neg pe_int))) (pa_cons (pe_slice (ksl_tt K) (pv 1) po_none (po_some pe_int)) pa_nil)))))) (pe_def D__law_draw (hr.mono (by omega)) rfl (pa_cons (pv 0) (pa_cons pe_int pa_nil))) (fun _ _ => rfl)))))))
        pss_nil)
      (C8.pss_cut (ps_if (PW.pt (pw_and (pt_val (pe_callB (kcall_isi K) (by rfl) T.m_isinstance (by decide +kernel) (pa_cons (pv 1) (pa_cons (pe_bltn (v := .ty "int") (u := .type "int") (by rfl) T.m_int (by decide +kernel) rfl) pa_nil)))) (pw_and1 (pt_cmpR op_gt (pe_def D__law_draw (hr.mono (by omega)) rfl (pa_cons (pv 0) (pa_cons pe_int pa_nil))) pe_int (nomark _)))))
        (pss_one (ps_ret (pe_ix (kix_list K) (pe_lstB (pa_cons (pe_op op_addB (pv 1) pe_int) (pa_cons (pe_op op_subB (pv 1) pe_int) (pa_cons (pe_un un_negB (pv 1)) (pa_cons (pe_op op_mulB (pv 1) (pe_op op_pow pe_int pe_int)) (pa_cons (pe_slice sl_str (pe_callTy call_strB (by rfl) T.m_str (by decide +kernel) (pa_cons (pv 1) pa_nil)) po_none (po_some pe_int)) pa_nil)))))) (pe_def D__law_draw (hr.mono (by omega)) rfl (pa_cons (pv 0) (pa_cons pe_int pa_nil))) (fun _ _ => rfl))))
        pss_nil)
      (pss_cons (ps_set (i := 6) nd rfl (.inl rfl) (pe_lstB (pa_cons pe_str (pa_cons pe_str (pa_cons pe_str (pa_cons pe_str (pa_cons pe_str (pa_cons pe_str (pa_cons pe_str (pa_cons pe_str (pa_cons pe_str (pa_cons pe_str (pa_cons pe_str (pa_cons pe_str (pa_cons pe_str (pa_cons pe_str pa_nil))))))))))))))))
      (pss_cons (ps_set (i := 6) nd rfl (.inl rfl) (pe_op op_cat (pv 6) (pe_lstB (pa_cons pe_str (pa_cons pe_str (pa_cons pe_str (pa_cons pe_int (pa_cons pe_int (pa_cons (pe_un un_neg pe_int) (pa_cons pe_int (pa_cons pe_bl (pa_cons pe_bl (pa_cons pe_non (pa_cons (pe_tup pa_nil) (pa_cons (pe_lstB pa_nil) (pa_cons pe_dnewK (pa_cons (pe_tup (pa_cons pe_str pa_nil)) (pa_cons (pe_tup (pa_cons pe_str (pa_cons (pe_tup pa_nil) pa_nil))) pa_nil))))))))))))))))))
      (pss_cons (ps_set (i := 6) nd rfl (.inl rfl) (pe_op op_cat (pv 6) (pe_lstB (pa_cons (pe_tup (pa_cons (pv 1) pa_nil)) (pa_cons (pe_lstB (pa_cons (pv 1) pa_nil)) (pa_cons (pe_tup (pa_cons (pv 1) (pa_cons (pv 1) pa_nil))) (pa_cons (pe_tup (pa_cons pe_str (pa_cons (pe_tup (pa_cons pe_int (pa_cons pe_int pa_nil))) pa_nil))) (pa_cons (pe_op op_pow pe_int pe_int) (pa_cons (pe_tup (pa_cons pe_int (pa_cons pe_int pa_nil))) (pa_cons (pe_tup (pa_cons pe_str (pa_cons (pe_tup pa_nil) pa_nil))) pa_nil))))))))))
      (pss_one (ps_ret (pe_ix (kix_list K) (pv 6) (pe_def D__law_draw (hr.mono (by omega)) rfl (pa_cons (pv 0) (pa_cons (pe_callB (kcall_len K) (by rfl) T.m_len PySem.boot_len (pa_cons (pv 6) pa_nil)) pa_nil))) (fun _ _ => rfl))))))))))), ?_⟩
    have fo : ∀ {H'}, But2 c l H H' → Fo S H H' := fun b => ⟨b.tk u, fun a o s e => b _ _ (fun z => nSc (z ▸ s)) (fun z => nSl (z ▸ s)) e⟩
    have m0 : m + 6 * (d + 1) = m + 6 * d + 6 := by omega
    refine ⟨fun σ' H' => σ' = [some (.ref c), some v, none, none, none, none, none] ∧ Wel H' c l (m + 1) ∧ But2 c l H H', ?_, ?_⟩
    · refine ⟨v, rfl, v, _, .type (tyName t), _, jTup t, rfl, .ty _, od_ty od, kit_ty (kit_tup t), jTup t, rfl, ?_⟩
      rcases od.tup_or with ⟨a, xs, ds, rfl, rfl, ha, hx⟩ | n
      rotate_left
      · rw [n]
        exact iteF ⟨rfl, u.mono (by omega), .refl _ _ _⟩
      have lx := hx.len
      refine iteT ⟨.ref a, rfl, by show 0 ≤ sizeLine; decide, fun e he => ?_⟩
      have s1 := same_new (o := .tup []) he
      refine ⟨a, e, xs, rfl, rfl, (ha.mono (tk_same s1)).sq, ITup.sq (.inl upd_same), _, rfl, ?_⟩
      have u1 := u.same s1
      have b1 := but2_same (w := c) (l := l) s1
      generalize upd H e (.tup []) = H1 at *
      by_cases hxs : xs = []
      · rw [decide_eq_true hxs]
        exact iteF ⟨rfl, u1.mono (by omega), b1⟩
      rw [decide_eq_false hxs]
      refine iteT ⟨.ref c, rfl, c, l, 6, m, rfl, u1, by omega, by decide, by decide, fun t1 H2 ht u2 b2 => ⟨_, _, rfl, rfl, _, rfl, ?_⟩⟩
      have b12 := b1.trans b2
      by_cases h0 : ((t1 : Nat) : Int) > 0
      rotate_left
      · rw [decide_eq_false h0]
        exact iteF ⟨rfl, u2, b12⟩
      rw [decide_eq_true h0]
      have ha2 := ha.mono (b12.tk u)
      have l0 : xs.length ≠ 0 := fun z => hxs (List.eq_nil_of_length_eq_zero z)
      have bks : PyData.bulkAll ds ≤ 100000 := bk
      have lds : ds.length ≤ PyData.bulkAll ds := len_bulk ds
      refine iteT ⟨.ref c, rfl, .ref a, rfl, .inl ⟨a, xs, rfl, .inr ha2.sq, c, l, (xs.length : Nat), m + 1, rfl, u2, by omega, by omega, by omega, fun i H3 hi u3 b3 => ?_⟩⟩
      have b13 := b12.trans b3
      have ha3 := ha.mono (b13.tk u)
      have hx3 := hx.mono (fo b13)
      have il : i < ds.length := by omega
      obtain ⟨di, hdi⟩ : ∃ di, ds[i]? = some di := ⟨_, List.getElem?_eq_getElem il⟩
      obtain ⟨xi, hxi, odi⟩ := hx3.get hdi
      have dall : PyData.depthAll ds < d := by
        have : PyData.depthAll ds + 1 < d + 1 := tn
        omega
      have lfs : lfDs L B ds = true := lf
      have bat := bulkAll_at hdi
      have hdm := List.mem_of_getElem? hdi
      have ddi : di.depth ≤ PyData.depthAll ds := depthAll_le.mp (Nat.le_refl _) di hdm
      have big : ∀ n : Nat, n ≤ 1000000 → n ≤ sizeLine := fun n h => Nat.le_trans h (by decide)
      refine ⟨.ref a, rfl, .int (i : Nat), rfl, (i : Nat), rfl, .inr (sl_any' ha3 fun p1 H4 s4 hp1 => ?_)⟩
      rw [cutV_to (n := i) (by omega)] at hp1
      have u4 := u3.same s4
      have b14 := b13.trans (but2_same s4)
      have ha4 := ha3.mono (tk_same s4)
      refine ⟨.ref c, rfl, .ref a, rfl, .int (i : Nat), rfl, a, xs, (i : Nat), xi, rfl, rfl, ha4.sq, atI_nat hxi, S, c, l, m + 2, xi, di, L, B, rfl, u4, by omega, nSc, nSl, odi.mono (fo_same s4), by omega, lfDs_iff.mp lfs di hdm, L5, B9, B1, by omega, fun x e H5 u5 b5 o5 be => ⟨by show 1 ≤ sizeLine; decide, fun p2 hp2 => ?_⟩⟩
      have b15 := b14.trans b5
      have s6 := same_new (o := .tup [x]) hp2
      refine cat_bigO (hp1.mono ((b5.tk u4).trans (tk_same s6))) (.inl upd_same) (big _ (by rw [List.length_take]; show _ + 1 ≤ _; omega)) fun p3 H6 s6' hp3 => ?_
      have s56 := s6.trans s6'
      have b16 := b15.trans (but2_same s56)
      have ha6 := ha.mono (b16.tk u)
      refine ⟨.ref a, rfl, .int (i : Nat), rfl, _, _, rfl, rfl, (i : Int) + 1, rfl, .inr ?_⟩
      rw [show (i : Int) + 1 = ((i + 1 : Nat) : Int) by omega]
      refine sl_any' ha6 fun p4 H7 s7 hp4 => ?_
      rw [cutV_from (n := i + 1) (by omega)] at hp4
      refine cat_bigO (hp3.mono (tk_same s7)) hp4 (big _ (by rw [List.length_append, List.length_take, List.length_drop]; show _ + 1 + _ ≤ _; omega)) fun p5 H8 s8 hp5 => ?_
      have s78 := s7.trans s8
      have b18 := b16.trans (but2_same s78)
      have o8 : OdAll K (fun a => S a ∨ H a = none) H8 (xs.take i ++ [x] ++ xs.drop (i + 1)) (ds.take i ++ [e] ++ ds.drop (i + 1)) := by
        have hx8 : OdAll K (fun a => S a ∨ H a = none) H8 xs ds := odAll_sub (fun a h => .inl h) (hx.mono (fo b18))
        have oe : Od K (fun a => S a ∨ H a = none) H8 x e := od_sub (fun a h => h.imp id (fun z => b14.free u4 z)) (o5.mono (fo_same (s56.trans s78)))
        exact ((hx8.take i).snoc oe).app (hx8.drop (i + 1))
      refine q _ (.tuple (ds.take i ++ [e] ++ ds.drop (i + 1))) H8 (((u5.same s56).same s78).mono (by omega)) b18 (.tup hp5 o8) ⟨?_⟩
      obtain ⟨bl, bd, bb⟩ := be.bn
      have e1 : (PyData.tuple ds).depth = PyData.depthAll ds + 1 := rfl
      have e2 : (PyData.tuple ds).bulk = PyData.bulkAll ds := rfl
      rw [e1, e2]
      refine bn_tup.mpr ⟨lfDs_iff.mpr fun y hy => ?_, depthAll_le.mpr fun y hy => ?_, ?_⟩
      · rw [List.mem_append, List.mem_append, List.mem_singleton] at hy
        rcases hy with (hy | rfl) | hy
        · exact lfD_mono (by omega) (by omega) (lfDs_iff.mp lfs y (List.mem_of_mem_take hy))
        · exact bl
        · exact lfD_mono (by omega) (by omega) (lfDs_iff.mp lfs y (List.mem_of_mem_drop hy))
      · rw [List.mem_append, List.mem_append, List.mem_singleton] at hy
        rcases hy with (hy | rfl) | hy
        · have := depthAll_le.mp (Nat.le_refl _) y (List.mem_of_mem_take hy); omega
        · omega
        · have := depthAll_le.mp (Nat.le_refl _) y (List.mem_of_mem_drop hy); omega
      · rw [bulkAll_app, bulkAll_app]
        have e3 : PyData.bulkAll [e] = e.bulk + 1 + 0 := rfl
        omega
    rintro σ' H1 ⟨rfl, u1, b1⟩
    have hN0 : ∀ {H' : Hp}, But2 c l H H' → Wel H' c l (m + 5) → ∀ a, H' a = none → (fun a => S a ∨ H a = none) a := fun b u' a h => .inr (b.free u' h)
    have nS' : ¬ (fun a => S a ∨ H a = none) c ∧ ¬ (fun a => S a ∨ H a = none) l := ⟨fun z => z.elim nSc u.w0, fun z => z.elim nSl u.l0⟩
    have odN : ∀ {H' : Hp}, But2 c l H H' → Od K (fun a => S a ∨ H a = none) H' v t := fun b => od_sub (fun a h => .inl h) (od.mono (fo b))
    generalize hS' : (fun a => S a ∨ H a = none) = S' at *
    have foS : ∀ {H1 H2 : Hp} {n}, Wel H1 c l n → But2 c l H1 H2 → Fo S' H1 H2 := fun u b => ⟨b.tk u, fun a o s e => b _ _ (fun z => nS'.1 (z ▸ s)) (fun z => nS'.2 (z ▸ s)) e⟩
    -- the way out
    have out : ∀ (σ1 : L2.St) (H1 : Hp) (N : Addr) (ws : List V) (es : List PyData) (mm : Int), σ1[0]? = some (some (.ref c)) → Wel H1 c l (m + 5) → But2 c l H H1 → N ≠ c → N ≠ l → H1 N = some (.lst ws) → OdAll K S' H1 ws es → (∀ e ∈ es, BentW L B t e) → mm = (ws.length : Nat) → 1 ≤ ws.length → ws.length ≤ 1000 → tCall sp_draw [] E0 (tCons (tVar 0) (tCons (tC (.int mm)) tNil)) σ1 H1 fun y H2 => rIxL K (.ref N) y H2 Q := fun σ1 H1 N ws es mm h0 u1 b1 Nc Nl eN ow pe hm l1 l2 =>
      od_draw mm h0 u1 (by omega) nS'.1 nS'.2 Nc Nl eN ow pe hm l1 l2 fun x e H' u' b' o' pe' => q x e H' (u'.mono (by omega)) (b1.trans b') o' pe'
    refine ⟨fun σ' H' => σ' = [some (.ref c), some v, none, none, none, none, none] ∧ Wel H' c l (m + 2) ∧ But2 c l H H', ?_, ?_⟩
    · refine ⟨v, rfl, v, _, .type (tyName t), _, jTup t, rfl, .ty _, od_ty (odN b1), kit_ty (kit_tup t), jTup t, rfl, ?_⟩
      rcases od.tup_or with ⟨a, xs, ds, rfl, rfl, ha0, hx0⟩ | n
      rotate_left
      · rw [n]
        exact iteF ⟨rfl, u1.mono (by omega), b1⟩
      obtain ⟨a', xs', ea, ha, hx⟩ := (odN b1).tuple_inv
      cases ea
      have lx := hx.len
      have bks : PyData.bulkAll ds ≤ 100000 := bk
      have lds : ds.length ≤ PyData.bulkAll ds := len_bulk ds
      refine iteT ⟨.ref c, rfl, c, l, 3, m + 1, rfl, u1, by omega, by decide, by decide, fun t1 H2 ht u2 b2 => ⟨_, _, rfl, rfl, _, rfl, ?_⟩⟩
      have b12 := b1.trans b2
      by_cases h0 : ((t1 : Nat) : Int) > 0
      rotate_left
      · rw [decide_eq_false h0]
        exact iteF ⟨rfl, u2, b12⟩
      rw [decide_eq_true h0]
      have ha2 := ha.mono (b2.tk u1)
      refine iteT ⟨.ref c, rfl, .ref a, rfl, .inl ⟨a, xs', rfl, .inr ha2.sq, _, _, rfl, rfl, c, l, _, m + 2, rfl, u2, by omega, by omega, by omega, fun i H3 hi u3 b3 => ?_⟩⟩
      have b13 := b12.trans b3
      have ha3 := ha2.mono (b3.tk u2)
      have hx3 := hx.mono (foS u1 (b2.trans b3))
      have lfs : lfDs L B ds = true := lf
      have e1 : (PyData.tuple ds).depth = PyData.depthAll ds + 1 := rfl
      have e2 : (PyData.tuple ds).bulk = PyData.bulkAll ds := rfl
      have okT : OkW ds (BentW L B (.tuple ds)) := by
        refine ⟨by omega, fun es hes hb => ⟨?_⟩, ⟨?_⟩⟩
        · rw [e1, e2]
          refine bn_tup.mpr ⟨lfDs_iff.mpr fun y hy => lfD_mono (by omega) (by omega) (lfDs_iff.mp lfs y (hes y hy)), depthAll_le.mpr fun y hy => ?_, by omega⟩
          have := depthAll_le.mp (Nat.le_refl _) y (hes y hy)
          omega
        · rw [e1, e2]
          exact ⟨lfDs_mono (by omega) (by omega) lfs, by show PyData.depthAll ds + 1 ≤ _; omega, by show PyData.bulkAll ds ≤ _; omega⟩
      have hS3 := hN0 b13 (u3.mono (by omega))
      refine set_lstB (K := K) (p := BentW L B (.tuple ds)) (n := 3) (S := S') (gda_cons (gw_1 rfl rfl ha3 hx3 okT) (gda_cons (gw_2 rfl rfl ha3 hx3 okT) (gda_cons (gw_3 rfl rfl ha3 hx3 okT) gda_nil))) (Same.refl _) (by decide) fun ws es H4 M s4 ows pes l3 hM _ => ?_
      have sM := same_new (o := .lst ws) hM
      have s34 := s4.trans sM
      have ows2 := ows.mono (fo_same (S := S') sM)
      have eM : (upd H4 M (.lst ws)) M = some (.lst ws) := upd_same
      generalize upd H4 M (.lst ws) = H5 at *
      have ha5 := ha3.mono (tk_same s34)
      have hx5 := hx3.mono (fo_same (S := S') s34)
      have u5 := u3.same s34
      have b15 := b13.trans (but2_same s34)
      refine cat_lstB (K := K) (S := S') (p := BentW L B (.tuple ds)) (n := 3) (i := 3) (gda_cons (gw_list rfl ha5 hx5 okT (fun a h => hS3 a (s34.free h))) (gda_cons (gw_dbl rfl ha5 hx5 okT) (gda_cons (gw_tri rfl ha5 hx5 okT) gda_nil))) (Same.refl _) (by decide) rfl eM (by omega) ows2 pes fun N xs2 ds2 H6 s6 hN eN o6 p6 l6 => ?_
      exact out _ H6 N xs2 ds2 6 rfl ((u5.same s6).mono (by omega)) (b15.trans (but2_same s6)) (u5.nw hN) (u5.nl hN) eN o6 p6 (by omega) (by omega) (by omega)
    rintro σ' H2 ⟨rfl, u2, b2⟩
    refine ⟨fun σ' H' => σ' = [some (.ref c), some v, none, none, none, none, none] ∧ Wel H' c l (m + 3) ∧ But2 c l H H', ?_, ?_⟩
    · refine ⟨v, rfl, v, _, .type (tyName t), _, jStr t, rfl, .ty _, od_ty (odN b2), kit_ty (kit_str t), jStr t, rfl, ?_⟩
      rcases od.str_or with ⟨z, rfl, rfl, lz⟩ | n
      rotate_left
      · rw [n]
        exact iteF ⟨rfl, u2.mono (by omega), b2⟩
      refine iteT ⟨.ref c, rfl, c, l, 3, m + 2, rfl, u2, by omega, by decide, by decide, fun t1 H3 ht u3 b3 => ⟨_, _, rfl, rfl, _, rfl, ?_⟩⟩
      have b13 := b2.trans b3
      by_cases h0 : ((t1 : Nat) : Int) > 0
      rotate_left
      · rw [decide_eq_false h0]
        exact iteF ⟨rfl, u3, b13⟩
      rw [decide_eq_true h0]
      have lf' : (decide (z.length ≤ L) && z.cps.toList.all fun c => decide (c < 128)) = true := lf
      rw [Bool.and_eq_true, decide_eq_true_iff] at lf'
      have pl : ∀ c ∈ z.cps.toList, c < 128 := fun c hc => of_decide_eq_true (List.all_eq_true.mp lf'.2 c hc)
      have zb : (PyData.str z).bulk = z.length := rfl
      have l5 : z.length ≤ 5000 := by omega
      have okS : ∀ y : Str, y.length ≤ 2 * z.length + 2 → (∀ c ∈ y.cps.toList, c < 128) → BentW L B (.str z) (.str y) := fun y hy hp => ⟨⟨by
        show (decide (y.length ≤ _) && y.cps.toList.all fun c => decide (c < 128)) = true
        rw [decide_eq_true (by omega), Bool.true_and]
        exact List.all_eq_true.mpr fun c hc => decide_eq_true (hp c hc), Nat.zero_le _, by show y.length ≤ _; rw [zb]; omega⟩⟩
      refine iteT ⟨.ref c, rfl, .str z, rfl, .inr ⟨z, rfl, Nat.le_trans l5 (by decide), _, _, rfl, rfl, c, l, _, m + 3, rfl, u3, by omega, by omega, by omega, fun i H4 hi u4 b4 => ?_⟩⟩
      refine ⟨.str signsS, rfl, .ref c, rfl, .str signsS, rfl, signsS, rfl, Nat.le_trans signs_len.2 (by decide), c, l, (signsS.length : Nat), m + 4, rfl, u4, by omega, by have := signs_len.1; omega, by have := signs_len.2; omega, fun j H5 hj u5 b5 => ?_⟩
      obtain ⟨ch, ech, hch⟩ := signs_at (d := j) (by omega)
      refine ⟨signsS, (j : Nat), ch, rfl, rfl, Nat.le_trans signs_len.2 (by decide), atI_nat ech, _, _, rfl, ?_⟩
      have b15 := (b13.trans b4).trans b5
      have eAt : ∀ (σ : L2.St), σ[2]? = some (some (.int (i : Nat))) → ∀ H (Q : Option Int → Hp → Prop), Q (some (i : Nat)) H → (tPart (tVar 2) : TO) σ H Q := fun σ h H Q q => ⟨.int (i : Nat), h, _, rfl, q⟩
      have eAt1 : ∀ (σ : L2.St), σ[2]? = some (some (.int (i : Nat))) → ∀ H (Q : Option Int → Hp → Prop), Q (some ((i : Int) + 1)) H → (tPart (tOp (rI0 fun i j => .int (i + j)) (tVar 2) (tC (.int 1))) : TO) σ H Q := fun σ h H Q q => ⟨.int (i : Nat), h, _, _, rfl, rfl, _, rfl, q⟩
      have eNo : ∀ (σ : L2.St) H (Q : Option Int → Hp → Prop), Q none H → (tNoPart : TO) σ H Q := fun σ H Q q => q
      refine set_lstB (K := K) (p := BentW L B (.str z)) (n := 4) (S := S') (gda_cons (gx_ins rfl rfl rfl l5 pl hch okS (eAt _ rfl) (eNo _)) (gda_cons (gx_ins rfl rfl rfl l5 pl hch okS (eAt1 _ rfl) (eNo _)) (gda_cons (gx_add rfl rfl l5 pl hch okS) (gda_cons (gx_lower rfl l5 pl okS) gda_nil)))) (Same.refl _) (by decide) fun ws es H6 M s6 ows pes l3 hM _ => ?_
      have sM := same_new (o := .lst ws) hM
      have s56 := s6.trans sM
      have ows2 := ows.mono (fo_same (S := S') sM)
      have eM : (upd H6 M (.lst ws)) M = some (.lst ws) := upd_same
      generalize upd H6 M (.lst ws) = H7 at *
      have u7 := u5.same s56
      have b17 := b15.trans (but2_same s56)
      refine cat_lstB (K := K) (S := S') (p := BentW L B (.str z)) (n := 4) (i := 3) (gda_cons (gx_upper rfl l5 pl okS) (gda_cons (gx_sl1 rfl l5 pl okS) (gda_cons (gx_sl2 rfl l5 pl okS) (gda_cons (gx_sl3 rfl l5 pl okS) gda_nil)))) (Same.refl _) (by decide) rfl eM (by omega) ows2 pes fun N xs2 ds2 H8 s8 hN eN o8 p8 l8 => ?_
      exact out _ H8 N xs2 ds2 8 rfl (u7.same s8) (b17.trans (but2_same s8)) (u7.nw hN) (u7.nl hN) eN o8 p8 (by omega) (by omega) (by omega)
    rintro σ' H3 ⟨rfl, u3, b3⟩
    refine ⟨fun σ' H' => σ' = [some (.ref c), some v, none, none, none, none, none] ∧ Wel H' c l (m + 4) ∧ But2 c l H H', ?_, ?_⟩
    · refine ⟨v, rfl, v, _, .type (tyName t), _, jIntB t, rfl, .ty _, od_ty (odN b3), kit_ty (kit_int t), jIntB t, rfl, ?_⟩
      cases h3 : jIntB t with
      | false => exact iteF ⟨rfl, u3.mono (by omega), b3⟩
      | true =>
      refine iteT ⟨.ref c, rfl, c, l, 2, m + 3, rfl, u3, by omega, by decide, by decide, fun t1 H4 ht u4 b4 => ⟨_, _, rfl, rfl, _, rfl, ?_⟩⟩
      have b14 := b3.trans b4
      by_cases h0 : ((t1 : Nat) : Int) > 0
      rotate_left
      · rw [decide_eq_false h0]
        exact iteF ⟨rfl, u4, b14⟩
      rw [decide_eq_true h0]
      obtain ⟨n, hn, nb⟩ : ∃ n, numV v = some n ∧ n.natAbs < 2 ^ B := by
        cases od <;> first | (cases h3; done) | skip
        · rename_i b
          refine ⟨_, rfl, ?_⟩
          have : 1 < 2 ^ B := Nat.one_lt_two_pow (by omega)
          cases b <;> (show (_ : Nat) < _; omega)
        · exact ⟨_, rfl, of_decide_eq_true lf⟩
      have okI : ∀ i : Int, i.natAbs < 2 ^ (B + 31) → BentW L B t (.int i) := okI_of
      have oks : ∀ y : Str, y.length ≤ 40 → (∀ c ∈ y.cps.toList, c < 128) → BentW L B t (.str y) := fun y hy hp => ⟨⟨by
        show (decide (y.length ≤ _) && y.cps.toList.all fun c => decide (c < 128)) = true
        rw [decide_eq_true (by omega), Bool.true_and]
        exact List.all_eq_true.mpr fun c hc => decide_eq_true (hp c hc), Nat.zero_le _, by show y.length ≤ _; omega⟩⟩
      have B18 : B ≤ 1800 := by omega
      refine iteT ?_
      refine lst_ix (K := K) (p := BentW L B t) (n := 5) (S := S') (int5 rfl hn B18 B1 nb okI oks) (Same.refl _) (by decide) fun ws es H6 M s6 ows pes l3 hM => ?_
      have sM := same_new (o := .lst ws) hM
      have s56 := s6.trans sM
      have ows2 := ows.mono (fo_same (S := S') sM)
      have eM : (upd H6 M (.lst ws)) M = some (.lst ws) := upd_same
      have hM4 := s6.free hM
      generalize upd H6 M (.lst ws) = H7 at *
      exact out _ H7 M ws es 5 rfl ((u4.same s56).mono (by omega)) (b14.trans (but2_same s56)) (u4.nw hM4) (u4.nl hM4) eM ows2 pes (by omega) (by omega) (by omega)
    rintro σ' H4 ⟨rfl, u4, b4⟩
    have hS4 := hN0 b4 (u4.mono (by omega))
    have sb : ∀ e, Bn 12 110 2 25 e → BentW L B t e := fun e h => small_bentW h
    refine set_lstB (K := K) (p := BentW L B t) (n := 14) (S := S') (odd1 sb) (Same.refl _) (by decide) fun ws es H5 M s5 ows pes l14 hM _ => ?_
    have sM := same_new (o := .lst ws) hM
    have s45 := s5.trans sM
    have ows2 := ows.mono (fo_same (S := S') sM)
    have eM : (upd H5 M (.lst ws)) M = some (.lst ws) := upd_same
    generalize upd H5 M (.lst ws) = H6 at *
    have u6 := u4.same s45
    have b6 := b4.trans (but2_same s45)
    have hS6 : ∀ a, H6 a = none → S' a := fun a h => hS4 a (s45.free h)
    refine cat_lstB (K := K) (S := S') (p := BentW L B t) (n := 15) (i := 6) (odd2 sb hS6) (Same.refl _) (by decide) rfl eM (by omega) ows2 pes fun N xs2 ds2 H7 s7 hN eN o7 p7 l7 => ?_
    have u7 := u6.same s7
    have b7 := b6.trans (but2_same s7)
    have hS7 : ∀ a, H7 a = none → S' a := fun a h => hS6 a (s7.free h)
    have od7 := odN b7
    have k1 : BentW L B t (.tuple [t]) := ⟨bn_tup.mpr ⟨by show (lfD _ _ t && true) = true; rw [lfD_mono (by omega) (by omega) lf]; rfl, by show max t.depth 0 ≤ _; omega, by show t.bulk + 1 + 0 ≤ _; omega⟩⟩
    have k2 : BentW L B t (.list [t]) := ⟨⟨by show (lfD _ _ t && true) = true; rw [lfD_mono (by omega) (by omega) lf]; rfl, by show max t.depth 0 + 1 ≤ _; omega, by show t.bulk + 1 + 0 ≤ _; omega⟩⟩
    have k3 : BentW L B t (.tuple [t, t]) := ⟨bn_tup.mpr ⟨by show (lfD _ _ t && (lfD _ _ t && true)) = true; rw [lfD_mono (by omega) (by omega) lf]; rfl, by show max t.depth (max t.depth 0) ≤ _; omega, by show t.bulk + 1 + (t.bulk + 1 + 0) ≤ _; omega⟩⟩
    refine cat_lstB (K := K) (S := S') (p := BentW L B t) (n := 7) (i := 6) (odd3 sb hS7 rfl od7 k1 k2 k3) (Same.refl _) (by decide) rfl eN (by omega) o7 p7 fun N2 xs3 ds3 H8 s8 hN2 eN2 o8 p8 l8 => ?_
    have u8 := u7.same s8
    have b8 := b7.trans (but2_same s8)
    have nc2 := u7.nw hN2
    have nl2 := u7.nl hN2
    refine ⟨.ref N2, rfl, .ref c, rfl, .ref N2, rfl, N2, xs3, rfl, .inl (.of eN2), c, l, (xs3.length : Nat), m + 4, rfl, u8, by omega, by omega, by omega, fun i H9 hi u9 b9 => ?_⟩
    obtain ⟨x, hx⟩ : ∃ x, xs3[i]? = some x := ⟨_, List.getElem?_eq_getElem (by omega)⟩
    obtain ⟨e, he, oe⟩ := (o8.mono (foS u8 b9)).getV hx
    exact ⟨N2, xs3, (i : Nat), x, rfl, rfl, .of (b9 _ _ nc2 nl2 eN2), atI_nat hx, q x e H9 (u9.mono (by omega)) (b8.trans b9) oe (p8 e (List.mem_of_getElem? he))⟩
end
end K63

set_option Elab.async false
set_option linter.all false
set_option maxRecDepth 100000
set_option exponentiation.threshold 20000
set_option pp.deepTerms false
set_option pp.deepTerms.threshold 8
namespace K63
open PySem PySem.Spec PyProof.Rows L2 Ly Mt
/-! ### law k03 -/
abbrev P1 (d : PyData) : Prop := Bn 300 560 12 4000 d
def bnC (e : PyData) : Bool := lfD 300 560 e && (decide (e.depth ≤ 12) && decide (e.bulk ≤ 4000))
theorem p1_of {e : PyData} (h : bnC e = true) : P1 e := by
  unfold bnC at h
  rw [Bool.and_eq_true, Bool.and_eq_true, decide_eq_true_iff, decide_eq_true_iff] at h
  exact ⟨h.1, h.2.1, h.2.2⟩
theorem bn_ints : ∀ {es : List Int}, (∀ e ∈ es, DrI e) → lfDs 10 340 (es.map .int) = true ∧ PyData.depthAll (es.map .int) ≤ 0 ∧ PyData.bulkAll (es.map .int) ≤ es.length
  | [], _ => ⟨rfl, Nat.le_refl _, Nat.le_refl _⟩
  | e :: es, h => by
    obtain ⟨h1, h2, h3⟩ := bn_ints (es := es) fun x hx => h x (List.mem_cons_of_mem _ hx)
    have h0 : lfD 10 340 (.int e) = true := decide_eq_true (h e (List.mem_cons_self ..))
    refine ⟨by show (lfD 10 340 (.int e) && lfDs 10 340 (es.map .int)) = true; rw [h0, h1]; rfl, ?_, ?_⟩
    · show max 0 _ ≤ 0
      omega
    · show 0 + 1 + _ ≤ es.length + 1
      omega
theorem bn_rw {r : Rw} (h : LnOk r) : Bn 10 340 2 16 (rwD r) := by
  obtain ⟨h1, h2, h3⟩ := bn_ints h.ents
  have h0 : lfD 10 340 (.str r.1) = true := lfD_mono (by decide) (by decide) (lf_name h.nm)
  have h4 := h.few
  have h5 := h.nm.len.2
  refine bn_tup.mpr ⟨by show (lfD 10 340 (.str r.1) && (lfDs 10 340 (r.2.map .int) && true)) = true; rw [h0, h1]; rfl, ?_, ?_⟩
  · show max 0 (max (PyData.depthAll (r.2.map .int) + 1) 0) ≤ 1
    omega
  · show r.1.length + 1 + (PyData.bulkAll (r.2.map .int) + 1 + 0) ≤ 16
    omega
theorem bn_rws {rows : List Rw} (lo : ∀ r ∈ rows, LnOk r) {es : List PyData} {n : Nat} (h : ∀ e ∈ es, e ∈ rows.map rwD) (hl : es.length ≤ n) : Bn 10 340 3 (17 * n) (.tuple es) :=
  bn_list (t := 2) (c := 16) (n := n) (fun d hd => by
    obtain ⟨r, hr, rfl⟩ := List.mem_map.mp (h d hd)
    exact bn_rw (lo r hr)) hl
theorem p1_up {d : PyData} (h : Bn 10 340 3 (17 * 200) d) : P1 d := h.mono (by decide) (by decide) (by decide) (by decide)
theorem p1_pair {ks : List Kd} (ok : KindsOk ks) {d : PyData} (h : P1 d) : (PyData.tuple [ksD ks, d]).showable = true ∧ (PyData.tuple [ksD ks, d]).shown.length ≤ sizeLine ∧ (PyData.tuple [ksD ks, d]).depth ≤ 15 := by
  have b := bn_ksW ok.wd
  have b1 : Bn 300 560 13 8100 (.tuple [ksD ks, d]) := by
    refine bn_tup.mpr ⟨?_, ?_, ?_⟩
    · show (lfD 300 560 (ksD ks) && (lfD 300 560 d && true)) = true
      rw [lfD_mono (by decide) (by decide) b.lf, h.lf]; rfl
    · have := b.dp
      have := h.dp
      show max (ksD ks).depth (max d.depth 0) ≤ 12
      omega
    · have := b.bk
      have := h.bk
      show (ksD ks).bulk + 1 + (d.bulk + 1 + 0) ≤ 8100
      omega
  refine ⟨lf_showable (by decide) (by decide) b1.lf, ?_, Nat.le_trans b1.dp (by decide)⟩
  have h1 := PyData.shown_le_bulk 561 (by decide) _ (lf_short (C := 561) (by decide) (by decide) b1.lf)
  have h3 := b1.bk
  have h4 : (561 + 2) * (PyData.tuple [ksD ks, d]).bulk ≤ 563 * 8100 := Nat.mul_le_mul_left _ h3
  have h5 : 563 * 8100 + 561 ≤ sizeLine := by decide
  omega
theorem lone_ok {z : Str} (h : High z) : KindsOk [(z, [(z, [z])])] := by
  refine ⟨⟨Nat.le_refl 1, show 1 ≤ 6 by decide⟩, fun k hk => ?_, fun k hk => ?_, fun k hk m hm => ?_, by simp, by simp [allMk], fun k hk m hm f hf => ?_⟩
  · rw [List.mem_singleton.mp hk]; exact h
  · rw [List.mem_singleton.mp hk]; exact ⟨Nat.le_refl 1, show 1 ≤ 6 by decide⟩
  · rw [List.mem_singleton.mp hk] at hm
    rw [List.mem_singleton.mp hm]
    exact ⟨h, show 1 ≤ 4 by decide⟩
  · rw [List.mem_singleton.mp hk] at hm
    rw [List.mem_singleton.mp hm] at hf
    rw [List.mem_singleton.mp hf]
    exact .inr (List.mem_singleton.mpr rfl)
theorem cutV_toN {ws : List V} (n : Nat) : cutV ws none (some (n : Int)) = ws.take n := by
  by_cases h : n ≤ ws.length
  · exact cutV_to h
  · unfold cutV
    rw [HT.sIx_none, HT.sIx_nat, Nat.min_eq_right (by omega), List.drop_zero, Nat.sub_zero, List.take_of_length_le (Nat.le_refl _), List.take_of_length_le (by omega)]
section
variable {K : PySem.W.Frag} {S : Addr → Prop} {H0 : Hp} {σ : L2.St} {pl : Addr} {rows : List Rw}
theorem ten (hS : ∀ a, H0 a = none → S a) (h6 : σ[6]? = some (some (.ref pl))) (iv : Im K H0 (.ref pl) (rwsD rows)) (lo : ∀ r ∈ rows, LnOk r) (l97 : rows.length ≤ 97) :
    GdA K S H0 σ P1 10 (tCons (tVar 6) (tCons (tSl (rSlA K) (tVar 6) tNoPart (tPart (tC (.int 96)))) (tCons (tSl (rSlA K) (tVar 6) tNoPart (tPart (tC (.int 1)))) (tCons (tSl (rSlA K) (tVar 6) (tPart (tC (.int 1))) tNoPart) (tCons (tOp (rRep3 K) (tVar 6) (tC (.int 2))) (tCons (tCB (rListB K) (tCons (tVar 6) tNil)) (tCons (tTup tNil) (tCons (tC .non) (tCons (tC (.int 0)) (tCons (tOp (rCatA K) (tVar 6) (tSl (rSlA K) (tVar 6) (tPart (tUn (rU fun i => .int (-i)) (tC (.int 1)))) tNoPart)) tNil)))))))))) := by
  have b0 := bn_rws (n := 97) lo (es := rows.map rwD) (fun _ h => h) (by rw [List.length_map]; exact l97)
  have o6 : Od K S H0 (.ref pl) (rwsD rows) := Im.od _ (sh_lf (by decide) (by decide) b0.lf) iv
  obtain ⟨p1, xs, e1, ha, hx⟩ := o6.tuple_inv
  cases e1
  have lx : xs.length = rows.length := by rw [hx.len, List.length_map]
  have p0 : P1 (.tuple (rows.map rwD)) := b0.mono (by decide) (by decide) (by decide) (by decide)
  have sl : ∀ {lo' hi' : Option Int} {H : Hp} {Q : VK}, Same H0 H → (∀ b es H', Same H H' → ITup K H' b (cutV xs lo' hi') → OdAll K S H' (cutV xs lo' hi') es → (∀ e ∈ es, e ∈ rows.map rwD) → es.length ≤ 97 → Q (.ref b) H') → rSlA K (.ref pl) lo' hi' H Q := fun {lo' hi' H Q} s q => by
    refine sl_any' (ha.mono (tk_same s)) fun b H1 s1 hb1 => ?_
    obtain ⟨es, o1, m1, _⟩ := cut_od (hx.mono (fo_same (s.trans s1))) lo' hi'
    have h4 := cutV_length xs lo' hi'
    have := o1.len
    exact q b es H1 s1 hb1 o1 m1 (by omega)
  have pp : ∀ {es : List PyData}, (∀ e ∈ es, e ∈ rows.map rwD) → es.length ≤ 200 → P1 (.tuple es) := fun h hl => p1_up (bn_rws lo h hl)
  refine gda_cons (gd_var h6 o6 p0) (gda_cons (fun H Q s q => ?_) (gda_cons (fun H Q s q => ?_) (gda_cons (fun H Q s q => ?_) (gda_cons (fun H Q s q => ?_) (gda_cons (fun H Q s q => ?_) (gda_cons (gd_tup0 (p1_of (by decide +kernel))) (gda_cons (gd_non (p1_of (by decide +kernel))) (gda_cons (gd_int 0 (by decide) (p1_of (by decide +kernel))) (gda_cons (fun H Q s q => ?_) gda_nil)))))))))
  · exact ⟨.ref pl, h6, 96, rfl, sl s fun b es H1 s1 tb ob mb lb => q _ (.tuple es) H1 s1 (.tup tb ob) (pp mb (by omega))⟩
  · exact ⟨.ref pl, h6, 1, rfl, sl s fun b es H1 s1 tb ob mb lb => q _ (.tuple es) H1 s1 (.tup tb ob) (pp mb (by omega))⟩
  · refine ⟨.ref pl, h6, 1, rfl, ?_⟩
    dsimp only [tNoPart]
    exact sl s fun b es H1 s1 tb ob mb lb => q _ (.tuple es) H1 s1 (.tup tb ob) (pp mb (by omega))
  · refine ⟨.ref pl, h6, pl, 2, xs, rfl, rfl, (ha.mono (tk_same s)).sq, by decide, by decide, by omega, fun e0 => q _ _ H (Same.refl H) (o6.mono (fo_same s)) p0, fun p hp => ?_⟩
    have sp := same_new (o := .tup (List.replicate (2 : Int).toNat xs).flatten) hp
    have hx1 := hx.mono (fo_same (s.trans sp))
    refine q _ (.tuple (rows.map rwD ++ rows.map rwD)) _ sp (.tup (.inl (by rw [rep2]; exact upd_same)) (hx1.app hx1)) (pp (fun e h => (List.mem_append.mp h).elim id id) (by rw [List.length_append, List.length_map]; omega))
  · exact ⟨.ref pl, h6, pl, xs, rfl, (ha.mono (tk_same s)).sq, fun l hl hb => q _ (.list (rows.map rwD)) _ (same_new hl) (.lst (hS l (s.free hl)) hb upd_same (hx.mono (fo_same (s.trans (same_new hl))))) ⟨p0.lf, p0.dp, p0.bk⟩⟩
  · refine ⟨.ref pl, h6, .ref pl, h6, 1, rfl, -1, rfl, ?_⟩
    dsimp only [tNoPart]
    refine sl s fun b es H1 s1 tb ob mb lb => ?_
    refine cat_bigO (ha.mono (tk_same (s.trans s1))) tb (Nat.le_trans (show _ ≤ 200 by have := ob.len; omega) (by decide)) fun c H2 s2 hc => q _ (.tuple (rows.map rwD ++ es)) H2 (s1.trans s2) (.tup hc (((hx.mono (fo_same (s.trans s1))).app ob).mono (fo_same s2))) (pp (fun e h => (List.mem_append.mp h).elim id (mb e)) (by rw [List.length_append, List.length_map]; omega))
end
section
variable {P : Program} {w : World} {K : PySem.W.Frag} {mg : Str → Option Value} {base : Heap}
abbrev s_law : Stmt := topS 47
theorem sc_law : FnScope ["script", "well", "turn", "family", "lone", "table", "lines", "values", "k", "turned", "bent", "value"] ["script"] (defScope s_law) := ⟨rfl, rfl, rfl, by decide +kernel, rfl, by decide +kernel, by decide +kernel⟩
def sp_law (K : PySem.W.Frag) : Sp := fun vs H Q _ => ∃ (a : Addr) (ns : List Int), vs = [.ref a] ∧ SqL K H a (ns.map V.int) ∧ ns.length ≤ 63 ∧ (∀ c ∈ ns, Cell c) ∧ ∀ H', Q (.bl true) H'
set_option maxHeartbeats 4000000 in
theorem ok_law {f : Addr} {fd : FuncData} {k : Nat} (F : Fun K "law" "law" s_law f fd) (T : Tx K mg){k1 : Nat} (D__law_well : Def P w K mg base k1 "_law_well" s__law_well ["script"] (sp_well K)) {k2 : Nat} (D__law_kinds : Def P w K mg base k2 "_law_kinds" s__law_kinds ["well", "most"] (sp_wkinds K)) {k3 : Nat} (D__law_draw : Def P w K mg base k3 "_law_draw" s__law_draw ["well", "many"] sp_draw) {k4 : Nat} (D__law_bent : Def P w K mg base k4 "_law_bent" s__law_bent ["well", "value"] (sp_wbent K 10)) {k5 : Nat} (D__law_value_right : DefG P w K mg base k5 "_law_value_right" s__law_value_right ["family", "value"] (sl_right K)) {k6 : Nat} (D__law_table : Def P w K mg base k6 "_law_table" s__law_table ["family"] (sl_table K)) {k7 : Nat} (D__law_lines : Def P w K mg base k7 "_law_lines" s__law_lines ["well", "family", "count"] (sl_lines K)) {k8 : Nat} (D__law_turned : Def P w K mg base k8 "_law_turned" s__law_turned ["well", "table", "lines"] (sl_turned K)) (e1 : k1 ≤ k) (e2 : k2 ≤ k) (e3 : k3 ≤ k) (e4 : k4 ≤ k) (e5 : k5 ≤ k) (e6 : k6 ≤ k) (e7 : k7 ≤ k) (e8 : k8 ≤ k) : Kept P w K mg base (k + 1) f fd ["script"] (sp_law K) := by
  have nd := sc_law.nd
  refine kept_of F sc_law (fun vs H Q E h => ?_) (fun cdv A outer s H vs Q E hr calm h => ?_)
  · obtain ⟨_, _, rfl, _⟩ := h
    rfl
  · obtain ⟨a, ns, rfl, hS0, n63, hcell, q⟩ := h
    refine ⟨_, (pss_cons (ps_set (i := 1) nd rfl (.inl rfl) (pe_def D__law_well (hr.mono (by omega)) rfl (pa_cons (pv 0) pa_nil)))
      (pss_cons (ps_for PassesOwn.never rfl (pi_range1 rfl T.m_range (pa_cons pe_int pa_nil)) (pg_name (i := 2) nd rfl (.inl rfl))
        (pss_cons (ps_set (i := 3) nd rfl (.inr rfl) (pe_def D__law_kinds (hr.mono (by omega)) rfl (pa_cons (pv 1) (pa_cons (pe_ix (kix_list K) (pe_lstB (pa_cons pe_int (pa_cons pe_int (pa_cons pe_int pa_nil)))) (pv 2) (fun _ _ => rfl)) pa_nil))))
        (C8.pss_cut (ps_if (PW.pt (pw_and (pt_cmpR op_eq (pv 2) pe_int (nomark _)) (pw_and1 (pt_cmpR op_eq (pe_def D__law_draw (hr.mono (by omega)) rfl (pa_cons (pv 1) (pa_cons pe_int pa_nil))) pe_int (nomark _)))))
          (pss_cons (ps_set (i := 4) nd rfl (.inl rfl) (pe_ix (kix_tup K) (pe_ix (kix_tup K) (pv 3) pe_int (fun _ _ => rfl)) pe_int (fun _ _ => rfl)))
          (pss_one (ps_set (i := 3) nd rfl (.inr rfl) (pe_tup (pa_cons (pe_tup (pa_cons (pv 4) (pa_cons (pe_tup (pa_cons (pe_tup (pa_cons (pv 4) (pa_cons (pe_tup (pa_cons (pv 4) pa_nil)) pa_nil))) pa_nil)) pa_nil))) pa_nil)))))
          pss_nil)
        (pss_cons (ps_set (i := 5) nd rfl (.inl rfl) (pe_def D__law_table (hr.mono (by omega)) rfl (pa_cons (pv 3) pa_nil)))
        (pss_cons (ps_set (i := 6) nd rfl (.inl rfl) (pe_def D__law_lines (hr.mono (by omega)) rfl (pa_cons (pv 1) (pa_cons (pv 3) (pa_cons (pe_op op_sub (pe_ix (kix_list K) (pe_lstB (pa_cons pe_int (pa_cons pe_int (pa_cons pe_int pa_nil)))) (pv 2) (fun _ _ => rfl)) (pe_def D__law_draw (hr.mono (by omega)) rfl (pa_cons (pv 1) (pa_cons pe_int pa_nil)))) pa_nil)))))
        (pss_cons (ps_set (i := 7) nd rfl (.inl rfl) (pe_lstB (pa_cons (pv 6) (pa_cons (pe_slice (ksl_tupA K) (pv 6) po_none (po_some pe_int)) (pa_cons (pe_slice (ksl_tupA K) (pv 6) po_none (po_some pe_int)) (pa_cons (pe_slice (ksl_tupA K) (pv 6) (po_some pe_int) po_none) (pa_cons (pe_op (kop_rep3 K) (pv 6) pe_int) (pa_cons (pe_callTy (kcall_listB K) (by rfl) T.m_list (by decide +kernel) (pa_cons (pv 6) pa_nil)) (pa_cons (pe_tup pa_nil) (pa_cons pe_non (pa_cons pe_int (pa_cons (pe_op (kop_catA K) (pv 6) (pe_slice (ksl_tupA K) (pv 6) (po_some (pe_un un_neg pe_int)) po_none)) pa_nil))))))))))))
        (pss_cons (ps_for PassesOwn.never rfl (pi_range1 rfl T.m_range (pa_cons pe_int pa_nil)) (pg_name (i := 8) nd rfl (.inl rfl))
          (pss_cons (ps_set (i := 9) nd rfl (.inl rfl) (pe_def D__law_turned (hr.mono (by omega)) rfl (pa_cons (pv 1) (pa_cons (pv 5) (pa_cons (pe_slice (ksl_tupA K) (pv 6) po_none (po_some (pe_op op_sub pe_int (pe_def D__law_draw (hr.mono (by omega)) rfl (pa_cons (pv 1) (pa_cons pe_int pa_nil)))))) pa_nil)))))
          (pss_cons (ps_set (i := 10) nd rfl (.inl rfl) (pe_def D__law_bent (hr.mono (by omega)) rfl (pa_cons (pv 1) (pa_cons (pe_slice (ksl_tupA K) (pv 6) po_none (po_some pe_int)) pa_nil))))
          (pss_one (ps_set (i := 7) nd rfl (.inl rfl) (pe_op op_cat (pv 7) (pe_lstB (pa_cons (pv 9) (pa_cons (pe_def D__law_turned (hr.mono (by omega)) rfl (pa_cons (pv 1) (pa_cons (pv 5) (pa_cons (pv 9) pa_nil)))) (pa_cons (pv 10) (pa_cons (pe_def D__law_bent (hr.mono (by omega)) rfl (pa_cons (pv 1) (pa_cons (pv 10) pa_nil))) pa_nil)))))))))))
        (pss_one (ps_if (pt_not (pt_val (pe_callB (kcr_all K) (by rfl) T.m_all (by decide +kernel) (pa_cons (pe_lc (own := [("value", 11)]) (g := gName 11) (tt := tYes) rfl nd (kpi_list K (pv 7)) (blkOk_by (by rfl)) (fun _ _ _ _ _ => (pg_name (i := 11) nd rfl (.inl rfl))) (fun _ _ _ _ _ => pts_nil) (fun _ _ _ _ _ => (pe_defG D__law_value_right (hr.mono (by omega)) calm rfl (pa_cons (pv 3) (pa_cons (pv 11) pa_nil))))) pa_nil))))
          (pss_one (ps_ret pe_bl))
          pss_nil)))))))))
      (pss_one (ps_ret pe_bl)))), ?_⟩
    refine ⟨.ref a, rfl, a, ns, rfl, hS0, n63, fun c l H1 s1 fc fl u1 => ?_⟩
    have noNew : ∀ {Hx : Hp} {n : Nat}, Wel Hx c l n → ∀ a, Hx a = none → (a ≠ c ∧ a ≠ l) := fun u a h => ⟨u.nw h, u.nl h⟩
    have foB : ∀ {Hx Hy : Hp} {n : Nat}, Wel Hx c l n → But2 c l Hx Hy → Fo (fun a => a ≠ c ∧ a ≠ l) Hx Hy := fun u b => ⟨b.tk u, fun a o s e => b a o s.1 s.2 e⟩
    have nSc : ¬ (fun a => a ≠ c ∧ a ≠ l) c := fun z => z.1 rfl
    have nSl : ¬ (fun a => a ≠ c ∧ a ≠ l) l := fun z => z.2 rfl
    refine ⟨3, rfl, by decide, by decide, ?_⟩
    refine for_it (walk_range (lo := 0) (n := (3 : Int).toNat)) (fun i σ Hx => ∃ (y2 y3 y4 y5 y6 y7 y8 y9 y10 : Option V), σ = [some (.ref a), some (.ref c), y2, y3, y4, y5, y6, y7, y8, y9, y10, none] ∧ Wel Hx c l (20000 * i)) ⟨_, _, _, _, _, _, _, _, _, rfl, u1⟩ (fun _ _ _ _ _ => trivial) ?_ ?_
    · rintro i x σ Hx Hy hi ⟨y2, y3, y4, y5, y6, y7, y8, y9, y10, rfl, u⟩ ⟨rfl, rfl⟩
      have hi3 : i < 3 := hi
      show gName 2 (V.int ((0 : Int) + (i : Nat))) _ _ _
      rw [show (0 : Int) + (i : Nat) = (i : Nat) by omega]
      refine ⟨.ref c, rfl, by show 3 ≤ sizeLine; decide, fun L hL _ => ⟨.int (i : Nat), rfl, ?_⟩⟩
      have sL := same_new (o := .lst [.int 1, .int 3, .int 6]) hL
      have eL : (upd Hy L (.lst [.int 1, .int 3, .int 6])) L = some (.lst ([1, 3, 6].map V.int)) := upd_same
      obtain ⟨m, hm, mm⟩ := int_at [1, 3, 6] (d := i) (by show i < 3; omega)
      have m6 : 1 ≤ m ∧ m ≤ 6 := (by decide : ∀ m ∈ [(1 : Int), 3, 6], 1 ≤ m ∧ m ≤ 6) m mm
      refine ⟨L, _, (i : Nat), _, rfl, rfl, .of eL, atI_nat hm, c, l, 20000 * i, m, rfl, u.same sL, by omega, m6.1, m6.2, fun pf ks H4 u4 b4 ok4 i4 => ?_⟩
      refine ⟨fun σ' H' => ∃ (pf : Addr) (ks : List Kd) (y4 : Option V), σ' = [some (.ref a), some (.ref c), some (.int (i : Nat)), some (.ref pf), y4, y5, y6, y7, y8, y9, y10, none] ∧ Wel H' c l (20000 * i + 2001) ∧ KindsOk ks ∧ Im K H' (.ref pf) (ksD ks), ?_, ?_⟩
      · refine ⟨.int (i : Nat), rfl, rfl, _, rfl, ?_⟩
        rw [dec_le]
        cases h2 : decide (((i : Nat) : Int) = 2) with
        | false => exact iteF ⟨pf, ks, _, rfl, u4.mono (by omega), ok4, i4⟩
        | true =>
          refine iteT ⟨.ref c, rfl, c, l, 2, _, rfl, u4, by omega, by decide, by decide, fun d H5 hd u5 b5 => ⟨rfl, _, rfl, ?_⟩⟩
          have i5 := Im.mono (b5.tk u4) _ i4
          rw [dec_le]
          cases h3 : decide (((d : Nat) : Int) = 0) with
          | false => exact iteF ⟨pf, ks, _, rfl, u5.mono (by omega), ok4, i5⟩
          | true =>
            obtain ⟨pa, xs, ep, ha, hx⟩ := i5.tuple_inv
            obtain rfl : pf = pa := by injection ep
            have kf := ok4.few
            obtain ⟨kd, hkd⟩ : ∃ kd, ks[0]? = some kd := ⟨_, List.getElem?_eq_getElem (by omega)⟩
            obtain ⟨x, ex, ix⟩ := all_at hx hkd
            obtain ⟨pk, z1, z2, rfl, hpk, iz1, iz2⟩ := im_pair ix
            obtain rfl := iz1.str_inv
            have hh := ok4.nm kd (List.mem_of_getElem? hkd)
            refine iteT ⟨.ref pf, rfl, pf, _, 0, .ref pk, rfl, rfl, ha.sq, atI_nat (j := 0) ex, pk, _, 0, _, rfl, rfl, hpk.sq, atI_nat (j := 0) rfl, ?_⟩
            refine ⟨.str kd.1, rfl, .str kd.1, rfl, .str kd.1, rfl, by show 1 ≤ sizeLine; decide, fun t1 h1 => ⟨by show 2 ≤ sizeLine; decide, fun t2 h2 => ⟨by show 1 ≤ sizeLine; decide, fun t3 h3 => ⟨by show 2 ≤ sizeLine; decide, fun t4 h4 => ⟨by show 1 ≤ sizeLine; decide, fun t5 h5 => ?_⟩⟩⟩⟩⟩
            have q1 := same_new (o := .tup [.str kd.1]) h1
            have j1 : Im K (upd H5 t1 (.tup [.str kd.1])) (.ref t1) (sD [kd.1]) := .tup (.inl upd_same) (.cons (.str _) .nil)
            generalize upd H5 t1 (.tup [.str kd.1]) = G1 at *
            have q2 := same_new (o := .tup [.str kd.1, .ref t1]) h2
            have j2 : Im K (upd G1 t2 (.tup [.str kd.1, .ref t1])) (.ref t2) (mkD (kd.1, [kd.1])) := .tup (.inl upd_same) (.cons (.str _) (.cons (Im.mono (tk_same q2) _ j1) .nil))
            generalize upd G1 t2 (.tup [.str kd.1, .ref t1]) = G2 at *
            have q3 := same_new (o := .tup [.ref t2]) h3
            have j3 : Im K (upd G2 t3 (.tup [.ref t2])) (.ref t3) (.tuple [mkD (kd.1, [kd.1])]) := .tup (.inl upd_same) (.cons (Im.mono (tk_same q3) _ j2) .nil)
            generalize upd G2 t3 (.tup [.ref t2]) = G3 at *
            have q4 := same_new (o := .tup [.str kd.1, .ref t3]) h4
            have j4 : Im K (upd G3 t4 (.tup [.str kd.1, .ref t3])) (.ref t4) (kdD (kd.1, [(kd.1, [kd.1])])) := .tup (.inl upd_same) (.cons (.str _) (.cons (Im.mono (tk_same q4) _ j3) .nil))
            generalize upd G3 t4 (.tup [.str kd.1, .ref t3]) = G4 at *
            have q5 := same_new (o := .tup [.ref t4]) h5
            exact ⟨t5, [(kd.1, [(kd.1, [kd.1])])], _, rfl, ((((u5.same q1).same q2).same q3).same q4).same q5 |>.mono (by omega), lone_ok hh, .tup (.inl upd_same) (.cons (Im.mono (tk_same q5) _ j4) .nil)⟩
      · rintro σ' H5 ⟨pf, ks, y4, rfl, u5, ok, i5⟩
        refine ⟨.ref pf, rfl, .ref pf, ks, rfl, i5, ok, fun t H6 s6 _ tb => ?_⟩
        have u6 := u5.same s6
        have i6 := Im.mono (tk_same s6) _ i5
        refine ⟨.ref c, rfl, .ref pf, rfl, by show 3 ≤ sizeLine; decide, fun L hL _ => ⟨.int (i : Nat), rfl, ?_⟩⟩
        have sL := same_new (o := .lst [.int 4, .int 12, .int 97]) hL
        have eL : (upd H6 L (.lst [.int 4, .int 12, .int 97])) L = some (.lst ([4, 12, 97].map V.int)) := upd_same
        obtain ⟨g, hg, mg'⟩ := int_at [4, 12, 97] (d := i) (by show i < 3; omega)
        have g97 : 4 ≤ g ∧ g ≤ 97 := (by decide : ∀ m ∈ [(4 : Int), 12, 97], 4 ≤ m ∧ m ≤ 97) g mg'
        have u7 := u6.same sL
        have i7 := Im.mono (tk_same sL) _ i6
        refine ⟨L, _, (i : Nat), _, rfl, rfl, .of eL, atI_nat hg, .ref c, rfl, c, l, 3, _, rfl, u7, by omega, by decide, by decide, fun d H7 hd u8 b8 => ⟨_, _, rfl, rfl, ?_⟩⟩
        have hd3 : d < 3 := by
          have : ((d : Nat) : Int) < 3 := hd
          omega
        have i8 := Im.mono (b8.tk u7) _ i7
        refine ⟨c, l, _, .ref pf, ks, (g - (d : Nat)).toNat, by rw [Int.toNat_of_nonneg (by omega)]; rfl, u8, by omega, i8, ok, by omega, fun pl rows H8 lo l97 u9 b9 i9 => ?_⟩
        have i8' := Im.mono (b9.tk u8) _ i8
        refine set_lstB (K := K) (p := P1) (n := 10) (S := fun a => a ≠ c ∧ a ≠ l) (ten (noNew u9) rfl i9 lo l97) (Same.refl _) (by decide) fun ws ds H9 M s9 ow pw lw hM _ => ?_
        have sM := same_new (o := .lst ws) hM
        have u10 := ((u9.same s9).same sM).mono (m := 20000 * i + 12010) (by omega)
        have nMc := (u9.same s9).nw hM
        have nMl := (u9.same s9).nl hM
        have ow3 := ow.mono (fo_same (S := fun a => a ≠ c ∧ a ≠ l) sM)
        have eM : (upd H9 M (.lst ws)) M = some (.lst ws) := upd_same
        have i10 := Im.mono (tk_same (s9.trans sM)) _ i9
        have k10 := Im.mono (tk_same (s9.trans sM)) _ i8'
        generalize upd H9 M (.lst ws) = H10 at *
        refine ⟨5, rfl, by decide, by decide, ?_⟩
        refine for_it (walk_range (lo := 0) (n := (5 : Int).toNat)) (fun j σ Hx => ∃ (y8 y9 y10 : Option V) (M : Addr) (ws : List V) (ds : List PyData), σ = [some (.ref a), some (.ref c), some (.int (i : Nat)), some (.ref pf), y4, some (.ref t), some (.ref pl), some (.ref M), y8, y9, y10, none] ∧ Wel Hx c l (20000 * i + 12010 + 200 * j) ∧ M ≠ c ∧ M ≠ l ∧ Hx M = some (.lst ws) ∧ OdAll K (fun a => a ≠ c ∧ a ≠ l) Hx ws ds ∧ (∀ d ∈ ds, P1 d) ∧ ws.length ≤ 10 + 4 * j ∧ Im K Hx (.ref pl) (rwsD rows) ∧ Im K Hx (.ref pf) (ksD ks)) ⟨_, _, _, M, ws, ds, rfl, u10, nMc, nMl, eM, ow3, pw, by omega, i10, k10⟩ (fun _ _ _ _ _ => trivial) ?_ ?_
        · rintro j x σ Hx Hb hj ⟨y8, y9, y10, M, ws, ds, rfl, u, nMc, nMl, eM, ow, pw, lw, il, ik⟩ ⟨rfl, rfl⟩
          have hj5 : j < 5 := hj
          refine ⟨.ref c, rfl, .ref t, rfl, .ref pl, rfl, .ref c, rfl, c, l, 3, _, rfl, u, by omega, by decide, by decide, fun d Ha hd ua ba => ⟨_, _, rfl, rfl, _, rfl, ?_⟩⟩
          have hd3 : d < 3 := by
            have : ((d : Nat) : Int) < 3 := hd
            omega
          have ila := Im.mono (ba.tk u) _ il
          obtain ⟨pa, xs, ep, ha, hx⟩ := ila.tuple_inv
          obtain rfl : pl = pa := by injection ep
          rw [show (96 : Int) - ((d : Nat) : Int) = ((96 - d : Nat) : Int) by omega]
          refine sl_any' ha fun pb Hc sc hpb => ?_
          rw [cutV_toN] at hpb
          have hxc := ImAll.mono (tk_same sc) _ hx
          refine ⟨c, l, _, .ref t, .ref pb, rows.take (96 - d), rfl, ua.same sc, by omega, .tup hpb (by rw [List.map_take]; exact im_take _ hxc), by rw [List.length_take]; omega, fun r hr => lo r (List.mem_of_mem_take hr), fun pt rows1 Hd l1 lo1 ud bd idd => ?_⟩
          have bbd := (ba.trans (but2_same sc)).trans bd
          have ild := Im.mono (bbd.tk u) _ il
          have r1 : rows1.length ≤ 97 := by rw [l1, List.length_take]; omega
          obtain ⟨pa, xs, ep, ha, hx⟩ := ild.tuple_inv
          obtain rfl : pl = pa := by injection ep
          have b97 := bn_rws (n := 97) lo (es := rows.map rwD) (fun _ h => h) (by rw [List.length_map]; exact l97)
          have b20 := bn_rws (n := 20) lo (es := (rows.map rwD).take 20) (fun e h => List.mem_of_mem_take h) (by rw [List.length_take]; omega)
          have oxs : OdAll K (fun a => a ≠ c ∧ a ≠ l) Hd xs (rows.map rwD) := ImAll.od _ (shs_lf (by decide) (by decide) b97.lf) hx
          refine ⟨.ref c, rfl, .ref pl, rfl, 20, rfl, sl_any' ha fun pd He se hpd => ?_⟩
          rw [show (20 : Int) = ((20 : Nat) : Int) from rfl, cutV_toN] at hpd
          have d20 := b20.dp
          have k20 := b20.bk
          refine ⟨(fun a => a ≠ c ∧ a ≠ l), c, l, _, .ref pd, .tuple ((rows.map rwD).take 20), 10, 340, rfl, ud.same se, by omega, nSc, nSl, .tup hpd ((oxs.take 20).mono (fo_same se)), by omega, b20.lf, by decide, by decide, by decide, by omega, fun x1 e1 Hf uf bf of be => ?_⟩
          have of' : Od K (fun a => a ≠ c ∧ a ≠ l) Hf x1 e1 := od_sub (fun a h => h.elim id fun h => ⟨(ud.same se).nw h, (ud.same se).nl h⟩) of
          have bn1 := be.bn
          have d1 := bn1.dp
          have k1 := bn1.bk
          have bdf := (but2_same se).trans bf
          have idf := Im.mono (bdf.tk ud) _ idd
          refine ⟨.ref M, rfl, .ref pt, rfl, .ref c, rfl, .ref t, rfl, .ref pt, rfl, c, l, _, .ref t, .ref pt, rows1, rfl, uf, by omega, idf, r1, lo1, fun pt2 rows2 Hg l2 lo2 ug bg idg => ?_⟩
          have ofg := of'.mono (foB uf bg)
          refine ⟨x1, rfl, .ref c, rfl, x1, rfl, (fun a => a ≠ c ∧ a ≠ l), c, l, _, x1, e1, 80, 450, rfl, ug, by omega, nSc, nSl, ofg, by omega, bn1.lf, by decide, by decide, by decide, by omega, fun x2 e2 Hh uh bh oh bE => ⟨by show 4 ≤ sizeLine; decide, fun L2 hL2 _ => ?_⟩⟩
          have oh' : Od K (fun a => a ≠ c ∧ a ≠ l) Hh x2 e2 := od_sub (fun a h => h.elim id fun h => ⟨ug.nw h, ug.nl h⟩) oh
          have bn2 := bE.bn
          have d2 := bn2.dp
          have k2 := bn2.bk
          have ofh := ofg.mono (foB ug bh)
          have bdh := (bdf.trans bg).trans bh
          have idh := Im.mono (bdh.tk ud) _ idd
          have igh := Im.mono (bh.tk ug) _ idg
          have bbh := bbd.trans bdh
          have r2 : rows2.length ≤ 97 := by omega
          have bt1 := bn_rws (n := 97) lo1 (es := rows1.map rwD) (fun _ h => h) (by rw [List.length_map]; exact r1)
          have bt2 := bn_rws (n := 97) lo2 (es := rows2.map rwD) (fun _ h => h) (by rw [List.length_map]; exact r2)
          have ot1 : Od K (fun a => a ≠ c ∧ a ≠ l) Hh (.ref pt) (rwsD rows1) := Im.od _ (sh_lf (by decide) (by decide) bt1.lf) idh
          have ot2 : Od K (fun a => a ≠ c ∧ a ≠ l) Hh (.ref pt2) (rwsD rows2) := Im.od _ (sh_lf (by decide) (by decide) bt2.lf) igh
          have eMh := bbh _ _ nMc nMl eM
          have owh := ow.mono (foB u bbh)
          have s2 := same_new (o := .lst [.ref pt, .ref pt2, x1, x2]) hL2
          refine ⟨M, L2, ws, [.ref pt, .ref pt2, x1, x2], rfl, rfl, s2 _ _ eMh, upd_same, Nat.le_of_lt (small1000 (by show ws.length + 4 ≤ 1000; omega)), fun N2 hN2 => ?_⟩
          have s3 := s2.trans (same_new (o := .lst (ws ++ [.ref pt, .ref pt2, x1, x2])) hN2)
          have uhs := uh.same s2
          refine ⟨_, _, _, N2, ws ++ [.ref pt, .ref pt2, x1, x2], ds ++ [rwsD rows1, rwsD rows2, e1, e2], rfl, (uh.same s3).mono (by omega), uhs.nw hN2, uhs.nl hN2, upd_same, (owh.app (.cons ot1 (.cons ot2 (.cons ofh (.cons oh' .nil))))).mono (fo_same s3), fun d hd => ?_, by rw [List.length_append]; show _ + 4 ≤ _; omega, Im.mono ((bbh.tk u).trans (tk_same s3)) _ il, Im.mono ((bbh.tk u).trans (tk_same s3)) _ ik⟩
          rcases List.mem_append.mp hd with hd | hd
          · exact pw d hd
          · rcases List.mem_cons.mp hd with rfl | hd
            · exact bt1.mono (by decide) (by decide) (by decide) (by decide)
            rcases List.mem_cons.mp hd with rfl | hd
            · exact bt2.mono (by decide) (by decide) (by decide) (by decide)
            rcases List.mem_cons.mp hd with rfl | hd
            · exact bn1.mono (by decide) (by decide) (by omega) (by omega)
            · rw [List.mem_singleton.mp hd]
              exact bn2.mono (by decide) (by decide) (by omega) (by omega)
        · rintro σ Hx ⟨y8, y9, y10, M, ws, ds, rfl, u, nMc, nMl, eM, ow, pw, lw, il, ik⟩
          have lw' : ws.length ≤ 10 + 4 * 5 := lw
          refine ⟨.ref M, rfl, M, rfl, ⟨_, .of eM⟩, fun D hD => ?_⟩
          refine lc_all (walk_list (xs := ws)) (fun i H6 => Same Hx H6 ∧ H6 D = some (.lst ((List.replicate i true).map V.bl))) ⟨same_new hD, upd_same⟩ (fun i H6 _ z => .of (z.1 _ _ eM)) (fun i x H6 H7 hi z y => ?_) (fun H6 z => ?_)
          · obtain ⟨s7, eD⟩ := z
            obtain ⟨rfl, hxi⟩ := y
            obtain ⟨d, hd, od⟩ := (ow.mono (fo_same s7)).getV hxi
            have pd := pw d (List.mem_of_getElem? hd)
            obtain ⟨sh, sz, dp⟩ := p1_pair ok pd
            refine ⟨rfl, .ref pf, rfl, x, rfl, _, .ref pf, x, ks, d, rfl, Im.mono (tk_same s7) _ ik, ok, od, sh, sz, dp, fun H8 s8 => ⟨_, s8 _ _ eD, small1000 (by rw [List.length_map, List.length_replicate]; omega), fun b o e => ?_, ?_⟩⟩
            · rw [upd_ne (ne_of_none e hD)]; exact s8 _ _ (s7 _ _ e)
            · rw [upd_same, List.replicate_succ', List.map_append]; rfl
          · obtain ⟨s7, eD⟩ := z
            refine ⟨D, _, rfl, .of eD, _, rfl, ?_⟩
            rw [show (List.replicate ws.length true).all id = true from List.all_eq_true.mpr fun x hx => (List.mem_replicate.mp hx).2]
            exact iteF ⟨_, _, _, _, _, _, _, _, _, rfl, (u.same s7).mono (by show 20000 * i + 12010 + 200 * 5 ≤ _; omega)⟩
    · rintro σ Hx ⟨y2, y3, y4, y5, y6, y7, y8, y9, y10, rfl, u⟩
      exact q Hx
end
end K63

set_option Elab.async false
set_option linter.all false
set_option maxRecDepth 100000
namespace K63
open PySem PySem.Spec PyProof.Rows L2 Ly Mt
theorem int_mk {K : PySem.W.Frag} {h : Heap} {mg : Str → Option Value} (X : K.In h) (G : h.Ns mainGlobals mg) {x : Str} {i : Int} {t : Tok} (a : PySem.W.nsIn K mainGlobals x = some (some (.int i t))) : ∃ u, mg x = some u ∧ L2.RelV (.int i) u := ⟨_, PySem.W.mg_of X G a, ⟨_, rfl⟩⟩
theorem str_mk {K : PySem.W.Frag} {h : Heap} {mg : Str → Option Value} (X : K.In h) (G : h.Ns mainGlobals mg) {x z : Str} {t : Tok} (a : PySem.W.nsIn K mainGlobals x = some (some (.str z t))) : ∃ u, mg x = some u ∧ L2.RelV (.str z) u := ⟨_, PySem.W.mg_of X G a, ⟨_, rfl⟩⟩
theorem strs_mk {K : PySem.W.Frag} {h : Heap} {mg : Str → Option Value} (X : K.In h) (G : h.Ns mainGlobals mg) {x : Str} {a : Addr} {i j k : Str} {t u v : Tok} {dd : Option Addr} {n : Nat} {sl : Array (Option Value)}
    (e : PySem.W.nsIn K mainGlobals x = some (some (.ref a))) (l : K.lookup a = some ⟨.type "tuple", dd, .seq #[.str i t, .str j u, .str k v] n, sl⟩) : ∃ a, mg x = some (.ref a) ∧ ∀ H, ITup K H a [.str i, .str j, .str k] :=
  ⟨a, PySem.W.mg_of X G e, fun _ => .inr ⟨_, _, _, l, rfl, rfl, by show 3 ≤ sizeLine; decide, .cons ⟨_, rfl⟩ (.cons ⟨_, rfl⟩ (.cons ⟨_, rfl⟩ .nil))⟩⟩
theorem kit_own {K : PySem.W.Frag} {D C : Addr} {b : Bool} (hn : (Value.ref D == Value.ref C) = false) (hdct : PySem.W.hasDictIn K C = true) (ht : PySem.W.typeIn K (.ref C) = some (.type "type")) (h4 : PySem.W.subIn K (.ref D) (.ref C) = some b) : PySem.W.kitOne K (.ref D) (.ref C) = some b := by
  unfold PySem.W.kitOne
  rw [hn]
  obtain ⟨cd, hc, _⟩ := PySem.W.any_some hdct
  show (if ((PySem.W.clsIn K C).isSome && PySem.W.typeIn K (.ref C) == some (.type "type")) = true then PySem.W.subIn K (.ref D) (.ref C) else none) = some b
  rw [if_pos (by rw [hc, ht] <;> rfl)]
  exact h4
theorem kit_self {K : PySem.W.Frag} {D : Addr} (hn : (Value.ref D == Value.ref D) = true) : PySem.W.kitOne K (.ref D) (.ref D) = some true := by
  unfold PySem.W.kitOne
  rw [if_pos hn]
theorem law_cells {ns : List Int} (h : ∀ z ∈ ns, Builtin.Int.intBits z ≤ 1048576) : ∀ c ∈ ns, Cell c := fun c hc => ⟨1048576, by decide, PySem.intBits_le_iff.mp (h c hc)⟩
structure Te (K : PySem.W.Frag) (mg : Str → Option Value) (br be : Addr) : Prop where
  g_BadRows : mg "BadRows" = some (.ref br)
  x_BadRows : PySem.W.excIn K br [.type "ValueError", .type "Exception", .type "BaseException", .type "object"] "ValueError.__new__" = true
  k_BadRows : PySem.W.keepIn K (.ref br) = true
  b_BadRows : PySem.W.subIn K (.ref br) (.type "BaseException") = some true
  t_BadRows : PySem.W.typeIn K (.ref br) = some (.type "type")
  e_rr : PySem.W.exmOne K (.ref br) (.ref br) = some true
  g_TreeError : mg "TreeError" = some (.ref be)
  x_TreeError : PySem.W.excIn K be [.type "ValueError", .type "Exception", .type "BaseException", .type "object"] "ValueError.__new__" = true
  k_TreeError : PySem.W.keepIn K (.ref be) = true
  b_TreeError : PySem.W.subIn K (.ref be) (.type "BaseException") = some true
  t_TreeError : PySem.W.typeIn K (.ref be) = some (.type "type")
theorem Te.tr {K : PySem.W.Frag} {mg : Str → Option Value} {br be : Addr} (h : Te K mg br be) : Tr K mg ⟨br, be⟩ := ⟨h.g_BadRows, h.x_BadRows, h.k_BadRows, h.b_BadRows, h.t_BadRows, h.e_rr, h.g_TreeError, h.x_TreeError, h.k_TreeError, h.b_TreeError, h.t_TreeError⟩
set_option maxHeartbeats 0 in
theorem all_mk {l : PySem.W.OpenLaw} {w : World} {K : PySem.W.Frag} {mg : Str → Option Value} {fa br be : Addr} (hfa : mg "law" = some (.ref fa)) (T : Tx K mg) (TE0 : Te K mg br be)
    (h_is_int : Here K mg "is_int" s_is_int) (h_is_pair : Here K mg "is_pair" s_is_pair) (h_is_row : Here K mg "is_row" s_is_row) (h_is_name : Here K mg "is_name" s_is_name) (h_is_high : Here K mg "is_high" s_is_high) (h_all_unlike : Here K mg "all_unlike" s_all_unlike) (h_is_kinds : Here K mg "is_kinds" s_is_kinds) (h_need_kinds : Here K mg "need_kinds" s_need_kinds) (h_maker_table : Here K mg "maker_table" s_maker_table) (h_is_entry : Here K mg "is_entry" s_is_entry) (h_rows_fit : Here K mg "rows_fit" s_rows_fit) (h_is_rows : Here K mg "is_rows" s_is_rows) (h_need_rows : Here K mg "need_rows" s_need_rows) (h_row_sizes : Here K mg "row_sizes" s_row_sizes) (h_sizes : Here K mg "sizes" s_sizes) (h_word_counts : Here K mg "word_counts" s_word_counts) (h_row_words : Here K mg "row_words" s_row_words) (h_words_of : Here K mg "words_of" s_words_of) (h__law_well : Here K mg "_law_well" s__law_well) (h__law_draw : Here K mg "_law_draw" s__law_draw) (h__law_name : Here K mg "_law_name" s__law_name) (h__law_kinds : Here K mg "_law_kinds" s__law_kinds) (h__law_table : Here K mg "_law_table" s__law_table) (h__law_integer : Here K mg "_law_integer" s__law_integer) (h__law_lines : Here K mg "_law_lines" s__law_lines) (h__law_bent : Here K mg "_law_bent" s__law_bent) (h__law_is_lines : Here K mg "_law_is_lines" s__law_is_lines) (h__law_same : Here K mg "_law_same" s__law_same) (h__law_sizes : Here K mg "_law_sizes" s__law_sizes) (h__law_turned : Here K mg "_law_turned" s__law_turned) (h__law_door : Here K mg "_law_door" s__law_door) (h__law_value_right : Here K mg "_law_value_right" s__law_value_right) (h_law : Here K mg "law" s_law) :
    ∃ fd : FuncData, (∀ (s : Shared) (v : Value), BindsTo s fd ⟨[v], []⟩ [("script", v)]) ∧ ∀ base : Heap, K.In base → base.Ns mainGlobals mg → Kept l.prog w K mg base 20 fa fd ["script"] (sp_law K) := by
  obtain ⟨f, fd, hm, F⟩ := h_law
  have e : f = fa := by
    have := hm.symm.trans hfa
    injection this with e1
    injection e1
  subst e
  have TE : Tr K mg ⟨br, be⟩ := TE0.tr
  refine ⟨fd, fun s v => ?_, fun base _ _ => ?_⟩
  · obtain ⟨oc, od, kV, doc, pm, an, cdv, ct, osl, rfl, lk, hcd⟩ := F.ex
    exact .of_eq rfl
  have D__law_well : Def l.prog w K mg base 1 "_law_well" s__law_well ["script"] (sp_well K) := h__law_well.toDef (fun F => ok__law_well F T) fun _ _ _ _ _ _ us hl => match us, hl with | [_], _ => rfl
  have D__law_draw : Def l.prog w K mg base 1 "_law_draw" s__law_draw ["well", "many"] sp_draw := h__law_draw.toDef (fun F => ok__law_draw F T) fun _ _ _ _ _ _ us hl => match us, hl with | [_, _], _ => rfl
  have D__law_name : Def l.prog w K mg base 2 "_law_name" s__law_name ["well", "taken", "high"] (sp_lname K) := h__law_name.toDef (fun F => ok__law_name F T D__law_draw (by decide)) fun _ _ _ _ _ _ us hl => match us, hl with | [_, _, _], _ => rfl
  have D__law_kinds : Def l.prog w K mg base 3 "_law_kinds" s__law_kinds ["well", "most"] (sp_wkinds K) := h__law_kinds.toDef (fun F => ok__law_kinds F T D__law_draw D__law_name (by decide) (by decide)) fun _ _ _ _ _ _ us hl => match us, hl with | [_, _], _ => rfl
  have b__law_bent : ∀ (kV doc pm : Value) (an : Option Addr) (cdv ct : Value) (us : List Value), us.length = (["well", "value"] : List Str).length → bindArgs (PySem.W.fnOf "_law_bent" "_law_bent" (defArgs s__law_bent) (defBody s__law_bent) (defScope s__law_bent) .none kV doc pm an cdv ct) ⟨us, []⟩ = pure ((["well", "value"] : List Str).zip us) := fun _ _ _ _ _ _ us hl => match us, hl with | [_, _], _ => rfl
  have law_bent_0 : Def l.prog w K mg base 1 "_law_bent" s__law_bent ["well", "value"] (sp_wbent K 0) := h__law_bent.toDef (fun F => ok_wbent0 F) b__law_bent
  have law_bent_1 : Def l.prog w K mg base 2 "_law_bent" s__law_bent ["well", "value"] (sp_wbent K 1) := h__law_bent.toDef (fun F => ok__law_bent F T law_bent_0 (by decide) D__law_draw (by decide)) b__law_bent
  have law_bent_2 : Def l.prog w K mg base 3 "_law_bent" s__law_bent ["well", "value"] (sp_wbent K 2) := h__law_bent.toDef (fun F => ok__law_bent F T law_bent_1 (by decide) D__law_draw (by decide)) b__law_bent
  have law_bent_3 : Def l.prog w K mg base 4 "_law_bent" s__law_bent ["well", "value"] (sp_wbent K 3) := h__law_bent.toDef (fun F => ok__law_bent F T law_bent_2 (by decide) D__law_draw (by decide)) b__law_bent
  have law_bent_4 : Def l.prog w K mg base 5 "_law_bent" s__law_bent ["well", "value"] (sp_wbent K 4) := h__law_bent.toDef (fun F => ok__law_bent F T law_bent_3 (by decide) D__law_draw (by decide)) b__law_bent
  have law_bent_5 : Def l.prog w K mg base 6 "_law_bent" s__law_bent ["well", "value"] (sp_wbent K 5) := h__law_bent.toDef (fun F => ok__law_bent F T law_bent_4 (by decide) D__law_draw (by decide)) b__law_bent
  have law_bent_6 : Def l.prog w K mg base 7 "_law_bent" s__law_bent ["well", "value"] (sp_wbent K 6) := h__law_bent.toDef (fun F => ok__law_bent F T law_bent_5 (by decide) D__law_draw (by decide)) b__law_bent
  have law_bent_7 : Def l.prog w K mg base 8 "_law_bent" s__law_bent ["well", "value"] (sp_wbent K 7) := h__law_bent.toDef (fun F => ok__law_bent F T law_bent_6 (by decide) D__law_draw (by decide)) b__law_bent
  have law_bent_8 : Def l.prog w K mg base 9 "_law_bent" s__law_bent ["well", "value"] (sp_wbent K 8) := h__law_bent.toDef (fun F => ok__law_bent F T law_bent_7 (by decide) D__law_draw (by decide)) b__law_bent
  have law_bent_9 : Def l.prog w K mg base 10 "_law_bent" s__law_bent ["well", "value"] (sp_wbent K 9) := h__law_bent.toDef (fun F => ok__law_bent F T law_bent_8 (by decide) D__law_draw (by decide)) b__law_bent
  have D__law_bent : Def l.prog w K mg base 11 "_law_bent" s__law_bent ["well", "value"] (sp_wbent K 10) := h__law_bent.toDef (fun F => ok__law_bent F T law_bent_9 (by decide) D__law_draw (by decide)) b__law_bent
  have D__law_table : Def l.prog w K mg base 1 "_law_table" s__law_table ["family"] (sl_table K) := h__law_table.toDef (fun F => ok__law_table F T) fun _ _ _ _ _ _ us hl => match us, hl with | [_], _ => rfl
  have D__law_is_lines : Def l.prog w K mg base 1 "_law_is_lines" s__law_is_lines ["table", "value"] (sl_is_lines K) := h__law_is_lines.toDef (fun F => ok__law_is_lines F T) fun _ _ _ _ _ _ us hl => match us, hl with | [_, _], _ => rfl
  have D_is_row : Def l.prog w K mg base 1 "is_row" s_is_row ["thing", "low", "high"] (so_is_row K) := h_is_row.toDef (fun F => ok_is_row F T) fun _ _ _ _ _ _ us hl => match us, hl with | [_, _, _], _ => rfl
  have D_is_pair : Def l.prog w K mg base 1 "is_pair" s_is_pair ["thing"] (so_is_pair K) := h_is_pair.toDef (fun F => ok_is_pair F T) fun _ _ _ _ _ _ us hl => match us, hl with | [_], _ => rfl
  have D_is_name : Def l.prog w K mg base 1 "is_name" s_is_name ["thing"] (so_is_name K) := h_is_name.toDef (fun F => ok_is_name F T) fun _ _ _ _ _ _ us hl => match us, hl with | [_], _ => rfl
  have D_is_high : Def l.prog w K mg base 2 "is_high" s_is_high ["thing"] (so_is_high K) := h_is_high.toDef (fun F => ok_is_high F T D_is_name (by decide)) fun _ _ _ _ _ _ us hl => match us, hl with | [_], _ => rfl
  have D_all_unlike : Def l.prog w K mg base 1 "all_unlike" s_all_unlike ["names"] (so_unlike K) := h_all_unlike.toDef (fun F => ok_all_unlike F T) fun _ _ _ _ _ _ us hl => match us, hl with | [_], _ => rfl
  have D_is_kinds : Def l.prog w K mg base 3 "is_kinds" s_is_kinds ["thing"] (so_is_kinds K) := h_is_kinds.toDef (fun F => ok_is_kinds F T D_is_row D_is_pair D_is_high D_all_unlike (by decide) (by decide) (by decide) (by decide)) fun _ _ _ _ _ _ us hl => match us, hl with | [_], _ => rfl
  have D_need_kinds : Def l.prog w K mg base 4 "need_kinds" s_need_kinds ["kinds"] (sr_kinds K) := h_need_kinds.toDef (fun F => ok_need_kinds F T D_is_kinds (by decide)) fun _ _ _ _ _ _ us hl => match us, hl with | [_], _ => rfl
  have D_is_int : Def l.prog w K mg base 1 "is_int" s_is_int ["thing"] (so_is_int K) := h_is_int.toDef (fun F => ok_is_int F T) fun _ _ _ _ _ _ us hl => match us, hl with | [_], _ => rfl
  have D_is_entry : Def l.prog w K mg base 2 "is_entry" s_is_entry ["table", "rows", "field", "entry", "at"] (sr_entry K) := h_is_entry.toDef (fun F => ok_is_entry F T D_is_int (by decide)) fun _ _ _ _ _ _ us hl => match us, hl with | [_, _, _, _, _], _ => rfl
  have D_rows_fit : Def l.prog w K mg base 3 "rows_fit" s_rows_fit ["table", "thing"] (sr_fit K) := h_rows_fit.toDef (fun F => ok_rows_fit F T D_is_row D_is_pair D_is_entry (by decide) (by decide) (by decide)) fun _ _ _ _ _ _ us hl => match us, hl with | [_, _], _ => rfl
  have D_maker_table : Def l.prog w K mg base 1 "maker_table" s_maker_table ["kinds"] (sp_maker_table K) := h_maker_table.toDef (fun F => ok_maker_table F T) fun _ _ _ _ _ _ us hl => match us, hl with | [_], _ => rfl
  have D_is_rows : Def l.prog w K mg base 5 "is_rows" s_is_rows ["kinds", "thing"] (sr_rows K) := h_is_rows.toDef (fun F => ok_is_rows F T D_need_kinds D_rows_fit D_maker_table (by decide) (by decide) (by decide)) fun _ _ _ _ _ _ us hl => match us, hl with | [_, _], _ => rfl
  have D__law_sizes : Def l.prog w K mg base 1 "_law_sizes" s__law_sizes ["table", "lines"] (sl_sizes K) := h__law_sizes.toDef (fun F => ok__law_sizes F T) fun _ _ _ _ _ _ us hl => match us, hl with | [_, _], _ => rfl
  have D_need_rows : DefX l.prog w K mg base 4 "need_rows" s_need_rows ["kinds", "rows"] (sr_need K ⟨br, be⟩) := h_need_rows.toDefX (fun F => ok_need_rows F T TE D_rows_fit D_maker_table (by decide) (by decide)) fun _ _ _ _ _ _ us hl => match us, hl with | [_, _], _ => rfl
  have D_row_sizes : Def l.prog w K mg base 1 "row_sizes" s_row_sizes ["table", "rows"] (sr_sz K szG) := h_row_sizes.toDef (fun F => ok_row_sizes F T) fun _ _ _ _ _ _ us hl => match us, hl with | [_, _], _ => rfl
  have D_sizes : DefX l.prog w K mg base 5 "sizes" s_sizes ["kinds", "rows"] (sr_sizes K ⟨br, be⟩) := h_sizes.toDefX (fun F => ok_sizes F T TE D_need_kinds D_need_rows D_row_sizes D_maker_table (by decide) (by decide) (by decide) (by decide)) fun _ _ _ _ _ _ us hl => match us, hl with | [_, _], _ => rfl
  have D_word_counts : Def l.prog w K mg base 1 "word_counts" s_word_counts ["table", "rows"] (sr_sz K cnG) := h_word_counts.toDef (fun F => ok_word_counts F T) fun _ _ _ _ _ _ us hl => match us, hl with | [_, _], _ => rfl
  have D_row_words : Def l.prog w K mg base 1 "row_words" s_row_words ["table", "rows", "at"] (sr_told K) := h_row_words.toDef (fun F => ok_row_words F T) fun _ _ _ _ _ _ us hl => match us, hl with | [_, _, _], _ => rfl
  have D_words_of : DefX l.prog w K mg base 5 "words_of" s_words_of ["kinds", "rows"] (sr_wordsof K ⟨br, be⟩) := h_words_of.toDefX (fun F => ok_words_of F T TE D_need_kinds D_need_rows D_word_counts D_maker_table D_row_words (by decide) (by decide) (by decide) (by decide) (by decide)) fun _ _ _ _ _ _ us hl => match us, hl with | [_, _], _ => rfl
  have D__law_door : Def l.prog w K mg base 6 "_law_door" s__law_door ["door", "family", "value"] (sl_door K) := h__law_door.toDef (fun F => ok__law_door F T TE D_sizes D_words_of (by decide) (by decide)) fun _ _ _ _ _ _ us hl => match us, hl with | [_, _, _], _ => rfl
  have b__law_same : ∀ (kV doc pm : Value) (an : Option Addr) (cdv ct : Value) (us : List Value), us.length = (["found", "due"] : List Str).length → bindArgs (PySem.W.fnOf "_law_same" "_law_same" (defArgs s__law_same) (defBody s__law_same) (defScope s__law_same) .none kV doc pm an cdv ct) ⟨us, []⟩ = pure ((["found", "due"] : List Str).zip us) := fun _ _ _ _ _ _ us hl => match us, hl with | [_, _], _ => rfl
  have law_same_0 : Def l.prog w K mg base 1 "_law_same" s__law_same ["found", "due"] (sp_lsame K 0) := h__law_same.toDef (fun F => ok_lsame0 F) b__law_same
  have law_same_1 : Def l.prog w K mg base 2 "_law_same" s__law_same ["found", "due"] (sp_lsame K 1) := h__law_same.toDef (fun F => ok__law_same F T law_same_0 (by decide)) b__law_same
  have D__law_same : Def l.prog w K mg base 3 "_law_same" s__law_same ["found", "due"] (sp_lsame K 2) := h__law_same.toDef (fun F => ok__law_same F T law_same_1 (by decide)) b__law_same
  have D__law_value_right : DefG l.prog w K mg base 7 "_law_value_right" s__law_value_right ["family", "value"] (sl_right K) := h__law_value_right.toDefG (fun F => ok__law_value_right F T (er := ⟨br, be⟩) D__law_table D__law_is_lines D_is_rows D__law_sizes D__law_door D__law_same D_sizes (by decide) (by decide) (by decide) (by decide) (by decide) (by decide) (by decide)) fun _ _ _ _ _ _ us hl => match us, hl with | [_, _], _ => rfl
  have D__law_integer : Def l.prog w K mg base 2 "_law_integer" s__law_integer ["well"] (sl_integer K) := h__law_integer.toDef (fun F => ok__law_integer F T D__law_draw (by decide)) fun _ _ _ _ _ _ us hl => match us, hl with | [_], _ => rfl
  have D__law_lines : Def l.prog w K mg base 3 "_law_lines" s__law_lines ["well", "family", "count"] (sl_lines K) := h__law_lines.toDef (fun F => ok__law_lines F T D__law_draw D__law_integer (by decide) (by decide)) fun _ _ _ _ _ _ us hl => match us, hl with | [_, _, _], _ => rfl
  have D__law_turned : Def l.prog w K mg base 2 "_law_turned" s__law_turned ["well", "table", "lines"] (sl_turned K) := h__law_turned.toDef (fun F => ok__law_turned F T D__law_draw (by decide)) fun _ _ _ _ _ _ us hl => match us, hl with | [_, _, _], _ => rfl
  exact ok_law F T D__law_well D__law_kinds D__law_draw D__law_bent D__law_value_right D__law_table D__law_lines D__law_turned (by decide) (by decide) (by decide) (by decide) (by decide) (by decide) (by decide) (by decide)
end K63

set_option Elab.async false
set_option linter.all false
set_option maxRecDepth 100000
set_option pp.deepTerms false
set_option pp.deepTerms.threshold 3
open PySem PySem.W PyProof.Rows
set_option maxHeartbeats 0 in
theorem PySem.Challenge.cw_sameontrees_k03_rows_and_sizes_holds : PySem.Challenge.rw_sameontrees_k03_rows_and_sizes.Holds := by
  w_on; o_law; k_head; (case hw => w_witness2)
  k_fill
  refine Ly.walk_kept (l := PySem.Challenge.rw_sameontrees_k03_rows_and_sizes) (n := 63) (k := 20) (x := "script") (sp := fun w => K63.sp_law _) rfl (by decide) rfl ⟨rfl, by decide, by decide⟩ (fun w h Y => by first | exact PySem.W.kIn_of Y | exact Y.1) ?F (fun _ _ a ns hl hb _ hS => ⟨a, ns, rfl, hS, hl, K63.law_cells hb, fun _ => rfl⟩)
  case F =>
    intro w mg fa h KX G hmg
    refine' K63.all_mk hmg ⟨PySem.W.mg_none_of KX G ?z0, PySem.W.mg_none_of KX G ?z1, PySem.W.mg_none_of KX G ?z2, PySem.W.mg_none_of KX G ?z3, PySem.W.mg_none_of KX G ?z4, PySem.W.mg_none_of KX G ?z5, PySem.W.mg_none_of KX G ?z6, PySem.W.mg_none_of KX G ?z7, PySem.W.mg_none_of KX G ?z8, PySem.W.mg_none_of KX G ?z9, PySem.W.mg_none_of KX G ?z10, PySem.W.mg_none_of KX G ?z11, PySem.W.mg_none_of KX G ?z12, PySem.W.mg_none_of KX G ?z13, PySem.W.mg_none_of KX G ?z14, PySem.W.mg_none_of KX G ?z15, PySem.W.mg_none_of KX G ?z16, K63.int_mk KX G ?g17, PySem.W.mg_none_of KX G ?z18, K63.int_mk KX G ?g19, K63.int_mk KX G ?g20, K63.int_mk KX G ?g21, K63.str_mk KX G ?g22, K63.str_mk KX G ?g23, K63.str_mk KX G ?g24, K63.strs_mk KX G ?g25 ?h25⟩ ⟨PySem.W.mg_of KX G ?ge_r, ?x_r, ?k_r, ?b_r, ?t_r, PySem.W.exm_ref ?eb_e_rr ?eh_e_rr ?et_e_rr ?es_e_rr, PySem.W.mg_of KX G ?ge_e, ?x_e, ?k_e, ?b_e, ?t_e⟩ (Ly.here KX G ?a0 ?l0 ?c0 ?k0) (Ly.here KX G ?a1 ?l1 ?c1 ?k1) (Ly.here KX G ?a2 ?l2 ?c2 ?k2) (Ly.here KX G ?a3 ?l3 ?c3 ?k3) (Ly.here KX G ?a4 ?l4 ?c4 ?k4) (Ly.here KX G ?a5 ?l5 ?c5 ?k5) (Ly.here KX G ?a6 ?l6 ?c6 ?k6) (Ly.here KX G ?a7 ?l7 ?c7 ?k7) (Ly.here KX G ?a8 ?l8 ?c8 ?k8) (Ly.here KX G ?a9 ?l9 ?c9 ?k9) (Ly.here KX G ?a10 ?l10 ?c10 ?k10) (Ly.here KX G ?a11 ?l11 ?c11 ?k11) (Ly.here KX G ?a12 ?l12 ?c12 ?k12) (Ly.here KX G ?a13 ?l13 ?c13 ?k13) (Ly.here KX G ?a14 ?l14 ?c14 ?k14) (Ly.here KX G ?a15 ?l15 ?c15 ?k15) (Ly.here KX G ?a16 ?l16 ?c16 ?k16) (Ly.here KX G ?a17 ?l17 ?c17 ?k17) (Ly.here KX G ?a18 ?l18 ?c18 ?k18) (Ly.here KX G ?a19 ?l19 ?c19 ?k19) (Ly.here KX G ?a20 ?l20 ?c20 ?k20) (Ly.here KX G ?a21 ?l21 ?c21 ?k21) (Ly.here KX G ?a22 ?l22 ?c22 ?k22) (Ly.here KX G ?a23 ?l23 ?c23 ?k23) (Ly.here KX G ?a24 ?l24 ?c24 ?k24) (Ly.here KX G ?a25 ?l25 ?c25 ?k25) (Ly.here KX G ?a26 ?l26 ?c26 ?k26) (Ly.here KX G ?a27 ?l27 ?c27 ?k27) (Ly.here KX G ?a28 ?l28 ?c28 ?k28) (Ly.here KX G ?a29 ?l29 ?c29 ?k29) (Ly.here KX G ?a30 ?l30 ?c30 ?k30) (Ly.here KX G ?a31 ?l31 ?c31 ?k31) (Ly.here KX G ?a32 ?l32 ?c32 ?k32)
    (case ge_r => k_is)
    (case ge_e => k_is)
    (case a0 => k_is)
    (case l0 => k_is)
    (case c0 => k_is)
    (case k0 => k_is)
    (case a1 => k_is)
    (case l1 => k_is)
    (case c1 => k_is)
    (case k1 => k_is)
    (case a2 => k_is)
    (case l2 => k_is)
    (case c2 => k_is)
    (case k2 => k_is)
    (case a3 => k_is)
    (case l3 => k_is)
    (case c3 => k_is)
    (case k3 => k_is)
    (case a4 => k_is)
    (case l4 => k_is)
    (case c4 => k_is)
    (case k4 => k_is)
    (case a5 => k_is)
    (case l5 => k_is)
    (case c5 => k_is)
    (case k5 => k_is)
    (case a6 => k_is)
    (case l6 => k_is)
    (case c6 => k_is)
    (case k6 => k_is)
    (case a7 => k_is)
    (case l7 => k_is)
    (case c7 => k_is)
    (case k7 => k_is)
    (case a8 => k_is)
    (case l8 => k_is)
    (case c8 => k_is)
    (case k8 => k_is)
    (case a9 => k_is)
    (case l9 => k_is)
    (case c9 => k_is)
    (case k9 => k_is)
    (case a10 => k_is)
    (case l10 => k_is)
    (case c10 => k_is)
    (case k10 => k_is)
    (case a11 => k_is)
    (case l11 => k_is)
    (case c11 => k_is)
    (case k11 => k_is)
    (case a12 => k_is)
    (case l12 => k_is)
    (case c12 => k_is)
    (case k12 => k_is)
    (case a13 => k_is)
    (case l13 => k_is)
    (case c13 => k_is)
    (case k13 => k_is)
    (case a14 => k_is)
    (case l14 => k_is)
    (case c14 => k_is)
    (case k14 => k_is)
    (case a15 => k_is)
    (case l15 => k_is)
    (case c15 => k_is)
    (case k15 => k_is)
    (case a16 => k_is)
    (case l16 => k_is)
    (case c16 => k_is)
    (case k16 => k_is)
    (case a17 => k_is)
    (case l17 => k_is)
    (case c17 => k_is)
    (case k17 => k_is)
    (case a18 => k_is)
    (case l18 => k_is)
    (case c18 => k_is)
    (case k18 => k_is)
    (case a19 => k_is)
    (case l19 => k_is)
    (case c19 => k_is)
    (case k19 => k_is)
    (case a20 => k_is)
    (case l20 => k_is)
    (case c20 => k_is)
    (case k20 => k_is)
    (case a21 => k_is)
    (case l21 => k_is)
    (case c21 => k_is)
    (case k21 => k_is)
    (case a22 => k_is)
    (case l22 => k_is)
    (case c22 => k_is)
    (case k22 => k_is)
    (case a23 => k_is)
    (case l23 => k_is)
    (case c23 => k_is)
    (case k23 => k_is)
    (case a24 => k_is)
    (case l24 => k_is)
    (case c24 => k_is)
    (case k24 => k_is)
    (case a25 => k_is)
    (case l25 => k_is)
    (case c25 => k_is)
    (case k25 => k_is)
    (case a26 => k_is)
    (case l26 => k_is)
    (case c26 => k_is)
    (case k26 => k_is)
    (case a27 => k_is)
    (case l27 => k_is)
    (case c27 => k_is)
    (case k27 => k_is)
    (case a28 => k_is)
    (case l28 => k_is)
    (case c28 => k_is)
    (case k28 => k_is)
    (case a29 => k_is)
    (case l29 => k_is)
    (case c29 => k_is)
    (case k29 => k_is)
    (case a30 => k_is)
    (case l30 => k_is)
    (case c30 => k_is)
    (case k30 => k_is)
    (case a31 => k_is)
    (case l31 => k_is)
    (case c31 => k_is)
    (case k31 => k_is)
    (case a32 => k_is)
    (case l32 => k_is)
    (case c32 => k_is)
    (case k32 => k_is)
    (case z0 => k_is)
    (case z1 => k_is)
    (case z2 => k_is)
    (case z3 => k_is)
    (case z4 => k_is)
    (case z5 => k_is)
    (case z6 => k_is)
    (case z7 => k_is)
    (case z8 => k_is)
    (case z9 => k_is)
    (case z10 => k_is)
    (case z11 => k_is)
    (case z12 => k_is)
    (case z13 => k_is)
    (case z14 => k_is)
    (case z15 => k_is)
    (case z16 => k_is)
    (case g17 => k_is)
    (case z18 => k_is)
    (case g19 => k_is)
    (case g20 => k_is)
    (case g21 => k_is)
    (case g22 => k_is)
    (case g23 => k_is)
    (case g24 => k_is)
    (case g25 => k_is)
    (case h25 => k_is)
    (case x_r => k_exc)
    (case k_r => k_is)
    (case b_r => k_is)
    (case t_r => k_is)
    (case eb_e_rr => k_is)
    (case eh_e_rr => k_is)
    (case et_e_rr => k_is)
    (case es_e_rr => k_is)
    (case x_e => k_exc)
    (case k_e => k_is)
    (case b_e => k_is)
    (case t_e => k_is)
