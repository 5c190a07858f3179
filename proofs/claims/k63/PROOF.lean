import PyProof.Rows.All
import Wide.All
import OpenK.AllK
import Wide.FinOn
import HandS.ForMost
import HandS.IsInst
import HandS.Gcd
import HandS.Wide
import HandS.Zip
import HandS.Conv
import HandS.Flow
import HandS.Walk
import HandS.Codes
import KE.GoesMore
import KE.GoesEnum
import HandS.TupMul
import HandS.TupAny
import HandS.DictComp
import HandS.Text
import KE.KTupSum
import HandS.Strs
import HandS.IterVal
import HandS.Keys
import HandS.Dict
import HandS.More
import KE.KDictKeyed
import KE.SortData
import KE.DataCmp
import KE.KDictCopyH
import PySem.Challenge.RW_sameontrees_k63_joint_forms_side_by_side
import HandS.ForExc
import HandS.ExcIs
import HandS.TryMany
import HandS.WideBits
import HandS.Flt
import HandS.EndBits
import KE.IntBitsLaws
set_option Elab.async false
set_option linter.all false
set_option maxRecDepth 100000
/-! a small layer of our own over HandS: plain data that never changes, defs by name, zip of a list and a tuple -/
namespace Ly
open PySem PySem.Spec PyProof.Rows L2

/-! ### frames -/
/-- every tuple that is tracked stays -/
def TK (H H' : Hp) : Prop := ∀ b xs, H b = some (.tup xs) → H' b = some (.tup xs)
theorem TK.rfl (H : Hp) : TK H H := fun _ _ h => h
theorem TK.trans {H H1 H2 : Hp} (a : TK H H1) (b : TK H1 H2) : TK H H2 := fun c o h => b c o (a c o h)
theorem tk_same {H H' : Hp} (s : Same H H') : TK H H' := fun b _ h => s b _ h
theorem tk_new {H : Hp} {p : Addr} {o : HO} (h : H p = none) : TK H (upd H p o) := fun b xs e => by
  rw [upd_ne (ne_of_none e h)]; exact e
theorem tk_lst {H : Hp} {p : Addr} {o : HO} {xs : List V} (h : H p = some (.lst xs)) : TK H (upd H p o) := fun b ys e => by
  have : b ≠ p := by
    intro z; subst z; rw [h] at e; cases e
  rw [upd_ne this]; exact e
theorem same_new {H : Hp} {p : Addr} {o : HO} (h : H p = none) : Same H (upd H p o) := fun b x e => by
  rw [upd_ne (ne_of_none e h)]; exact e

/-! ### data: none, bools, ints, texts, tuples of such -/
/-- a tuple that stands: tracked, or of the module's own -/
def ITup (K : PySem.W.Frag) (H : Hp) (a : Addr) (xs : List V) : Prop :=
  H a = some (.tup xs) ∨ ∃ (o : Obj) (its : Array Value) (n : Nat), K.lookup a = some o ∧ o.cls = .type "tuple" ∧ o.data = .seq its n ∧ its.size ≤ sizeLine ∧ Vals xs its.toList
theorem ITup.sq {K : PySem.W.Frag} {H : Hp} {a : Addr} {xs : List V} (h : ITup K H a xs) : SqT K H a xs := h.elim (fun e => .inl (.inl e)) .inr
theorem ITup.mono {K : PySem.W.Frag} {H H' : Hp} {a : Addr} {xs : List V} (t : TK H H') (h : ITup K H a xs) : ITup K H' a xs := h.elim (fun e => .inl (t _ _ e)) .inr
mutual
inductive Im (K : PySem.W.Frag) (H : Hp) : V → PyData → Prop
  | non : Im K H .non .none
  | bl (b : Bool) : Im K H (.bl b) (.bool b)
  | int (i : Int) : Im K H (.int i) (.int i)
  | str (x : Str) : Im K H (.str x) (.str x)
  | tup {a : Addr} {xs : List V} {ds : List PyData} : ITup K H a xs → ImAll K H xs ds → Im K H (.ref a) (.tuple ds)
inductive ImAll (K : PySem.W.Frag) (H : Hp) : List V → List PyData → Prop
  | nil : ImAll K H [] []
  | cons {v : V} {vs : List V} {d : PyData} {ds : List PyData} : Im K H v d → ImAll K H vs ds → ImAll K H (v :: vs) (d :: ds)
end
section
variable {K : PySem.W.Frag} {H H' : Hp}
mutual
theorem Im.mono (t : TK H H') : ∀ (d : PyData) {v : V}, Im K H v d → Im K H' v d
  | .none, _, h => by cases h; exact .non
  | .bool _, _, h => by cases h; exact .bl _
  | .int _, _, h => by cases h; exact .int _
  | .str _, _, h => by cases h; exact .str _
  | .tuple ds, _, h => by cases h with | tup e r => exact .tup (e.mono t) (ImAll.mono t ds r)
  | .list _, _, h => by cases h
  | .dict _, _, h => by cases h
theorem ImAll.mono (t : TK H H') : ∀ (ds : List PyData) {vs : List V}, ImAll K H vs ds → ImAll K H' vs ds
  | [], _, h => by cases h; exact .nil
  | d :: ds, _, h => by cases h with | cons a r => exact .cons (Im.mono t d a) (ImAll.mono t ds r)
end
mutual
theorem Im.dp : ∀ (d : PyData) {v : V}, Im K H v d → Dp K H v d
  | .none, _, h => by cases h; exact .non
  | .bool _, _, h => by cases h; exact .bl _
  | .int _, _, h => by cases h; exact .int _
  | .str _, _, h => by cases h; exact .str _
  | .tuple ds, _, h => by cases h with | tup e r => exact .tup e.sq (ImAll.dp ds r)
  | .list _, _, h => by cases h
  | .dict _, _, h => by cases h
theorem ImAll.dp : ∀ (ds : List PyData) {vs : List V}, ImAll K H vs ds → DpAll K H vs ds
  | [], _, h => by cases h; exact .nil
  | d :: ds, _, h => by cases h with | cons a r => exact .cons (Im.dp d a) (ImAll.dp ds r)
end
theorem ImAll.length : ∀ {vs : List V} {ds : List PyData}, ImAll K H vs ds → vs.length = ds.length
  | [], ds, h => by cases h; rfl
  | _ :: _, _, h => by cases h with | cons _ r => rw [List.length_cons, List.length_cons, ImAll.length r]
theorem ImAll.get : ∀ {vs : List V} {ds : List PyData} {i : Nat} {d : PyData}, ImAll K H vs ds → ds[i]? = some d → ∃ v, vs[i]? = some v ∧ Im K H v d
  | _, _, 0, _, .cons a _, e => by
    simp at e; subst e; exact ⟨_, rfl, a⟩
  | _, _, i + 1, _, .cons _ r, e => by
    obtain ⟨v, h1, h2⟩ := ImAll.get (i := i) r (by simpa using e)
    exact ⟨v, by simpa using h1, h2⟩
  | _, _, _, _, .nil, e => by simp at e
theorem ImAll.getV : ∀ {vs : List V} {ds : List PyData} {i : Nat} {v : V}, ImAll K H vs ds → vs[i]? = some v → ∃ d, ds[i]? = some d ∧ Im K H v d
  | _, _, 0, _, .cons a _, e => by
    simp at e; subst e; exact ⟨_, rfl, a⟩
  | _, _, i + 1, _, .cons _ r, e => by
    obtain ⟨v, h1, h2⟩ := ImAll.getV (i := i) r (by simpa using e)
    exact ⟨v, by simpa using h1, h2⟩
  | _, _, _, _, .nil, e => by simp at e
theorem ImAll.snoc : ∀ {vs : List V} {ds : List PyData} {v : V} {d : PyData}, ImAll K H vs ds → Im K H v d → ImAll K H (vs ++ [v]) (ds ++ [d])
  | _, _, _, _, .nil, a => .cons a .nil
  | _, _, _, _, .cons b r, a => .cons b (ImAll.snoc r a)
theorem Im.tuple_inv {v : V} {ds : List PyData} (h : Im K H v (.tuple ds)) : ∃ a xs, v = .ref a ∧ ITup K H a xs ∧ ImAll K H xs ds := by
  cases h with | tup e r => exact ⟨_, _, rfl, e, r⟩
theorem Im.int_inv {v : V} {i : Int} (h : Im K H v (.int i)) : v = .int i := by cases h; rfl
theorem Im.bool_inv {v : V} {i : Bool} (h : Im K H v (.bool i)) : v = .bl i := by cases h; rfl
theorem Im.str_inv {v : V} {i : Str} (h : Im K H v (.str i)) : v = .str i := by cases h; rfl
theorem Im.none_inv {v : V} (h : Im K H v .none) : v = .non := by cases h; rfl
theorem ImAll.cons_inv {vs : List V} {d : PyData} {ds : List PyData} (h : ImAll K H vs (d :: ds)) : ∃ v r, vs = v :: r ∧ Im K H v d ∧ ImAll K H r ds := by
  cases h with | cons a r => exact ⟨_, _, rfl, a, r⟩
theorem ImAll.nil_inv {vs : List V} (h : ImAll K H vs []) : vs = [] := by cases h; rfl
/-- a new tuple of data -/
theorem Im.new {p : Addr} {xs : List V} {ds : List PyData} (n : H p = none) (r : ImAll K H xs ds) : Im K (upd H p (.tup xs)) (.ref p) (.tuple ds) :=
  .tup (.inl upd_same) (ImAll.mono (tk_new n) ds r)
end

/-! ### defs by their names -/
section
variable (P : Program) (w : World) (K : PySem.W.Frag) (mg : Str → Option Value) (base : Heap)
/-- the def st that the name x holds keeps the promise sp, by at most level k; nothing is raised out of it -/
structure Def (k : Nat) (x : Str) (st : Stmt) (ps : List Str) (sp : Sp) : Prop where
  ex : ∃ (f : Addr) (fd : FuncData), FnOk P w K mg base CX0 k f fd ps sp ∧ mg x = some (.ref f) ∧ PySem.W.keepIn K (.ref f) = true ∧ L2.Binds K fd ps [] ∧ Fun K x x st f fd
end
section
variable {X : Cx} {k : Nat} {x : Str} {st : Stmt} {ps ks : List Str} {sp : Sp} {p pos : Pos} {e : Expr} {es : List Expr} {kws : List Keyword} {t tk : TA} {g : List Value → List Value → List Value} {gV : List V → List V → List V}
theorem pe_def (O : Def X.prog X.w X.K X.mg X.base k x st ps sp) (hr : Room k X.A) (hg : Gl X x) (ha : PA X (e :: es) t) (hdb : (x == ("__debug__" : Str)) = false := by decide)
    (he : starEach (e :: es) X.env = (false, eval e X.env) :: starEach es X.env := by rfl) (hpl : (backTo pos (starEach es X.env)).any (·.1) = false := by rfl) :
    PE X (.Call (.Name x p) (e :: es) [] pos) (tCall sp [] E0 t) := by
  obtain ⟨f, fd, F, hm, hk, hb, _⟩ := O.ex
  exact pe_call F hr hg hm hk hb .nil pass0 ha hdb he hpl
/-- all arguments by their names -/
theorem pe_defK (O : Def X.prog X.w X.K X.mg X.base k x st ps sp) (hr : Room k X.A) (hg : Gl X x) (kb : ∀ f fd, Fun X.K x x st f fd → KBinds X.K fd ps ks g gV) (hkw : PK X kws tk)
    (hall : (backToKw pos (keywordEach kws X.env)).all (·.1.isSome) = true := by rfl) (hks : (backToKw pos (keywordEach kws X.env)).filterMap (·.1) = ks := by rfl) (hdb : (x == ("__debug__" : Str)) = false := by decide)
    (hpl : ((backTo pos (starEach [] X.env)).any (·.1) || (backToKw pos (keywordEach kws X.env)).any (·.1.isNone)) = false := by rfl) :
    PE X (.Call (.Name x p) [] kws pos) (tCallK sp gV E0 tNil tk) := by
  obtain ⟨f, fd, F, hm, hk, _, U⟩ := O.ex
  refine ⟨fun pins s σ H Q I h => wpAny_Call_Name_kw (ld_glob I hg hm (PySem.W.callWith_KW0 (h₀ := X.base) I.ok.mod.kin hk hall (thn (hkw.run pos pins s σ H _ I h) ?_) hpl) hdb)⟩
  rintro ws s2 ⟨zs, H2, I2, rz, q2⟩
  refine ⟨I2.kIn, ?_⟩
  rw [hks]
  exact run_fnk F hr (kb f fd U) pass0 I2 .nil rz q2
end
/-- a name of the module that holds a value -/
theorem pe_gv {X : Cx} {x : Str} {v : V} {pos : Pos} (hg : Gl X x) (h : ∃ u, X.mg x = some u ∧ RelV v u) (hd : (x == ("__debug__" : Str)) = false := by decide) : PE X (.Name x pos) (tC v) := by
  obtain ⟨u, h1, h2⟩ := h
  exact pe_glob hg h1 h2 hd
/-! ### zip of a list and a tuple -/
/-- the list at a and the tuple at b, as they stand at each turn, their items in new pairs -/
def ItzM (K : PySem.W.Frag) (a b : Addr) : It where
  go := fun i H => ∃ xs ys x y, SqL K H a xs ∧ SqT K H b ys ∧ xs[i]? = some x ∧ ys[i]? = some y
  yld := fun i H v H' => ∃ T x y, v = .ref T ∧ H T = none ∧ H' = upd H T (.tup [x, y]) ∧ (∀ l, SqL K H a l → l[i]? = some x) ∧ ∀ l, SqT K H b l → l[i]? = some y
  stop := fun i H => ∃ xs ys : List V, SqL K H a xs ∧ SqT K H b ys ∧ i ≤ xs.length ∧ i ≤ ys.length ∧ (i = xs.length ∨ i = ys.length)
theorem in5 {z a b c d e : Addr} (h : z ∈ [a, b, c, d, e]) : z = a ∨ z = b ∨ z = c ∨ z = d ∨ z = e := by simpa using h
theorem turnM {P : Program} {w : World} {K : PySem.W.Frag} {elts : List Expr} {kk : Nat} {tpos : Pos} {a b z TI TO i1 i2 : Addr} (S : ZipSep2 z TI TO i1 i2 [i1, a] [i2, b]) :
    Turn P w K (.Tuple elts kk tpos) (ItzM K a b) [z, TI, TO, i1, i2] z (fun i h => IsZip h z TI TO .none ∧ IsTupOf2 h TI (.ref i1) (.ref i2) ∧ (∃ x y, IsTupOf2 h TO x y) ∧ h.IsListIter i1 a i ∧ h.IsTupleIter i2 b i) := by
  have n12 : i1 ≠ i2 := fun q => S.sep1_2 (by rw [q]; exact List.mem_cons_self ..)
  have z1 := S.zi1
  have z2 := S.zi2
  have t1 := S.Ti1
  have t2 := S.Ti2
  have keep4 : ∀ {h h' : Heap} {c : Addr} {o : Obj}, (∀ c o, c ≠ z → c ≠ TO → c ≠ i1 → c ≠ i2 → h.get? c = some o → h'.get? c = some o) → c ∉ [z, TI, TO, i1, i2] → h.get? c = some o → h'.get? c = some o :=
    fun k hc q => k _ _ (fun e => hc (by simp [e])) (fun e => hc (by simp [e])) (fun e => hc (by simp [e])) (fun e => hc (by simp [e])) q
  have size5 : ∀ {h : Heap} {i : Nat}, IsZip h z TI TO .none → IsTupOf2 h TI (.ref i1) (.ref i2) → (∃ x y, IsTupOf2 h TO x y) → h.IsListIter i1 a i → h.IsTupleIter i2 b i → ∀ c ∈ [z, TI, TO, i1, i2], c < h.objs.size := by
    intro h i hz hT ⟨x, y, hO⟩ ⟨o1, e1, _⟩ ⟨o2, e2, _⟩ c hc
    rcases in5 hc with q | q | q | q | q <;> subst q
    · exact Heap.lt_size hz
    · exact Heap.lt_size hT
    · exact Heap.lt_size hO
    · exact Heap.lt_size e1
    · exact Heap.lt_size e2
  refine { mem := List.mem_cons_self .., obj := ?_, keep := ?_, item := ?_, done := ?_, self := fun A i s Q E st h => wpAny_pyIter_zip st.1 h }
  · rintro i h ⟨hz, hT, ⟨x, y, hO⟩, ⟨o1, e1, _, d1⟩, ⟨o2, e2, _, d2⟩⟩ c hc
    rcases in5 hc with q | q | q | q | q <;> subst q
    · exact ⟨_, hz, fun v q => nomatch q⟩
    · exact ⟨_, hT, fun v q => nomatch q⟩
    · exact ⟨_, hO, fun v q => nomatch q⟩
    · exact ⟨o1, e1, fun v q => by rw [d1] at q; cases q⟩
    · exact ⟨o2, e2, fun v q => by rw [d2] at q; cases q⟩
  · rintro i h h' ⟨hz, hT, ⟨x, y, hO⟩, l1, l2⟩ k
    exact ⟨k z (by simp) _ hz, k TI (by simp) _ hT, ⟨x, y, k TO (by simp) _ hO⟩, l1.at fun o q => k i1 (by simp) o q, l2.at fun o q => k i2 (by simp) o q⟩
  · intro X hP hw hK hc i pins s σ H E I hf st hg
    subst hP hw hK
    obtain ⟨hz, hT, hO, l1, l2⟩ := st
    have lts := size5 hz hT hO l1 l2
    obtain ⟨x0, y0, hO⟩ := hO
    obtain ⟨xs, ys, x, y, qx, qy, hx, hy⟩ := hg
    obtain ⟨its, rv, p, _⟩ := I.list qx
    obtain ⟨its2, rv2, p2, _⟩ := I.tuple qy
    obtain ⟨u, hu, ru⟩ := rv.get hx
    obtain ⟨u2, hu2, ru2⟩ := rv2.get hy
    have a1 : a ≠ i1 := fun q => by
      obtain ⟨o, ho, c, _⟩ := l1
      obtain ⟨o', ho', c', _⟩ := p.isList
      rw [← q, ho'] at ho; cases ho
      rw [c'] at c; simp at c
    have b2 : b ≠ i2 := fun q => by
      obtain ⟨o, ho, c, _⟩ := l2
      obtain ⟨o', ho', c', _⟩ := p2
      rw [← q, ho'] at ho; cases ho
      rw [c'] at c; simp at c
    have hd : X.A.in1.handled = none := I.ok.hd hc
    have D1 := Draws.list (prog := X.prog) (w := X.w) hd i1 a a1 its.toArray
    have D2 := Draws.tuple (prog := X.prog) (w := X.w) hd i2 b b2 its2.toArray
    have s1 : i < its.toArray.size := by
      have := (List.getElem?_eq_some_iff.mp hu).1
      simpa using this
    have s2 : i < its2.toArray.size := by
      have := (List.getElem?_eq_some_iff.mp hu2).1
      simpa using this
    refine wpAny_pyNext_zipD2_item S D1 D2 hz hT hO ⟨l1, p.isList⟩ ⟨l2, p2⟩ s1 s2 fun v1 v2 h' tk e1 e2 z' O' st1 st2 hN hsz hk => ?_
    have ev1 : u = v1 := by
      have : its[i]? = some v1 := by simpa using e1
      rw [hu] at this; exact Option.some.inj this
    have ev2 : u2 = v2 := by
      have : its2[i]? = some v2 := by simpa using e2
      rw [hu2] at this; exact Option.some.inj this
    subst ev1 ev2
    refine ⟨_, rfl, wpAny_letOwnedTupleGo_zip (s := { s with heap := h', toks := tk }) z' fun h2 zz sb => ?_⟩
    have zlt : z < s.heap.objs.size := lts z (by simp)
    have pair : h2.get? s.heap.objs.size = some { cls := .type "tuple", data := .seq #[u, u2] } := (sb.2 _ (Nat.ne_of_gt zlt)).trans hN
    have new : ObjOk X.prog X.w (upd H s.heap.objs.size (.tup [x, y])) h2 s.heap.objs.size (.tup [x, y]) := ⟨by show 2 ≤ sizeLine; decide, [u, u2], .cons ru (.cons ru2 .nil), ⟨_, pair, rfl, _, rfl⟩⟩
    have I2 : Inv X pins σ (upd H s.heap.objs.size (.tup [x, y])) { s with heap := h2, toks := tk } :=
      I.turnedNew (t' := tk) (ch := [z, TI, TO, i1, i2]) (fun c o hb q => (sb.2 c (fun e => hb (by simp [e]))).trans (keep4 hk hb q)) hf (Nat.le_refl _) new
    refine ⟨.ref s.heap.objs.size, _, I2, rfl, ⟨_, x, y, rfl, I.hok.fresh (Nat.le_refl _), rfl, fun l hl => by rw [I.list_inj hl qx]; exact hx, fun l hl => by rw [I.tuple_inj hl qy]; exact hy⟩, ⟨zz, ?_, ⟨u, u2, ?_⟩, ?_, ?_⟩, fun c hc => ?_⟩
    · exact (sb.2 _ S.TIz).trans (hk _ _ S.TIz S.TITO S.TIi1 S.TIi2 hT)
    · exact (sb.2 _ S.TOz).trans O'
    · exact st1.1.at fun o q => (sb.2 _ z1.symm).trans q
    · exact st2.1.at fun o q => (sb.2 _ z2.symm).trans q
    · rw [upd_ne (Nat.ne_of_lt (lts c hc))]
      exact (hf c hc).1
  · intro X hP hw hK hc i pins s σ H E I hf st hg
    subst hP hw hK
    obtain ⟨hz, hT, ⟨x0, y0, hO⟩, l1, l2⟩ := st
    obtain ⟨xs, ys, qx, qy, le1, le2, hend⟩ := hg
    obtain ⟨its, rv, p, _⟩ := I.list qx
    obtain ⟨its2, rv2, p2, _⟩ := I.tuple qy
    have a1 : a ≠ i1 := fun q => by
      obtain ⟨o, ho, c, _⟩ := l1
      obtain ⟨o', ho', c', _⟩ := p.isList
      rw [← q, ho'] at ho; cases ho
      rw [c'] at c; simp at c
    have b2 : b ≠ i2 := fun q => by
      obtain ⟨o, ho, c, _⟩ := l2
      obtain ⟨o', ho', c', _⟩ := p2
      rw [← q, ho'] at ho; cases ho
      rw [c'] at c; simp at c
    have hd : X.A.in1.handled = none := I.ok.hd hc
    have e1 := rv.length
    have e2 := rv2.length
    refine wpAny_pyNext_zipD2_end S (Draws.list (prog := X.prog) (w := X.w) hd i1 a a1 its.toArray) (Draws.tuple (prog := X.prog) (w := X.w) hd i2 b b2 its2.toArray) hz hT hO ⟨l1, p.isList⟩ ⟨l2, p2⟩ (by simp; omega) (by simp; omega) (by simp; omega) fun h' tk hk => ?_
    exact ⟨rfl, I.turnedL (t' := tk) (ch := [z, TI, TO, i1, i2]) (fun c o hb q => keep4 hk hb q) hf⟩
def iZipM (K : PySem.W.Frag) (ta : TA) : TI := fun σ H R => ta σ H fun vs H1 => ∃ a b xs ys, vs = [.ref a, .ref b] ∧ SqL K H1 a xs ∧ SqT K H1 b ys ∧ R (ItzM K a b) H1
theorem pi_zipM {X : Cx} {e e2 : Expr} {ta : TA} {p pos tpos : Pos} {elts : List Expr} {kk : Nat} (hg : Gl X "zip") (hm : X.mg "zip" = none) (ha : PA X [e, e2] ta)
    (hs : starEach [e, e2] X.env = (false, eval e X.env) :: starEach [e2] X.env := by rfl) (hpl : (backTo pos (starEach [e2] X.env)).any (·.1) = false := by rfl) :
    PI X (.Tuple elts kk tpos) (.Call (.Name "zip" p) [e, e2] [] pos) (iZipM X.K ta) := by
  refine ⟨fun pins s σ H R I h => Call_ (ld_blt I hg hm PyProof.Rows.boot_zip (PyProof.Rows.callWith_type1 (thn (ha.run pos pins s σ H _ I h) ?_) hs hpl))⟩
  rintro us s1 ⟨vs, H1, I1, r1, a, b, xs, ys, rfl, qx, qy, q⟩
  cases r1 with | cons r rr => cases rr with | cons r' rr =>
  cases rr
  cases r
  cases r'
  obtain ⟨its, rv, p1, _⟩ := I1.list qx
  obtain ⟨its2, rv2, p2, _⟩ := I1.tuple qy
  obtain ⟨o2, ho2, _⟩ := id p2
  have lb : b < s1.heap.objs.size := Heap.lt_size ho2
  have la : a < s1.heap.objs.size := p1.lt
  have S := zip_sep2 (N := s1.heap.objs.size) (fp1 := [a]) (fp2 := [b]) (fun c hc => by simp at hc; rw [hc]; exact la) (fun c hc => by simp at hc; rw [hc]; exact lb)
  refine zip_begins2 (begins_list a its.toArray) (begins_tuple b its2.toArray) p1.isList p2 fun h' hz hT hO g1 g2 hsz hk => wpAny_pyIter_zip hz ?_
  have I2 : Inv X pins σ H1 { s1 with heap := h' } := I1.kept (t' := s1.toks) hk
  refine ⟨_, [s1.heap.objs.size + 4, s1.heap.objs.size + 2, s1.heap.objs.size + 3, s1.heap.objs.size, s1.heap.objs.size + 1], _, _, H1, rfl, I2, turnM S, ⟨hz, hT, ⟨_, _, hO⟩, ⟨_, g1, rfl, rfl⟩, ⟨_, g2, rfl, rfl⟩⟩, fun c hc => ?_, q⟩
  have le : s1.heap.objs.size ≤ c := by
    rcases in5 hc with z | z | z | z | z <;> rw [z] <;> first | exact Nat.le_refl _ | exact Nat.le_add_right _ _
  exact I1.fpOk le (I1.hok.fresh le)
theorem walk_zipM {K : PySem.W.Frag} {a b : Addr} {xs ys : List V} (e : xs.length = ys.length) : Walk (ItzM K a b) xs.length (fun H => SqL K H a xs ∧ SqT K H b ys) (YPair (fun i => xs[i]?) (fun i => ys[i]?)) := by
  refine ⟨fun i _ hi q => ?_, fun _ q => ⟨xs, ys, q.1, q.2, Nat.le_refl _, Nat.le_of_eq e, .inl rfl⟩, fun i H v H' _ q y => ?_⟩
  · have h2 : i < ys.length := by omega
    exact ⟨xs, ys, xs[i], ys[i], q.1, q.2, by simp [hi], by simp [h2]⟩
  · obtain ⟨T, x, z, h1, h2, h3, h4, h5⟩ := y
    exact ⟨T, x, z, h1, h2, h3, h4 xs q.1, h5 ys q.2⟩
theorem walk_zipT {K : PySem.W.Frag} {a b : Addr} {xs ys : List V} (e : xs.length = ys.length) : Walk (RZ.ItzT K a b) xs.length (fun H => SqT K H a xs ∧ SqT K H b ys) (YPair (fun i => xs[i]?) (fun i => ys[i]?)) := by
  refine ⟨fun i _ hi q => ?_, fun _ q => ⟨xs, ys, q.1, q.2, .inl (Nat.le_refl _)⟩, fun i H v H' _ q y => ?_⟩
  · have h2 : i < ys.length := by omega
    exact ⟨xs, ys, xs[i], ys[i], q.1, q.2, by simp [hi], by simp [h2]⟩
  · obtain ⟨T, x, z, h1, h2, h3, h4, h5⟩ := y
    exact ⟨T, x, z, h1, h2, h3, h4 xs q.1, h5 ys q.2⟩

/-! ### lists of ints as data -/
section
variable {K : PySem.W.Frag} {H : Hp}
theorem dp_ints : ∀ ns : List Int, DpAll K H (ns.map V.int) (ns.map PyData.int)
  | [] => .nil
  | n :: ns => .cons (.int n) (dp_ints ns)
theorem lay_ints : ∀ ns : List Int, PyData.canLayAll0 (ns.map PyData.int) = true
  | [] => by simp [PyData.canLayAll0]
  | n :: ns => by simp [PyData.canLayAll0, PyData.canLay0, lay_ints ns]
theorem deep_ints : ∀ ns : List Int, PyData.depthAll (ns.map PyData.int) ≤ 1
  | [] => by simp [PyData.depthAll]
  | n :: ns => by
    have := deep_ints ns
    simp only [List.map_cons, PyData.depthAll, PyData.depth]
    omega
theorem shaped_ints (ns : List Int) : SeqAt.shaped (.list (ns.map PyData.int)) = true := by
  have h := deep_ints ns
  have h2 : PyData.depth (.list (ns.map PyData.int)) ≤ 64 := by
    simp only [PyData.depth]; omega
  show (PyData.canLay0 (.list (ns.map PyData.int)) && decide (PyData.depth (.list (ns.map PyData.int)) ≤ 64)) = true
  rw [Bool.and_eq_true]
  exact ⟨by simp only [PyData.canLay0]; exact lay_ints ns, decide_eq_true h2⟩
theorem eqv_ints_nil (ns : List Int) : PyData.eqv (.list (ns.map PyData.int)) (.list []) = ns.isEmpty := by
  cases ns <;> simp [PyData.eqv, PyData.eqvAll]
end
/-! ### rules with the written part told: what they ask hangs on no block's own things -/
section
variable {X : Cx} (K : PySem.W.Frag)
theorem kix_tup (e : X.K = K := by rfl) : IxR X (rIxT K) := by subst e; exact ix_tup
theorem kix_list (e : X.K = K := by rfl) : IxR X (rIxL K) := by subst e; exact ix_list
def rLenK : List V → Hp → VK → Prop := fun xs H Q => ∃ p ys, xs = [.ref p] ∧ (SqL K H p ys ∨ SqT K H p ys) ∧ Q (.int ys.length) H
theorem kcall_len (e : X.K = K := by rfl) : CallR X (.builtin "len") (rLenK K) := by subst e; exact call_len_seq
def rTupK : List V → Hp → VK → Prop := fun xs H Q => ∃ p ys, xs = [.ref p] ∧ ((SqL K H p ys ∧ ∀ l, H l = none → Q (.ref l) (upd H l (.tup ys))) ∨ (SqT K H p ys ∧ Q (.ref p) H))
theorem kcall_tuple (e : X.K = K := by rfl) : CallR X (.type "tuple") (rTupK K) := by subst e; exact call_tuple_of
def rLstK : List V → Hp → VK → Prop := fun xs H Q => ∃ p ys, xs = [.ref p] ∧ (SqL K H p ys ∨ SqT K H p ys) ∧ ∀ l, H l = none → Q (.ref l) (upd H l (.lst ys))
theorem kcall_list (e : X.K = K := by rfl) : CallR X (.type "list") (rLstK K) := by subst e; exact call_list_of
theorem kcall_isi (e : X.K = K := by rfl) : CallR X (.builtin "isinstance") (rIsi K) := by subst e; exact call_isi
theorem kcr_all (hc : X.calm = true := by rfl) (e : X.K = K := by rfl) : CallR X (.builtin "all") (rAll K) := by subst e; exact cr_all hc
theorem kop_eqD (hu : X.A.units + 64 < cLine) (e : X.K = K := by rfl) : OpR X (compareOp .Eq) (rEqD K) := by subst e; exact op_eqD hu
theorem kop_neD (hu : X.A.units + 64 < cLine) (e : X.K = K := by rfl) : OpR X (compareOp .NotEq) (rNeD K) := by subst e; exact op_neD hu
theorem kpi_tup {tg l : Expr} {tl : TE} (hl : PE X l tl) (e : X.K = K := by rfl) : PI X tg l (iTup K tl) := by subst e; exact pi_tup hl
theorem kpi_list {tg l : Expr} {tl : TE} (hl : PE X l tl) (e : X.K = K := by rfl) : PI X tg l (iList K tl) := by subst e; exact pi_list hl
theorem kpg_tup {es : List Expr} {k : Nat} {pos : Pos} {t : TGs} {n : Nat} (hc : X.calm = true) (h : PGs X es t) (hn : (assignEach es X.env).length = n := by rfl) (hst : (assignEach es X.env).findIdx? (·.1) = none := by rfl) (e : X.K = K := by rfl) : PG X (.Tuple es k pos) (gTup K n t) := by
  subst e; exact pg_tup hc h hn hst
theorem kpi_zipM {e1 e2 : Expr} {ta : TA} {p pos tpos : Pos} {elts : List Expr} {kk : Nat} (hg : Gl X "zip") (hm : X.mg "zip" = none) (ha : PA X [e1, e2] ta)
    (hs : starEach [e1, e2] X.env = (false, eval e1 X.env) :: starEach [e2] X.env := by rfl) (hpl : (backTo pos (starEach [e2] X.env)).any (·.1) = false := by rfl) (e : X.K = K := by rfl) :
    PI X (.Tuple elts kk tpos) (.Call (.Name "zip" p) [e1, e2] [] pos) (iZipM K ta) := by subst e; exact pi_zipM hg hm ha hs hpl
theorem kpi_zip {e1 e2 : Expr} {ta : TA} {p pos tpos : Pos} {elts : List Expr} {kk : Nat} (hg : Gl X "zip") (hm : X.mg "zip" = none) (ha : PA X [e1, e2] ta)
    (hs : starEach [e1, e2] X.env = (false, eval e1 X.env) :: starEach [e2] X.env := by rfl) (hpl : (backTo pos (starEach [e2] X.env)).any (·.1) = false := by rfl) (e : X.K = K := by rfl) :
    PI X (.Tuple elts kk tpos) (.Call (.Name "zip" p) [e1, e2] [] pos) (RZ.iZipA K ta) := by subst e; exact RZ.pi_zipA hg hm ha hs hpl
end
/-! ### a comprehension without tests -/
theorem lc_all {J : It} {n : Nat} {G : Hp → Prop} {Y : Nat → Hp → V → Hp → Prop} (w : Walk J n G Y) {g : TG} {te : TE} {vs : List Nat} {σ : L2.St} {H1 : Hp} {D : Addr} {Qd : Hp → Prop} (Pv : Nat → Hp → Prop) (h0 : Pv 0 (upd H1 D (.lst []))) (hG : ∀ i H, i ≤ n → Pv i H → G H)
    (hs : ∀ i x H H', i < n → Pv i H → Y i H x H' → g x (wipe σ vs) H' fun σ2 H2 => wipe σ2 vs = wipe σ vs ∧ te σ2 H2 fun y H4 => ∃ acc, H4 D = some (.lst acc) ∧ acc.length < sizeLine ∧ Pv (i + 1) (upd H4 D (.lst (acc ++ [y]))))
    (hd : ∀ H, Pv n H → Qd H) :
    ∃ W : Nat → Nat → Hp → Prop, (∃ m, W 0 m (upd H1 D (.lst []))) ∧ ∀ i m H, W i m H →
      (J.stop i H ∧ Qd H) ∨ (J.go i H ∧ ∃ Nx : Hp → Prop, (∀ H', Nx H' → ∃ m', m' < m ∧ W (i + 1) m' H') ∧ ∀ x H', J.yld i H x H' → g x (wipe σ vs) H' fun σ2 H2 => wipe σ2 vs = wipe σ vs ∧ tYes σ2 H2 fun b H3 =>
        if b = true then te σ2 H3 fun y H4 => ∃ acc, H4 D = some (.lst acc) ∧ acc.length < sizeLine ∧ Nx (upd H4 D (.lst (acc ++ [y]))) else Nx H3) := by
  refine lc_it w Pv h0 hG (fun i x H H' hi p y => ?_) hd
  have h := hs i x H H' hi p y
  refine Eq.mp (congrArg (g x (wipe σ vs) H') ?_) h
  funext σ2 H2
  simp only [tYes, if_true]
/-- nothing is kept but the values that came: the list holds f of each turn -/
theorem lc_acc {J : It} {n : Nat} {G : Hp → Prop} {Y : Nat → Hp → V → Hp → Prop} (w : Walk J n G Y) {g : TG} {te : TE} {vs : List Nat} {σ : L2.St} {H1 : Hp} {D : Addr} {Qd : Hp → Prop} (Pv : Nat → List V → Hp → Prop) (hn : n < sizeLine) (h0 : Pv 0 [] (upd H1 D (.lst []))) (hG : ∀ i acc H, i ≤ n → Pv i acc H → G H)
    (hs : ∀ i x acc H H', i < n → Pv i acc H → H D = some (.lst acc) → acc.length = i → Y i H x H' → g x (wipe σ vs) H' fun σ2 H2 => wipe σ2 vs = wipe σ vs ∧ te σ2 H2 fun y H4 => H4 D = some (.lst acc) ∧ Pv (i + 1) (acc ++ [y]) (upd H4 D (.lst (acc ++ [y]))))
    (mono : ∀ σ H (Q Q' : VK), (∀ v H1, Q v H1 → Q' v H1) → te σ H Q → te σ H Q') (gmono : ∀ x σ H (Q Q' : L2.St → Hp → Prop), (∀ σ1 H1, Q σ1 H1 → Q' σ1 H1) → g x σ H Q → g x σ H Q')
    (hd : ∀ acc H, Pv n acc H → H D = some (.lst acc) → acc.length = n → Qd H) :
    ∃ W : Nat → Nat → Hp → Prop, (∃ m, W 0 m (upd H1 D (.lst []))) ∧ ∀ i m H, W i m H →
      (J.stop i H ∧ Qd H) ∨ (J.go i H ∧ ∃ Nx : Hp → Prop, (∀ H', Nx H' → ∃ m', m' < m ∧ W (i + 1) m' H') ∧ ∀ x H', J.yld i H x H' → g x (wipe σ vs) H' fun σ2 H2 => wipe σ2 vs = wipe σ vs ∧ tYes σ2 H2 fun b H3 =>
        if b = true then te σ2 H3 fun y H4 => ∃ acc, H4 D = some (.lst acc) ∧ acc.length < sizeLine ∧ Nx (upd H4 D (.lst (acc ++ [y]))) else Nx H3) := by
  refine lc_all w (fun i H => ∃ acc, acc.length = i ∧ H D = some (.lst acc) ∧ Pv i acc H) ⟨[], rfl, upd_same, h0⟩ (fun i H hi ⟨acc, _, _, p⟩ => hG i acc H hi p) (fun i x H H' hi ⟨acc, l, e, p⟩ y => ?_) (fun H ⟨acc, l, e, p⟩ => hd acc H p e l)
  refine gmono _ _ _ _ _ (fun σ1 H2 ⟨a, b⟩ => ⟨a, mono _ _ _ _ (fun v H3 ⟨c, d⟩ => ⟨acc, c, by omega, acc ++ [v], by rw [List.length_append, l]; rfl, upd_same, d⟩) b⟩) (hs i x acc H H' hi p e l y)

/-! ### the end: where each def stands behind the top -/
/-- the name x holds the def st -/
def Here (K : PySem.W.Frag) (mg : Str → Option Value) (x : Str) (st : Stmt) : Prop := ∃ f fd, mg x = some (.ref f) ∧ Fun K x x st f fd
section
variable {P : Program} {w : World} {K : PySem.W.Frag} {mg : Str → Option Value} {base h : Heap}
theorem here (X : K.In h) (G : h.Ns mainGlobals mg) {x : Str} {st : Stmt} {f : Addr} {oc : Value} {od an : Option Addr} {osl : Array (Option Value)} {kV doc pm cdv ct : Value}
    (a : PySem.W.nsIn K mainGlobals x = some (some (.ref f)))
    (l : K.lookup f = some ⟨oc, od, .func (PySem.W.fnOf x x (defArgs st) (defBody st) (defScope st) .none kV doc pm an cdv ct), osl⟩)
    (c : PySem.W.codeIn K cdv x = true) (k : PySem.W.keepIn K (.ref f) = true) : Here K mg x st := ⟨f, _, PySem.W.mg_of X G a, fun_mk l c k⟩
theorem Here.toDef {x : Str} {st : Stmt} {k : Nat} {ps : List Str} {sp : Sp} (z : Here K mg x st) (ok : ∀ {f : Addr} {fd : FuncData}, Fun K x x st f fd → FnOk P w K mg base CX0 k f fd ps sp)
    (b : ∀ (kV doc pm : Value) (an : Option Addr) (cdv ct : Value) (us : List Value), us.length = ps.length → bindArgs (PySem.W.fnOf x x (defArgs st) (defBody st) (defScope st) .none kV doc pm an cdv ct) ⟨us, []⟩ = pure (ps.zip us)) : Def P w K mg base k x st ps sp := by
  obtain ⟨f, fd, hm, F⟩ := z
  exact ⟨f, fd, ok F, hm, F.kp, F.binds b, F⟩
theorem pair_mk (X : K.In h) (G : h.Ns mainGlobals mg) {x : Str} {a : Addr} {i j : Int} {t u : Tok} {dd : Option Addr} {n : Nat} {sl : Array (Option Value)}
    (h1 : PySem.W.nsIn K mainGlobals x = some (some (.ref a))) (h2 : K.lookup a = some ⟨.type "tuple", dd, .seq #[.int i t, .int j u] n, sl⟩) : ∃ a, mg x = some (.ref a) ∧ ∀ H, ITup K H a [.int i, .int j] :=
  ⟨a, PySem.W.mg_of X G h1, fun _ => .inr ⟨_, _, _, h2, rfl, rfl, by show 2 ≤ sizeLine; decide, .cons ⟨_, rfl⟩ (.cons ⟨_, rfl⟩ .nil)⟩⟩
end
end Ly

set_option linter.all false
set_option maxRecDepth 10000
/-! plain mathematics: ratios, sums of products, products of matrices -/
namespace Mt
theorem made_num {t b : Int} (hb : 0 < b) : t / ((Nat.gcd t.natAbs b.natAbs : Nat) : Int) = (Rat.divInt t b).num := by
  rw [Rat.num_divInt, Int.sign_eq_one_of_pos hb, Int.one_mul, Int.gcd_comm]; rfl
theorem made_den {t b : Int} (hb : 0 < b) : b / ((Nat.gcd t.natAbs b.natAbs : Nat) : Int) = ((Rat.divInt t b).den : Int) := by
  rw [Rat.den_divInt, if_neg (by omega), Int.gcd_comm]
  show b / ((Nat.gcd t.natAbs b.natAbs : Nat) : Int) = ((b.natAbs / Nat.gcd t.natAbs b.natAbs : Nat) : Int)
  have e : b = (b.natAbs : Int) := by omega
  rw [Int.natCast_ediv]
  congr 1
theorem gcd_pos {t b : Int} (hb : 0 < b) : (0 : Int) < ((Nat.gcd t.natAbs b.natAbs : Nat) : Int) := by
  have : 0 < Nat.gcd t.natAbs b.natAbs := Nat.gcd_pos_of_pos_right _ (by omega)
  omega
theorem gcd_le {t b : Int} (hb : 0 < b) : ((Nat.gcd t.natAbs b.natAbs : Nat) : Int).natAbs ≤ b.natAbs := by
  show Nat.gcd t.natAbs b.natAbs ≤ b.natAbs
  exact Nat.gcd_le_right _ (by omega)
theorem den_pos (q : Rat) : (0 : Int) < (q.den : Int) := by have := q.den_pos; omega
theorem cop (q : Rat) : Nat.gcd q.num.natAbs ((q.den : Int)).natAbs = 1 := q.reduced
theorem add_as (x y : Rat) : Rat.divInt (x.num * (y.den : Int) + y.num * (x.den : Int)) ((x.den : Int) * (y.den : Int)) = x + y := by
  have hx : (x.den : Int) ≠ 0 := by have := den_pos x; omega
  have hy : (y.den : Int) ≠ 0 := by have := den_pos y; omega
  rw [← Rat.divInt_add_divInt _ _ hx hy, Rat.num_divInt_den, Rat.num_divInt_den]
theorem mul_as (x y : Rat) : Rat.divInt (x.num * y.num) ((x.den : Int) * (y.den : Int)) = x * y := by
  rw [← Rat.divInt_mul_divInt, Rat.num_divInt_den, Rat.num_divInt_den]
theorem num_zero {q : Rat} (h : q.num = 0) : q = 0 := by
  have := Rat.num_divInt_den q
  rw [h] at this
  rw [← this]
  simp
/-- bounds of both parts -/
def Bd (n m : Nat) (q : Rat) : Prop := q.num.natAbs < 2 ^ n ∧ ((q.den : Int)).natAbs < 2 ^ m
theorem Bd.mono {n m n' m' : Nat} {q : Rat} (h : Bd n m q) (hn : n ≤ n') (hm : m ≤ m') : Bd n' m' q :=
  ⟨Nat.lt_of_lt_of_le h.1 (Nat.pow_le_pow_right (by decide) hn), Nat.lt_of_lt_of_le h.2 (Nat.pow_le_pow_right (by decide) hm)⟩
theorem bd_divInt {n m : Nat} {t b : Int} (hb : 0 < b) (ht : t.natAbs < 2 ^ n) (hm : b.natAbs < 2 ^ m) : Bd n m (Rat.divInt t b) := by
  refine ⟨?_, ?_⟩
  · rw [← made_num hb, Int.natAbs_ediv_of_dvd (Int.ofNat_dvd_left.mpr (Nat.gcd_dvd_left _ _))]
    exact Nat.lt_of_le_of_lt (Nat.div_le_self _ _) ht
  · rw [← made_den hb, Int.natAbs_ediv_of_dvd (Int.ofNat_dvd_left.mpr (Nat.gcd_dvd_right _ _))]
    exact Nat.lt_of_le_of_lt (Nat.div_le_self _ _) hm
theorem lt_mul {i j : Int} {a b : Nat} (ha : i.natAbs < 2 ^ a) (hb : j.natAbs < 2 ^ b) : (i * j).natAbs < 2 ^ (a + b) := by
  rw [Int.natAbs_mul, Nat.pow_add]
  exact Nat.mul_lt_mul'' ha hb
theorem lt_add {i j : Int} {a : Nat} (ha : i.natAbs < 2 ^ a) (hb : j.natAbs < 2 ^ a) : (i + j).natAbs < 2 ^ (a + 1) := by
  have := Int.natAbs_add_le i j
  rw [Nat.pow_succ]; omega
theorem lt_up {i : Int} {a b : Nat} (ha : i.natAbs < 2 ^ a) (h : a ≤ b) : i.natAbs < 2 ^ b := Nat.lt_of_lt_of_le ha (Nat.pow_le_pow_right (by decide) h)
theorem Bd.mul {n m n' m' : Nat} {x y : Rat} (h : Bd n m x) (k : Bd n' m' y) : Bd (n + n') (m + m') (x * y) := by
  rw [← mul_as]
  exact bd_divInt (Int.mul_pos (den_pos x) (den_pos y)) (lt_mul h.1 k.1) (lt_mul h.2 k.2)
theorem Bd.add {n m n' m' N : Nat} {x y : Rat} (h : Bd n m x) (k : Bd n' m' y) (h1 : n + m' ≤ N) (h2 : n' + m ≤ N) : Bd (N + 1) (m + m') (x + y) := by
  rw [← add_as]
  exact bd_divInt (Int.mul_pos (den_pos x) (den_pos y)) (lt_add (lt_up (lt_mul h.1 k.2) h1) (lt_up (lt_mul k.1 h.2) h2)) (lt_mul h.2 k.2)
theorem bd_zero {n m : Nat} (hm : 1 ≤ m) : Bd n m 0 := by
  refine ⟨?_, ?_⟩
  · show 0 < 2 ^ n
    exact Nat.two_pow_pos n
  · show 1 < 2 ^ m
    exact Nat.lt_of_lt_of_le (by decide : 1 < 2 ^ 1) (Nat.pow_le_pow_right (by decide) hm)

/-! ### sums of products -/
def dot : List Rat → List Rat → Rat
  | x :: xs, y :: ys => x * y + dot xs ys
  | _, _ => 0
theorem dot_nil (ys : List Rat) : dot [] ys = 0 := by cases ys <;> rfl
theorem dot_nil2 (xs : List Rat) : dot xs [] = 0 := by cases xs <;> rfl
theorem dot_take : ∀ {xs ys : List Rat} {i : Nat} {x y : Rat}, xs[i]? = some x → ys[i]? = some y → dot (xs.take (i + 1)) (ys.take (i + 1)) = dot (xs.take i) (ys.take i) + x * y
  | a :: xs, b :: ys, 0, x, y, h, k => by
    simp at h k; subst h k
    simp [dot]; grind
  | a :: xs, b :: ys, i + 1, x, y, h, k => by
    have ih := dot_take (xs := xs) (ys := ys) (i := i) (by simpa using h) (by simpa using k)
    simp only [List.take_succ_cons, dot] at ih ⊢
    rw [ih]; grind
  | [], _, _, _, _, h, _ => by simp at h
  | _ :: _, [], _, _, _, _, k => by simp at k
/-- a row and a multiple of another one -/
def addS (acc : List Rat) (w : Rat) (r : List Rat) : List Rat := List.zipWith (fun o t => o + w * t) acc r
/-- the sum of multiples of rows, ahead of it acc -/
def comb : List Rat → List (List Rat) → List Rat → List Rat
  | w :: ws, r :: rs, acc => comb ws rs (addS acc w r)
  | _, _, acc => acc
theorem addS_length {acc r : List Rat} {w : Rat} (h : r.length = acc.length) : (addS acc w r).length = acc.length := by
  unfold addS; rw [List.length_zipWith]; omega
theorem addS_zero : ∀ {acc r : List Rat}, r.length = acc.length → addS acc 0 r = acc
  | [], [], _ => rfl
  | a :: acc, b :: r, h => by
    have ih := addS_zero (acc := acc) (r := r) (by simpa using h)
    show (a + 0 * b) :: addS acc 0 r = a :: acc
    rw [ih, Rat.zero_mul, Rat.add_zero]
  | [], _ :: _, h => by simp at h
  | _ :: _, [], h => by simp at h
theorem addS_get {acc r : List Rat} {w : Rat} {k : Nat} {a b : Rat} (ha : acc[k]? = some a) (hb : r[k]? = some b) : (addS acc w r)[k]? = some (a + w * b) := by
  unfold addS; rw [List.getElem?_zipWith, ha, hb]
theorem comb_length : ∀ {ws : List Rat} {rs : List (List Rat)} {acc : List Rat}, (∀ r ∈ rs, r.length = acc.length) → (comb ws rs acc).length = acc.length
  | [], _, _, _ => by simp [comb]
  | _ :: _, [], _, _ => by simp [comb]
  | w :: ws, r :: rs, acc, h => by
    have h0 := h r (List.mem_cons_self ..)
    have e := addS_length (w := w) h0
    show (comb ws rs (addS acc w r)).length = acc.length
    rw [comb_length (fun q hq => by rw [e]; exact h q (List.mem_cons_of_mem _ hq)), e]
/-- the k-th column -/
def col (rs : List (List Rat)) (k : Nat) : List Rat := rs.map fun r => r.getD k 0
theorem comb_get : ∀ {ws : List Rat} {rs : List (List Rat)} {acc : List Rat} {k : Nat} {a : Rat}, (∀ r ∈ rs, r.length = acc.length) → acc[k]? = some a → (comb ws rs acc)[k]? = some (a + dot ws (col rs k))
  | [], rs, acc, k, a, _, ha => by
    rw [dot_nil, Rat.add_zero]; simpa [comb] using ha
  | _ :: _, [], acc, k, a, _, ha => by
    show acc[k]? = some (a + dot _ [])
    rw [dot_nil2, Rat.add_zero]; exact ha
  | w :: ws, r :: rs, acc, k, a, h, ha => by
    have h0 := h r (List.mem_cons_self ..)
    have hk : k < r.length := by rw [h0]; exact (List.getElem?_eq_some_iff.mp ha).1
    have hr : r[k]? = some r[k] := List.getElem?_eq_getElem hk
    have e := addS_length (w := w) h0
    have ih := comb_get (ws := ws) (rs := rs) (acc := addS acc w r) (k := k) (fun q hq => by rw [e]; exact h q (List.mem_cons_of_mem _ hq)) (addS_get (w := w) ha hr)
    show (comb ws rs (addS acc w r))[k]? = some (a + (w * r.getD k 0 + dot ws (col rs k)))
    rw [ih, List.getD_eq_getElem?_getD, hr]
    show some (a + w * r[k] + dot ws (col rs k)) = some (a + (w * r[k] + dot ws (col rs k)))
    rw [Rat.add_assoc]
theorem comb_snoc : ∀ {ws : List Rat} {rs : List (List Rat)} {acc : List Rat} {w : Rat} {r : List Rat}, ws.length = rs.length → comb (ws ++ [w]) (rs ++ [r]) acc = addS (comb ws rs acc) w r
  | [], [], _, _, _, _ => rfl
  | a :: ws, b :: rs, acc, w, r, h => by
    show comb (ws ++ [w]) (rs ++ [r]) (addS acc a b) = addS (comb ws rs (addS acc a b)) w r
    exact comb_snoc (by simpa using h)
  | [], _ :: _, _, _, _, h => by simp at h
  | _ :: _, [], _, _, _, h => by simp at h
/-- one row times a matrix whose rows have n entries -/
def vm (n : Nat) (r : List Rat) (B : List (List Rat)) : List Rat := comb r B (List.replicate n 0)
theorem vm_as {n : Nat} {r : List Rat} {B : List (List Rat)} (h : ∀ b ∈ B, b.length = n) : vm n r B = (List.range n).map fun k => dot r (col B k) := by
  have h' : ∀ b ∈ B, b.length = (List.replicate n (0 : Rat)).length := fun b hb => by rw [h b hb, List.length_replicate]
  apply List.ext_getElem?
  intro k
  by_cases hk : k < n
  · have e : (List.replicate n (0 : Rat))[k]? = some 0 := by rw [List.getElem?_replicate, if_pos hk]
    have := comb_get (ws := r) h' e
    unfold vm
    rw [this, List.getElem?_map, List.getElem?_range hk, Rat.zero_add]
    rfl
  · have l1 : (vm n r B).length = n := by unfold vm; rw [comb_length h', List.length_replicate]
    rw [List.getElem?_eq_none (by omega), List.getElem?_eq_none (by simp; omega)]
theorem vm_length {n : Nat} {r : List Rat} {B : List (List Rat)} (h : ∀ b ∈ B, b.length = n) : (vm n r B).length = n := by
  rw [vm_as h]; simp
def mm (n : Nat) (A B : List (List Rat)) : List (List Rat) := A.map fun r => vm n r B
theorem dot_addS : ∀ {acc b c : List Rat} {w : Rat}, b.length = acc.length → dot (addS acc w b) c = dot acc c + w * dot b c
  | [], [], c, w, _ => by
    show dot [] c = dot [] c + w * dot [] c
    rw [dot_nil]; grind
  | x :: acc, y :: b, [], w, _ => by
    rw [dot_nil2, dot_nil2, dot_nil2]; grind
  | x :: acc, y :: b, z :: c, w, h => by
    have ih := dot_addS (acc := acc) (b := b) (c := c) (w := w) (by simpa using h)
    show (x + w * y) * z + dot (addS acc w b) c = x * z + dot acc c + w * (y * z + dot b c)
    rw [ih]; grind
  | [], _ :: _, _, _, h => by simp at h
  | _ :: _, [], _, _, h => by simp at h
theorem dot_comb : ∀ {ws : List Rat} {rs : List (List Rat)} {acc c : List Rat}, (∀ r ∈ rs, r.length = acc.length) → dot (comb ws rs acc) c = dot acc c + dot ws (rs.map fun r => dot r c)
  | [], rs, acc, c, _ => by
    rw [dot_nil, Rat.add_zero]; simp [comb]
  | _ :: _, [], acc, c, _ => by
    show dot acc c = dot acc c + dot _ []
    rw [dot_nil2, Rat.add_zero]
  | w :: ws, r :: rs, acc, c, h => by
    have h0 := h r (List.mem_cons_self ..)
    have e := addS_length (w := w) h0
    have ih := dot_comb (ws := ws) (rs := rs) (acc := addS acc w r) (c := c) (fun q hq => by rw [e]; exact h q (List.mem_cons_of_mem _ hq))
    show dot (comb ws rs (addS acc w r)) c = dot acc c + (w * dot r c + dot ws (rs.map fun r => dot r c))
    rw [ih, dot_addS h0, Rat.add_assoc]
theorem dot_zeros : ∀ {n : Nat} {c : List Rat}, dot (List.replicate n 0) c = 0
  | 0, c => dot_nil c
  | n + 1, [] => dot_nil2 _
  | n + 1, z :: c => by
    rw [List.replicate_succ]
    show 0 * z + dot (List.replicate n 0) c = 0
    rw [dot_zeros, Rat.zero_mul, Rat.add_zero]
theorem dot_vm {n : Nat} {r c : List Rat} {B : List (List Rat)} (h : ∀ b ∈ B, b.length = n) : dot (vm n r B) c = dot r (B.map fun b => dot b c) := by
  unfold vm
  rw [dot_comb (fun b hb => by rw [h b hb, List.length_replicate]), dot_zeros, Rat.zero_add]
/-- of three matrices it is the same whichever two come first -/
theorem mm_assoc {n m : Nat} {A B C : List (List Rat)} (hB : ∀ b ∈ B, b.length = n) (hC : ∀ c ∈ C, c.length = m) : mm m (mm n A B) C = mm m A (mm m B C) := by
  unfold mm
  rw [List.map_map]
  refine List.map_congr_left fun r _ => ?_
  show vm m (vm n r B) C = vm m r (B.map fun b => vm m b C)
  have hM : ∀ x ∈ B.map (fun b => vm m b C), x.length = m := fun x hx => by
    obtain ⟨b', _, rfl⟩ := List.mem_map.mp hx
    exact vm_length hC
  rw [vm_as hM, vm_as (r := vm n r B) hC]
  refine List.map_congr_left fun k hk => ?_
  have hk' : k < m := List.mem_range.mp hk
  rw [dot_vm hB]
  congr 1
  unfold col
  rw [List.map_map]
  refine List.map_congr_left fun b _ => ?_
  show dot b (C.map fun r => r.getD k 0) = (vm m b C).getD k 0
  rw [vm_as hC, List.getD_eq_getElem?_getD, List.getElem?_map, List.getElem?_range hk']
  rfl
/-! ### bounds of what comes -/
theorem bd_dot {N M : Nat} : ∀ {i : Nat} {xs ys : List Rat}, (∀ x ∈ xs, ∀ y ∈ ys, Bd N M (x * y)) → xs.length ≤ i → Bd (N + i * (M + 2)) (i * M + 1) (dot xs ys)
  | i, [], ys, _, _ => by rw [dot_nil]; exact bd_zero (by omega)
  | i, _ :: _, [], _, _ => by rw [dot_nil2]; exact bd_zero (by omega)
  | 0, _ :: _, _ :: _, _, h => by simp at h
  | i + 1, x :: xs, y :: ys, h, hl => by
    have ih := bd_dot (i := i) (xs := xs) (ys := ys) (fun a ha b hb => h a (List.mem_cons_of_mem _ ha) b (List.mem_cons_of_mem _ hb)) (by simpa using hl)
    have h0 := h x (List.mem_cons_self ..) y (List.mem_cons_self ..)
    have e1 : (i + 1) * (M + 2) = i * M + 2 * i + M + 2 := by grind
    have e2 : (i + 1) * M = i * M + M := by grind
    have e3 : i * (M + 2) = i * M + 2 * i := by grind
    show Bd _ _ (x * y + dot xs ys)
    have q := Bd.add h0 ih (N := N + i * M + 2 * i + M + 1) (by omega) (by rw [e3]; omega)
    refine q.mono (by rw [e1]; omega) (by rw [e2]; omega)
theorem bd_vm {n : Nat} {ws : List Rat} {B : List (List Rat)} (h : ∀ b ∈ B, b.length = n) (hw : ∀ x ∈ ws, Bd 400 40 x) (hB : ∀ b ∈ B, ∀ y ∈ b, Bd 400 40 y) (hl : ws.length ≤ 48) : ∀ q ∈ vm n ws B, Bd 5000 4000 q := by
  intro q hq
  rw [vm_as h] at hq
  obtain ⟨k, hk, rfl⟩ := List.mem_map.mp hq
  have hk' := List.mem_range.mp hk
  refine (bd_dot (N := 800) (M := 80) (i := 48) (fun x hx y hy => ?_) hl).mono (by decide) (by decide)
  obtain ⟨b, hb, rfl⟩ := List.mem_map.mp hy
  have e : b.getD k 0 ∈ b := by
    have hkb : k < b.length := by rw [h b hb]; exact hk'
    rw [List.getD_eq_getElem?_getD, List.getElem?_eq_getElem hkb]
    exact List.getElem_mem hkb
  exact (Bd.mul (hw x hx) (hB b hb _ e)).mono (by decide) (by decide)
theorem vm_step {n i : Nat} {ws : List Rat} {B : List (List Rat)} {w : Rat} {r : List Rat} (hl : ws.length = B.length) (hw : ws[i]? = some w) (hr : B[i]? = some r) : vm n (ws.take (i + 1)) (B.take (i + 1)) = addS (vm n (ws.take i) (B.take i)) w r := by
  unfold vm
  rw [List.take_add_one, List.take_add_one, hw, hr]
  exact comb_snoc (by rw [List.length_take, List.length_take, hl])
end Mt

set_option Elab.async false
set_option linter.all false
set_option maxRecDepth 100000
/-! ratios, vectors and matrices as data -/
namespace Ly
open PySem PySem.Spec PyProof.Rows L2 Mt
def rD (q : Rat) : PyData := .tuple [.int q.num, .int (q.den : Int)]
def vD (r : List Rat) : PyData := .tuple (r.map rD)
def mD (A : List (List Rat)) : PyData := .tuple (A.map vD)
section
variable {K : PySem.W.Frag} {H H' : Hp} {v : V}
theorem ity {a : Addr} {xs : List V} (h : ITup K H a xs) : TyX K H (.ref a) (.type "tuple") := by
  rcases h with h | ⟨o, its, n, hk, hc, _⟩
  · exact .base (.tup h)
  · exact .kTuple hk hc
theorem rat_inv {q : Rat} (h : Im K H v (rD q)) : ∃ p, v = .ref p ∧ ITup K H p [.int q.num, .int (q.den : Int)] := by
  obtain ⟨a, xs, rfl, h1, h2⟩ := h.tuple_inv
  obtain ⟨x, r, rfl, h3, h4⟩ := h2.cons_inv
  obtain ⟨y, r', rfl, h5, h6⟩ := h4.cons_inv
  rw [h6.nil_inv, h3.int_inv, h5.int_inv] at h1
  exact ⟨a, rfl, h1⟩
theorem rat_mk {q : Rat} {p : Addr} (h : ITup K H p [.int q.num, .int (q.den : Int)]) : Im K H (.ref p) (rD q) := .tup h (.cons (.int _) (.cons (.int _) .nil))
theorem vec_inv {r : List Rat} (h : Im K H v (vD r)) : ∃ p xs, v = .ref p ∧ ITup K H p xs ∧ ImAll K H xs (r.map rD) := h.tuple_inv
theorem mat_inv {A : List (List Rat)} (h : Im K H v (mD A)) : ∃ p xs, v = .ref p ∧ ITup K H p xs ∧ ImAll K H xs (A.map vD) := h.tuple_inv
theorem all_get {α : Type} {f : α → PyData} {xs : List V} {l : List α} {i : Nat} {x : V} (h : ImAll K H xs (l.map f)) (e : xs[i]? = some x) : ∃ a, l[i]? = some a ∧ Im K H x (f a) := by
  obtain ⟨d, h1, h2⟩ := h.getV e
  rw [List.getElem?_map] at h1
  cases hl : l[i]? with
  | none => rw [hl] at h1; simp at h1
  | some a =>
    rw [hl] at h1
    have : f a = d := by simpa using h1
    subst this
    exact ⟨a, rfl, h2⟩
theorem all_at {α : Type} {f : α → PyData} {xs : List V} {l : List α} {i : Nat} {a : α} (h : ImAll K H xs (l.map f)) (e : l[i]? = some a) : ∃ x, xs[i]? = some x ∧ Im K H x (f a) := h.get (by rw [List.getElem?_map, e]; rfl)
theorem all_len {α : Type} {f : α → PyData} {xs : List V} {l : List α} (h : ImAll K H xs (l.map f)) : xs.length = l.length := by rw [h.length, List.length_map]
theorem all_rep {α : Type} {f : α → PyData} {x : V} {a : α} (h : Im K H x (f a)) : ∀ n : Nat, ImAll K H (List.replicate n x) ((List.replicate n a).map f)
  | 0 => .nil
  | n + 1 => by
    rw [List.replicate_succ, List.replicate_succ, List.map_cons]
    exact .cons h (all_rep h n)
theorem flat1 {x : V} : ∀ n : Nat, (List.replicate n [x]).flatten = List.replicate n x
  | 0 => rfl
  | n + 1 => by
    rw [List.replicate_succ, List.flatten_cons, flat1 n]; rfl
/-- the parts so far, one more -/
theorem all_snoc {α : Type} {f : α → PyData} {xs : List V} {l : List α} {i : Nat} {a : α} {x : V} (h : ImAll K H xs ((l.take i).map f)) (e : l[i]? = some a) (r : Im K H x (f a)) : ImAll K H (xs ++ [x]) ((l.take (i + 1)).map f) := by
  rw [List.take_add_one, e, List.map_append]
  exact h.snoc r
end
end Ly

set_option Elab.async false
set_option linter.all false
set_option maxRecDepth 100000
/-! enumerate of a tuple; methods and instances of own classes by their defs -/
namespace Ly
open PySem PySem.Spec PyProof.Rows L2
/-- iter and enumerate as they are laid -/
abbrev tupIt (a : Addr) : Obj := { cls := .type "tuple_iterator", data := .fields #[.ref a, .int 0 0] }
abbrev enumOf (n : Nat) : Obj := { cls := .type "enumerate", data := .fields #[.none, .bool false, .ref n, rawInt 0, .none, .none] }
theorem meets_enumT (a : Addr) (items : Array Value) :
    Meets (Builtin.«enumerate.__new__» ⟨[.type "enumerate", .ref a], []⟩) (fun _ R s => s.heap.IsTuple a items ∧ R (.ok (.ret (.ref (s.heap.push (tupIt a)).objs.size))) { s with heap := (s.heap.push (tupIt a)).push (enumOf s.heap.objs.size) }) :=
  .of_wp fun prog w A R s h => by
    obtain ⟨hp, g, d, tk, os⟩ := s
    obtain ⟨h1, h⟩ := h
    have sub := sub_enumerate
    have go : ∀ {A' : Around} {E Q : Value → Shared → Prop}, Q (.ref hp.objs.size) ⟨hp.push (tupIt a), g, d, tk, os⟩ → wpAny (model prog w) A' (pyIter (.ref a)) Q E ⟨hp, g, d, tk, os⟩ := fun q => (begins_tuple a items).iter prog w _ _ ⟨hp, g, d, tk, os⟩ _ h1 q
    have ld : ∃ o, hp.get? a = some o ∧ o.cls = .type "tuple" := let ⟨o, e1, e2, _⟩ := h1; ⟨o, e1, e2⟩
    obtain ⟨⟨oc, od, dt, sl⟩, lo, lc⟩ := ld
    simp only at lc
    subst lc
    wp_walk using AutoSeq1.wpAny_loadPart' lo, go
    refine wpAny_stack_any fun st => wpAny_pure ?_
    split
    · rename_i c _ _ _ _ _
      cases (c == Value.type "enumerate") <;> (wp_walk using AutoSeq1.wpAny_loadPart' lo, go; exact ⟨_, rfl, h⟩)
    · wp_walk using AutoSeq1.wpAny_loadPart' lo, go
      exact ⟨_, rfl, h⟩
theorem call_enumT {prog : Program} {w : World} {A : Around} {E : Value → Shared → Prop} {s : Shared} {a : Addr} {items : Array Value} {Q : Value → Shared → Prop} (hT : s.heap.IsTuple a items)
    (h : ∀ h', IsEnum h' (s.heap.objs.size + 1) s.heap.objs.size 0 .none → h'.IsTupleIter s.heap.objs.size a 0 → (∀ b o, s.heap.get? b = some o → h'.get? b = some o) → Q (.ref (s.heap.objs.size + 1)) { s with heap := h' }) :
    wpAny (model prog w) A (call (.type "enumerate") [.ref a]) Q E s := by
  refine callType_new F.called_enumerate (by decide) (F.typeCall_enumerate_1 _) (F.newCall_enumerate_1 _) (fun obj => F.args_object_init_2 obj _) F.entry_enumerate_new (meets_enumT a items) ⟨hT, ?_⟩
  have z1 : (s.heap.push (tupIt a)).objs.size = s.heap.objs.size + 1 := Heap.size_push ..
  have g2 : ((s.heap.push (tupIt a)).push (enumOf s.heap.objs.size)).get? (s.heap.push (tupIt a)).objs.size = some (enumOf s.heap.objs.size) := Heap.get?_push_size _ rfl
  have g1 : ((s.heap.push (tupIt a)).push (enumOf s.heap.objs.size)).get? s.heap.objs.size = some (tupIt a) := Heap.get?_push_of_some _ (Heap.get?_push_size _ rfl)
  show _ ∧ _
  rw [z1] at g2 ⊢
  exact ⟨⟨_, g2, rfl⟩, h _ g2 ⟨_, g1, rfl, rfl⟩ fun b o x => Heap.get?_push_of_some _ (Heap.get?_push_of_some _ x)⟩
/-- the tuple at a as it stands at each turn, its items with their numbers in new pairs -/
def IteT (K : PySem.W.Frag) (a : Addr) : It where
  go := fun i H => ∃ xs x, SqT K H a xs ∧ xs[i]? = some x
  yld := fun i H v H' => ∃ T x, v = .ref T ∧ H T = none ∧ H' = upd H T (.tup [.int (i : Nat), x]) ∧ ∀ l, SqT K H a l → l[i]? = some x
  stop := fun i H => ∃ xs : List V, SqT K H a xs ∧ xs.length = i
theorem in2 {z a b : Addr} (h : z ∈ [a, b]) : z = a ∨ z = b := by simpa using h
theorem turnE {P : Program} {w : World} {K : PySem.W.Frag} {elts : List Expr} {kk : Nat} {tpos : Pos} {a e it : Addr} (ne : e ≠ it) :
    Turn P w K (.Tuple elts kk tpos) (IteT K a) [e, it] e (fun i h => (∃ old, IsEnum h e it ((i : Nat) : Int) old) ∧ h.IsTupleIter it a i) := by
  refine { mem := List.mem_cons_self .., obj := ?_, keep := ?_, item := ?_, done := ?_, self := fun A i s Q E st h => let ⟨⟨_, he⟩, _⟩ := st; wpAny_pyIter_enum he h }
  · rintro i h ⟨⟨old, he⟩, ⟨o, ho, hc, hd⟩⟩ b hb
    rcases in2 hb with z | z <;> subst z
    · exact ⟨_, he, fun v q => nomatch q⟩
    · exact ⟨o, ho, fun v q => by rw [hd] at q; cases q⟩
  · rintro i h h' ⟨⟨old, he⟩, hi⟩ k
    exact ⟨⟨old, k e (by simp) _ he⟩, hi.at fun o q => k it (by simp) o q⟩
  · intro X hP hw hK hc i pins s σ H E I hf st hg
    subst hP hw hK
    obtain ⟨⟨old, he⟩, hit⟩ := st
    obtain ⟨xs, x, hq, hx⟩ := hg
    obtain ⟨its, rv, p, _⟩ := I.tuple hq
    obtain ⟨u, hu, ru⟩ := rv.get hx
    have le : e < s.heap.objs.size := Heap.lt_size he
    have li : it < s.heap.objs.size := by obtain ⟨_, q, _⟩ := hit; exact Heap.lt_size q
    have na : a ≠ it := fun q => by
      obtain ⟨o, ho, c, _⟩ := hit
      obtain ⟨o', ho', c', _⟩ := p
      rw [← q, ho'] at ho; cases ho
      rw [c'] at c; simp at c
    have nea : e ≠ a := fun q => by
      obtain ⟨o', ho', c', _⟩ := p
      rw [← q, he] at ho'; cases ho'
      simp at c'
    have hd : X.A.in1.handled = none := I.ok.hd hc
    have D := Draws.tuple (prog := X.prog) (w := X.w) hd it a na its.toArray
    have s1 : i < its.toArray.size := by
      have := (List.getElem?_eq_some_iff.mp hu).1
      simpa using this
    refine wpAny_pyNext_enum_itemC D he ⟨hit, p⟩ s1 ne (by simp [ne, nea]) fun v h' tk ev out st' hT hsz hk => ?_
    have eu : u = v := by
      have : its[i]? = some v := by simpa using ev
      rw [hu] at this; exact Option.some.inj this
    subst eu
    refine ⟨_, rfl, wpAny_letOwnedTupleGo_enum (s := { s with heap := h', toks := tk + 1 }) out fun h2 he2 sb => ?_⟩
    have pair : h2.get? s.heap.objs.size = some { cls := .type "tuple", data := .seq #[.int ((i : Nat) : Int) tk, u] } := (sb.2 _ (Nat.ne_of_gt le)).trans hT
    have new : ObjOk X.prog X.w (upd H s.heap.objs.size (.tup [.int (i : Nat), x])) h2 s.heap.objs.size (.tup [.int (i : Nat), x]) := ⟨by show 2 ≤ sizeLine; decide, [.int ((i : Nat) : Int) tk, u], .cons ⟨_, rfl⟩ (.cons ru .nil), ⟨_, pair, rfl, _, rfl⟩⟩
    have I2 : Inv X pins σ (upd H s.heap.objs.size (.tup [.int (i : Nat), x])) { s with heap := h2, toks := tk + 1 } :=
      I.turnedNew (ch := [e, it]) (fun b o hb q => (sb.2 b (fun z => hb (by simp [z]))).trans (hk b o (fun z => hb (by simp [z])) (fun z => hb (by simp [z])) q)) hf (Nat.le_refl _) new
    refine ⟨.ref s.heap.objs.size, _, I2, rfl, ⟨_, x, rfl, I.hok.fresh (Nat.le_refl _), rfl, fun l hl => by rw [I.tuple_inj hl hq]; exact hx⟩, ⟨⟨u, ?_⟩, st'.1.at fun o q => (sb.2 it ne.symm).trans q⟩, fun b hb => ?_⟩
    · rw [show ((i + 1 : Nat) : Int) = (i : Int) + 1 by omega]
      exact he2
    · have hb' : b < s.heap.objs.size := by rcases in2 hb with z | z <;> rw [z] <;> assumption
      rw [upd_ne (Nat.ne_of_lt hb')]
      exact (hf b hb).1
  · intro X hP hw hK hc i pins s σ H E I hf st hg
    subst hP hw hK
    obtain ⟨⟨old, he⟩, hit⟩ := st
    obtain ⟨xs, hq, hx⟩ := hg
    obtain ⟨its, rv, p, _⟩ := I.tuple hq
    have na : a ≠ it := fun q => by
      obtain ⟨o, ho, c, _⟩ := hit
      obtain ⟨o', ho', c', _⟩ := p
      rw [← q, ho'] at ho; cases ho
      rw [c'] at c; simp at c
    have hd : X.A.in1.handled = none := I.ok.hd hc
    have hl := rv.length
    have es : its.toArray.size = i := by simp; omega
    obtain ⟨f0, f1, f2, f3, f4, f5⟩ := hf it (by simp)
    exact wpAny_pyNext_enum_endD (Draws.tuple (prog := X.prog) (w := X.w) hd it a na its.toArray) he (by rw [es]; exact ⟨hit, p⟩) fun h' eb => ⟨rfl, I.turned (t' := s.toks) (fun b o hb q => eb b o hb q) f0 f1 f3 f4 f5⟩
def iEnumT (K : PySem.W.Frag) (ta : TA) : TI := fun σ H R => ta σ H fun vs H1 => ∃ a xs, vs = [.ref a] ∧ SqT K H1 a xs ∧ R (IteT K a) H1
theorem kpi_enumT {X : Cx} (K : PySem.W.Frag) {e : Expr} {ta : TA} {p pos tpos : Pos} {elts : List Expr} {kk : Nat} (hg : Gl X "enumerate") (hm : X.mg "enumerate" = none) (ha : PA X [e] ta) (hs : starEach [e] X.env = [(false, eval e X.env)] := by rfl) (ek : X.K = K := by rfl) :
    PI X (.Tuple elts kk tpos) (.Call (.Name "enumerate" p) [e] [] pos) (iEnumT K ta) := by
  subst ek
  refine ⟨fun pins s σ H R I h => Call_ (ld_blt I hg hm boot_enumerate (PyProof.Rows.callWith_type1 (thn (ha.run pos pins s σ H _ I h) ?_) hs rfl))⟩
  rintro us s1 ⟨vs, H1, I1, r1, a, xs, rfl, hq, q⟩
  cases r1 with | cons r rr =>
  cases rr
  cases r
  obtain ⟨its, rv, p', _⟩ := I1.tuple hq
  refine call_enumT (show s1.heap.IsTuple a its.toArray from p') fun h' he hit hk => wpAny_pyIter_enum he ?_
  have I2 : Inv X pins σ H1 { s1 with heap := h' } := I1.kept (t' := s1.toks) hk
  refine ⟨s1.heap.objs.size + 1, [s1.heap.objs.size + 1, s1.heap.objs.size], _, _, H1, rfl, I2, turnE (Nat.succ_ne_self _), ⟨⟨.none, he⟩, hit⟩, fun b hb => ?_, q⟩
  have le : s1.heap.objs.size ≤ b := by
    rcases in2 hb with z | z <;> rw [z] <;> first | exact Nat.le_refl _ | exact Nat.le_add_right _ _
  exact I1.fpOk le (I1.hok.fresh le)
theorem walk_enumT {K : PySem.W.Frag} {a : Addr} {xs : List V} : Walk (IteT K a) xs.length (fun H => SqT K H a xs) (YPair (fun i => some (.int (i : Nat))) (fun i => xs[i]?)) := by
  refine ⟨fun i _ hi q => ⟨xs, xs[i], q, by simp [hi]⟩, fun _ q => ⟨xs, q, rfl⟩, fun i H v H' _ q y => ?_⟩
  obtain ⟨T, x, h1, h2, h3, h4⟩ := y
  exact ⟨T, .int (i : Nat), x, h1, h2, h3, rfl, h4 xs q⟩
/-! ### own classes -/
section
variable (P : Program) (w : World) (K : PySem.W.Frag) (mg : Str → Option Value) (base : Heap)
/-- the method m of the class at C keeps the promise -/
structure Met (k : Nat) (C : Addr) (m : Str) (ps : List Str) (sp : Sp) : Prop where
  ex : ∃ (f : Addr) (fd : FuncData), FnOk P w K mg base CX0 k f fd ps sp ∧ Meth K C m f ∧ L2.Binds K fd ps []
/-- the class's __init__ does -/
structure Ini (k : Nat) (C : Addr) (ps : List Str) (sp : Sp) : Prop where
  ex : ∃ (f : Addr) (fd : FuncData), FnOk P w K mg base CX0 k f fd ps sp ∧ Mk K C f ∧ L2.Binds K fd ps []
end
section
variable {X : Cx} {k : Nat} {C : Addr} {m x : Str} {ps : List Str} {sp : Sp} {apos p pos : Pos} {o e : Expr} {es : List Expr} {to : TE} {t : TA}
theorem pe_ini (O : Ini X.prog X.w X.K X.mg X.base k C ps sp) (hr : Room (k + 1) X.A) (hg : Gl X x) (hm : X.mg x = some (.ref C)) (ha : PA X (e :: es) t) (hdb : (x == ("__debug__" : Str)) = false := by decide)
    (he : starEach (e :: es) X.env = (false, eval e X.env) :: starEach es X.env := by rfl) (hpl : (backTo pos (starEach es X.env)).any (·.1) = false := by rfl) : PE X (.Call (.Name x p) (e :: es) [] pos) (tMake C sp [] E0 t) := by
  obtain ⟨f, fd, F, M, hb⟩ := O.ex
  exact pe_make M F hr hg hm hb .nil pass0 ha hdb he hpl
theorem pe_met {pl : Sem Bool} (O : Met X.prog X.w X.K X.mg X.base k C m ps sp) (c : Cls X.K C) (hr : Room k X.A) (ho : PE X o to) (ha : PA X (e :: es) t)
    (hst : starEach (e :: es) X.env = (false, eval e X.env) :: starEach es X.env := by rfl) (hpl : (backTo pos (starEach es X.env)).any (·.1) = false := by rfl)
    (ht : eval (.Call (.Attribute o m apos) (e :: es) [] pos) X.env = (do
      let ov ← eval o X.env
      standAt apos.atName
      let (f, first) ← holding [ov] (getMethod ov m pl)
      callWith pos f first (backTo pos (starEach (e :: es) X.env)) (backToKw pos (keywordEach [] X.env))) := by rfl) : PE X (.Call (.Attribute o m apos) (e :: es) [] pos) (tMeth C m sp [] E0 to t) := by
  obtain ⟨f, fd, F, M, hb⟩ := O.ex
  exact pe_meth ho c M F hr hb .nil pass0 ha hst hpl ht
theorem kpe_fld (K : PySem.W.Frag) {f : Str} (ho : PE X o to) (hb : attributeBase o f X.env (eval o X.env) = eval o X.env := by rfl) (ek : X.K = K := by rfl) : PE X (.Attribute o f pos) (tFld K to f) := by
  subst ek
  exact pe_fld ho hb
end
end Ly

set_option Elab.async false
set_option linter.all false
set_option maxRecDepth 100000
set_option maxHeartbeats 4000000
/-! tuple * int for 0 and 1 too; items of a list or a tuple, whichever it be -/
namespace Ly
open PySem PySem.Spec PyProof.Rows L2
theorem tuple_mul0 (l : Addr) (items : Array Value) (n : Nat) (dd : Option Addr) (sl : Array (Option Value)) (u : Tok) (hi : items.isEmpty = false) :
    Meets (Builtin.«tuple.__mul__» ⟨[.ref l, .int 0 u], []⟩) (fun _ R s => s.heap.get? l = some { cls := .type "tuple", dict := dd, data := .seq items n, slots := sl } ∧
      R (.ok (.ret (Value.ref s.heap.objs.size))) { s with heap := s.heap.push { cls := Value.type "tuple", data := Data.seq #[] }, toks := s.toks }) :=
  .of_wp fun prog w A R s h => by
    obtain ⟨hp, g, d, tk, os⟩ := s
    obtain ⟨hl, h⟩ := h
    have f1 := AutoSeq1.idx_int
    wp_walk using wpAny_loadPart' hl
    repeat (first
      | (refine wpAny_ite_false (decide_eq_false (by rw [hi]; decide)) ?_; wp_walk using wpAny_loadPart' hl)
      | (refine wpAny_ite_true (decide_eq_true (by rw [hi]; decide)) ?_; wp_walk using wpAny_loadPart' hl)
      | (refine wpAny_ite_false (decide_eq_false (by decide)) ?_; wp_walk using wpAny_loadPart' hl)
      | (refine wpAny_ite_true (decide_eq_true (by decide)) ?_; wp_walk using wpAny_loadPart' hl))
    exact ⟨_, rfl, h⟩
theorem tuple_mul1 (l : Addr) (items : Array Value) (n : Nat) (dd : Option Addr) (sl : Array (Option Value)) (u : Tok) (hi : items.isEmpty = false) :
    Meets (Builtin.«tuple.__mul__» ⟨[.ref l, .int 1 u], []⟩) (fun _ R s => s.heap.get? l = some { cls := .type "tuple", dict := dd, data := .seq items n, slots := sl } ∧
      R (.ok (.ret (Value.ref l))) s) :=
  .of_wp fun prog w A R s h => by
    obtain ⟨hp, g, d, tk, os⟩ := s
    obtain ⟨hl, h⟩ := h
    have f1 := AutoSeq1.idx_int
    wp_walk using wpAny_loadPart' hl
    repeat (first
      | (refine wpAny_ite_false (decide_eq_false (by rw [hi]; decide)) ?_; wp_walk using wpAny_loadPart' hl)
      | (refine wpAny_ite_true (decide_eq_true (by rw [hi]; decide)) ?_; wp_walk using wpAny_loadPart' hl)
      | (refine wpAny_ite_false (decide_eq_false (by decide)) ?_; wp_walk using wpAny_loadPart' hl)
      | (refine wpAny_ite_true (decide_eq_true (by decide)) ?_; wp_walk using wpAny_loadPart' hl))
    exact ⟨_, rfl, h⟩
def rRepTA (K : PySem.W.Frag) : R2 := fun x y H Q => ∃ l k xs, x = .ref l ∧ y = .int k ∧ SqT K H l xs ∧ xs ≠ [] ∧ 0 ≤ k ∧ k ≤ 1000 ∧ xs.length ≤ 1000 ∧ (k = 1 → Q (.ref l) H) ∧ (k ≠ 1 → ∀ p, H p = none → Q (.ref p) (upd H p (.tup (List.replicate k.toNat xs).flatten)))
section
variable {X : Cx}
theorem op_repTA : OpR X (binaryOp .Mult) (rRepTA X.K) := by
  intro pins s σ H x y v u Q I rx ry h
  obtain ⟨l, k, xs, rfl, rfl, hT, hne, h1, h2, hz, q1, q2⟩ := h
  by_cases k2 : 2 ≤ k
  · exact op_repT pins s σ H _ _ v u Q I rx ry ⟨l, k, xs, rfl, rfl, hT, hne, k2, h2, hz, q2 (by omega)⟩
  cases rx
  obtain ⟨t, rfl⟩ := ry
  obtain ⟨its, r, ⟨⟨cls, dd, data, sl⟩, ho, hc, n, hd⟩, hs⟩ := I.tuple hT
  simp only at hc hd
  subst hc hd
  have hle : its.length = xs.length := r.length.symm
  have hn : its ≠ [] := fun e => hne (by
    rw [e] at hle
    exact List.eq_nil_of_length_eq_zero hle.symm)
  have hi : its.toArray.isEmpty = false := by
    cases its with
    | nil => exact absurd rfl hn
    | cons a b => rfl
  have hk : k = 0 ∨ k = 1 := by omega
  rcases hk with rfl | rfl
  · refine wpAny_binaryOp_repeat_ref (T := "tuple") (U := "int") (by decide) ⟨_, ho, rfl⟩ (fun s' => typeIs_int s' 0 t) noFill_tuple_mul F.fills_int_mul F.slot_int_rmul repeat_tuple F.slot_int_index.lookup
      (call_meets F.slot_int_rmul (typeIs_int s 0 t) F.entry_int_rmul (F.args_int_rmul_2 _ _) (int_rmul_tuple 0 t l its.toArray n dd sl)
        ⟨ho, rfl, ⟨_, ho, rfl⟩, call_meets F.slot_tuple_mul ⟨_, ho, rfl⟩ F.entry_tuple_mul (F.args_tuple_mul_2 _ _) (tuple_mul0 l its.toArray n dd sl t hi) ⟨ho, ?_⟩⟩)
    refine ⟨.ref s.heap.objs.size, _, I.laid (t' := s.toks) (o := .tup []) (fun b ob q => Heap.get?_push_of_some _ q) (Nat.le_refl _) ?_, rfl, q2 (by decide) _ (I.hok.fresh (Nat.le_refl _))⟩
    exact ⟨Nat.zero_le _, [], .nil, IsTup.new _ _⟩
  · exact wpAny_binaryOp_repeat_ref (T := "tuple") (U := "int") (by decide) ⟨_, ho, rfl⟩ (fun s' => typeIs_int s' 1 t) noFill_tuple_mul F.fills_int_mul F.slot_int_rmul repeat_tuple F.slot_int_index.lookup
      (call_meets F.slot_int_rmul (typeIs_int s 1 t) F.entry_int_rmul (F.args_int_rmul_2 _ _) (int_rmul_tuple 1 t l its.toArray n dd sl)
        ⟨ho, rfl, ⟨_, ho, rfl⟩, call_meets F.slot_tuple_mul ⟨_, ho, rfl⟩ F.entry_tuple_mul (F.args_tuple_mul_2 _ _) (tuple_mul1 l its.toArray n dd sl t hi) ⟨ho, ⟨.ref l, H, I, rfl, q1 rfl⟩⟩⟩)
/-! ### a list or a tuple -/
def rIxA (K : PySem.W.Frag) : R2 := fun x y H Q => ∃ p xs i v, x = .ref p ∧ y = .int i ∧ (SqL K H p xs ∨ SqT K H p xs) ∧ atI xs i = some v ∧ Q v H
theorem kix_any (K : PySem.W.Frag) (e : X.K = K := by rfl) : IxR X (rIxA K) := by
  subst e
  intro value slice pins s σ H x y v u Q I rx ry h hs
  obtain ⟨p, xs, i, z, e1, e2, hq, he, q⟩ := h
  rcases hq with hq | hq
  · exact ix_list value slice pins s σ H x y v u Q I rx ry ⟨p, xs, i, z, e1, e2, hq, he, q⟩ hs
  · exact ix_tup value slice pins s σ H x y v u Q I rx ry ⟨p, xs, i, z, e1, e2, hq, he, q⟩ hs
def iAny (K : PySem.W.Frag) (tl : TE) : TI := fun σ H R => tl σ H fun x H1 => ∃ a, x = .ref a ∧ (((∃ xs, SqL K H1 a xs) ∧ R (Itl K a) H1) ∨ ((∃ xs, SqT K H1 a xs) ∧ R (Itt K a) H1))
theorem kpi_any (K : PySem.W.Frag) {tg l : Expr} {tl : TE} (hl : PE X l tl) (e : X.K = K := by rfl) : PI X tg l (iAny K tl) := by
  subst e
  refine ⟨fun pins s σ H R I h => ?_⟩
  refine thn (hl.run pins s σ H _ I h) fun v s1 ⟨x, H1, I1, r1, q1⟩ => ?_
  obtain ⟨a, e, q⟩ := q1
  subst e
  cases r1
  rcases q with ⟨⟨xs, hq⟩, q⟩ | ⟨⟨xs, hq⟩, q⟩
  · obtain ⟨its, rv, p, hz⟩ := I1.list hq
    refine wpAny_pyIter_list p.isList ?_
    refine ⟨s1.heap.objs.size, [s1.heap.objs.size], _, _, H1, rfl, I1.kept (t' := s1.toks) fun b o e => Heap.get?_push_of_some _ e, turn_list a _, ⟨_, Heap.get?_push_size _ rfl, rfl, rfl⟩, fun b hb => ?_, q⟩
    have e : b = s1.heap.objs.size := by simpa using hb
    subst e
    exact I1.fpOk (Nat.le_refl _) (I1.hok.fresh (Nat.le_refl _))
  · obtain ⟨its, rv, p, hz⟩ := I1.tuple hq
    refine wpAny_pyIter_tuple (show s1.heap.IsTuple a its.toArray from p) ?_
    refine ⟨s1.heap.objs.size, [s1.heap.objs.size], _, _, H1, rfl, I1.kept (t' := s1.toks) fun b o e => Heap.get?_push_of_some _ e, turn_tuple a _, ⟨_, Heap.get?_push_size _ rfl, rfl, rfl⟩, fun b hb => ?_, q⟩
    have e : b = s1.heap.objs.size := by simpa using hb
    subst e
    exact I1.fpOk (Nat.le_refl _) (I1.hok.fresh (Nat.le_refl _))
theorem kop_repTA (K : PySem.W.Frag) (e : X.K = K := by rfl) : OpR X (binaryOp .Mult) (rRepTA K) := by subst e; exact op_repTA
theorem kop_catA (K : PySem.W.Frag) (e : X.K = K := by rfl) : OpR X (binaryOp .Add) (rCatA K) := by subst e; exact op_catA
theorem ksl_tupA (K : PySem.W.Frag) (e : X.K = K := by rfl) : SlR X (rSlA K) := by subst e; exact sl_tupA
theorem kop_notIn (K : PySem.W.Frag) (e : X.K = K := by rfl) : OpR X (compareOp .NotIn) (rIn K true) := by subst e; exact op_notIn_seq
end
end Ly

set_option Elab.async false
set_option linter.all false
set_option maxRecDepth 100000
/-! any data: none, bools, ints, texts, tuples and lists of such; what judges ask of it -/
namespace Ly
open PySem PySem.Spec PyProof.Rows L2 Mt
theorem rd_same' {H H' : Hp} {p : Addr} {o : HO} (h : Rd H p o) (s : Same H H') : Rd H' p o := by
  rcases h with h | ⟨u, h⟩
  · exact .inl (s _ _ h)
  · exact .inr ⟨u, s _ _ h⟩
section
variable {K : PySem.W.Frag} {H H' : Hp}
theorem sql_same' {p : Addr} {xs : List V} (h : SqL K H p xs) (s : Same H H') : SqL K H' p xs := h.imp (fun h => rd_same' h s) id
theorem sqt_same' {p : Addr} {xs : List V} (h : SqT K H p xs) (s : Same H H') : SqT K H' p xs := h.imp (fun h => rd_same' h s) id
mutual
theorem dp_same (s : Same H H') : ∀ (d : PyData) {v : V}, Dp K H v d → Dp K H' v d
  | .none, _, h => by cases h; exact .non
  | .bool _, _, h => by cases h; exact .bl _
  | .int _, _, h => by cases h; exact .int _
  | .str _, _, h => by cases h; exact .str _
  | .tuple ds, _, h => by cases h with | tup e r => exact .tup (sqt_same' e s) (dpAll_same s ds r)
  | .list ds, _, h => by cases h with | lst e r => exact .lst (sql_same' e s) (dpAll_same s ds r)
  | .dict _, _, h => by cases h
theorem dpAll_same (s : Same H H') : ∀ (ds : List PyData) {vs : List V}, DpAll K H vs ds → DpAll K H' vs ds
  | [], _, h => by cases h; exact .nil
  | d :: ds, _, h => by cases h with | cons a r => exact .cons (dp_same s d a) (dpAll_same s ds r)
end
theorem dpAll_len : ∀ {vs : List V} {ds : List PyData}, DpAll K H vs ds → vs.length = ds.length
  | [], ds, h => by cases h; rfl
  | _ :: _, _, h => by cases h with | cons _ r => rw [List.length_cons, List.length_cons, dpAll_len r]
theorem dpAll_get : ∀ {vs : List V} {ds : List PyData} {i : Nat} {d : PyData}, DpAll K H vs ds → ds[i]? = some d → ∃ v, vs[i]? = some v ∧ Dp K H v d
  | _, _, 0, _, .cons a _, e => by
    simp at e; subst e; exact ⟨_, rfl, a⟩
  | _, _, i + 1, _, .cons _ r, e => by
    obtain ⟨v, h1, h2⟩ := dpAll_get (i := i) r (by simpa using e)
    exact ⟨v, by simpa using h1, h2⟩
  | _, _, _, _, .nil, e => by simp at e
theorem dpAll_getV : ∀ {vs : List V} {ds : List PyData} {i : Nat} {v : V}, DpAll K H vs ds → vs[i]? = some v → ∃ d, ds[i]? = some d ∧ Dp K H v d
  | _, _, 0, _, .cons a _, e => by
    simp at e; subst e; exact ⟨_, rfl, a⟩
  | _, _, i + 1, _, .cons _ r, e => by
    obtain ⟨v, h1, h2⟩ := dpAll_getV (i := i) r (by simpa using e)
    exact ⟨v, by simpa using h1, h2⟩
  | _, _, _, _, .nil, e => by simp at e
/-- the name of a thing's type -/
def tyName : PyData → String
  | .none => "NoneType"
  | .bool _ => "bool"
  | .int _ => "int"
  | .str _ => "str"
  | .tuple _ => "tuple"
  | .list _ => "list"
  | .dict _ => "dict"
theorem sqt_ty {a : Addr} {xs : List V} (h : SqT K H a xs) : TyX K H (.ref a) (.type "tuple") := by
  rcases h with (h | ⟨o, h⟩) | ⟨o, its, n, hk, hc, _⟩
  · exact .base (.tup h)
  · exact .fTuple h
  · exact .kTuple hk hc
theorem sql_ty {a : Addr} {xs : List V} (h : SqL K H a xs) : TyX K H (.ref a) (.type "list") := by
  rcases h with (h | ⟨o, h⟩) | ⟨o, its, n, hk, hc, _⟩
  · exact .base (.lst h)
  · exact .base (.frz h)
  · exact .kList hk hc
theorem dp_ty {d : PyData} {v : V} (h : Dp K H v d) : TyX K H v (.type (tyName d)) := by
  cases h with
  | non => exact .base .non
  | bl b => exact .base (.bl b)
  | int i => exact .base (.int i)
  | str x => exact .base (.str x)
  | tup e _ => exact sqt_ty e
  | lst e _ => exact sql_ty e
def jIntB : PyData → Bool
  | .int _ => true
  | .bool _ => true
  | _ => false
def jBool : PyData → Bool
  | .bool _ => true
  | _ => false
def jTup : PyData → Bool
  | .tuple _ => true
  | _ => false
def jStr : PyData → Bool
  | .str _ => true
  | _ => false
theorem kit_int : ∀ d : PyData, kitB (tyName d) "int" = some (jIntB d)
  | .none => show kitB "NoneType" "int" = some false from by decide +kernel
  | .bool _ => show kitB "bool" "int" = some true from by decide +kernel
  | .int _ => show kitB "int" "int" = some true from by decide +kernel
  | .str _ => show kitB "str" "int" = some false from by decide +kernel
  | .tuple _ => show kitB "tuple" "int" = some false from by decide +kernel
  | .list _ => show kitB "list" "int" = some false from by decide +kernel
  | .dict _ => show kitB "dict" "int" = some false from by decide +kernel
theorem kit_bool : ∀ d : PyData, kitB (tyName d) "bool" = some (jBool d)
  | .none => show kitB "NoneType" "bool" = some false from by decide +kernel
  | .bool _ => show kitB "bool" "bool" = some true from by decide +kernel
  | .int _ => show kitB "int" "bool" = some false from by decide +kernel
  | .str _ => show kitB "str" "bool" = some false from by decide +kernel
  | .tuple _ => show kitB "tuple" "bool" = some false from by decide +kernel
  | .list _ => show kitB "list" "bool" = some false from by decide +kernel
  | .dict _ => show kitB "dict" "bool" = some false from by decide +kernel
theorem kit_tup : ∀ d : PyData, kitB (tyName d) "tuple" = some (jTup d)
  | .none => show kitB "NoneType" "tuple" = some false from by decide +kernel
  | .bool _ => show kitB "bool" "tuple" = some false from by decide +kernel
  | .int _ => show kitB "int" "tuple" = some false from by decide +kernel
  | .str _ => show kitB "str" "tuple" = some false from by decide +kernel
  | .tuple _ => show kitB "tuple" "tuple" = some true from by decide +kernel
  | .list _ => show kitB "list" "tuple" = some false from by decide +kernel
  | .dict _ => show kitB "dict" "tuple" = some false from by decide +kernel
theorem kit_str : ∀ d : PyData, kitB (tyName d) "str" = some (jStr d)
  | .none => show kitB "NoneType" "str" = some false from by decide +kernel
  | .bool _ => show kitB "bool" "str" = some false from by decide +kernel
  | .int _ => show kitB "int" "str" = some false from by decide +kernel
  | .str _ => show kitB "str" "str" = some true from by decide +kernel
  | .tuple _ => show kitB "tuple" "str" = some false from by decide +kernel
  | .list _ => show kitB "list" "str" = some false from by decide +kernel
  | .dict _ => show kitB "dict" "str" = some false from by decide +kernel
end
end Ly

set_option Elab.async false
set_option linter.all false
set_option maxRecDepth 100000
/-! dict comprehensions over any walk; the sum of a tuple of ints -/
namespace Ly
open PySem PySem.Spec PyProof.Rows L2
theorem dc_all {J : It} {n : Nat} {G : Hp → Prop} {Y : Nat → Hp → V → Hp → Prop} (w : Walk J n G Y) {g : TG} {tk tv : TE} {vs : List Nat} {σ : L2.St} {H1 : Hp} {D : Addr} {Qd : Hp → Prop} (Pv : Nat → Hp → Prop) (h0 : Pv 0 (upd H1 D (.dK []))) (hG : ∀ i H, i ≤ n → Pv i H → G H)
    (hs : ∀ i x H H', i < n → Pv i H → Y i H x H' → g x (wipe σ vs) H' fun σ2 H2 => wipe σ2 vs = wipe σ vs ∧ tk σ2 H2 fun y H4 => tv σ2 H4 fun z H5 => ∃ kvs k, y = kV k ∧ H5 D = some (.dK kvs) ∧ kvs.length < sizeLine ∧ Pv (i + 1) (upd H5 D (.dK (putK kvs k z))))
    (hd : ∀ H, Pv n H → Qd H) :
    ∃ W : Nat → Nat → Hp → Prop, (∃ m, W 0 m (upd H1 D (.dK []))) ∧ ∀ i m H, W i m H →
      (J.stop i H ∧ Qd H) ∨ (J.go i H ∧ ∃ Nx : Hp → Prop, (∀ H', Nx H' → ∃ m', m' < m ∧ W (i + 1) m' H') ∧ ∀ x H', J.yld i H x H' → g x (wipe σ vs) H' fun σ2 H2 => wipe σ2 vs = wipe σ vs ∧ tYes σ2 H2 fun b H3 =>
        if b = true then tk σ2 H3 fun y H4 => tv σ2 H4 fun z H5 => ∃ kvs k, y = kV k ∧ H5 D = some (.dK kvs) ∧ kvs.length < sizeLine ∧ Nx (upd H5 D (.dK (putK kvs k z))) else Nx H3) := by
  refine ⟨fun i m H => m = n - i ∧ i ≤ n ∧ Pv i H, ⟨n, by simp, Nat.zero_le _, h0⟩, ?_⟩
  rintro i m H ⟨rfl, hi, p⟩
  have q := hG i H hi p
  by_cases hlt : i < n
  · refine .inr ⟨w.goes i H hlt q, Pv (i + 1), fun H' p' => ⟨n - (i + 1), by omega, rfl, hlt, p'⟩, fun x H' y => ?_⟩
    have h := hs i x H H' hlt p (w.yields i H x H' hlt q y)
    refine Eq.mp (congrArg (g x (wipe σ vs) H') ?_) h
    funext σ2 H2
    simp only [tYes, if_true]
  · have e : i = n := by omega
    subst e
    exact .inl ⟨w.stops H q, hd H p⟩
theorem toks_of : ∀ {ns : List Int} {us : List Value}, Vals (ns.map V.int) us → ∃ ps : List (Int × Tok), us = ps.map (fun p => Value.int p.1 p.2) ∧ ps.map (·.1) = ns
  | [], _, .nil => ⟨[], rfl, rfl⟩
  | n :: ns, _, .cons r t => by
    obtain ⟨k, rfl⟩ := r
    obtain ⟨ps, e1, e2⟩ := toks_of t
    exact ⟨(n, k) :: ps, by rw [e1]; rfl, by rw [← e2]; rfl⟩
def rSumT (K : PySem.W.Frag) : List V → Hp → VK → Prop := fun vs H Q => ∃ (a : Addr) (ns : List Int), vs = [V.ref a] ∧ SqT K H a (ns.map V.int) ∧ Q (.int ns.sum) H
theorem cr_sumT {X : Cx} (K : PySem.W.Frag) (hc : X.calm = true := by rfl) (eK : X.K = K := by rfl) : CallR X (.builtin "sum") (rSumT K) := by
  subst eK
  intro pins s σ H vs us Q I r h
  obtain ⟨a, ns, rfl, hs, q⟩ := h
  obtain ⟨its, rv, ht, _⟩ := I.tuple hs
  rw [Vals.ref1 r]
  obtain ⟨ps, e1, e2⟩ := toks_of rv
  have e3 : its.toArray = intItems ps.toArray := by
    rw [e1]; simp [intItems]
  have e4 : preSum (numAt ps.toArray) ps.toArray.size = ns.sum := by
    rw [preSum_eq, List.take_of_length_le (by simp)]
    show (ps.map (·.1)).sum = _
    rw [e2]
  refine PySem.W.ktm_sumG (xs := ps.toArray) (I.ok.hd hc) (by rw [← e3]; exact ht) fun h' tk t' hk => ?_
  rw [e4]
  exact ⟨.int _, H, I.kept hk, ⟨t', rfl⟩, q⟩
theorem kop_inS {X : Cx} (K : PySem.W.Frag) (eK : X.K = K := by rfl) : OpR X (compareOp .In) (rIn K false) := by subst eK; exact op_in_seq
/-- one sign of a text -/
def sgn (c : Nat) : Str := ⟨#[c]⟩
end Ly

set_option Elab.async false
set_option linter.all false
set_option maxRecDepth 100000
/-! len(set(xs)) of a list of unlike texts -/
namespace Ly
open PySem PySem.Spec PyProof.Rows L2
/-- one of the first i texts -/
def among (ys : List Str) (i : Nat) (z : Str) : Bool := (ys.take i).any (· == z)
theorem among_step {ys : List Str} {i : Nat} {x : Str} (h : ys[i]? = some x) (z : Str) : (among ys i z || decide (z = x)) = among ys (i + 1) z := by
  unfold among
  rw [List.take_add_one, h, List.any_append]
  congr 1
  show decide (z = x) = (x == z || false)
  by_cases e : z = x
  · subst e; simp
  · rw [decide_eq_false e, Bool.or_false]
    exact (beq_eq_false_iff_ne.mpr fun q => e q.symm).symm
theorem among_not {ys : List Str} {i : Nat} {x : Str} (nd : ys.Nodup) (h : ys[i]? = some x) : among ys i x = false := by
  unfold among
  rw [List.any_eq_false]
  intro y hy e
  obtain ⟨j, hj⟩ := List.mem_iff_getElem?.mp hy
  have hji : j < i := by
    have := (List.getElem?_eq_some_iff.mp hj).1
    rw [List.length_take] at this
    omega
  rw [List.getElem?_take, if_pos hji] at hj
  have exy : y = x := by simpa using e
  subst exy
  obtain ⟨hi, e1⟩ := List.getElem?_eq_some_iff.mp h
  obtain ⟨hj', e2⟩ := List.getElem?_eq_some_iff.mp hj
  have := List.pairwise_iff_getElem.mp nd j i hj' hi hji
  exact this (e2.trans e1.symm)
section
variable {prog : Program} {w : World} {A : Around} {R : Result → Shared → Prop} {it : Addr} {fp wr : List Addr} {G : Array GenState → Array GenState → Prop} {n : Nat} {P : Nat → Value → Prop} {St : Nat → Shared → Prop}
theorem fillTexts (W : WalksS prog w A.in1 it fp wr G n P St) (D : Addr) (nD : D ∉ fp) (ys : List Str) (ly : ys.length = n) (nd : ys.Nodup) (few : n ≤ 1000) (vals : ∀ i v, P i v → ∃ t, v = .str (ys.getD i Str.empty) t)
    (fin : ∀ s', Moved (D :: wr) G s0 s' → s'.heap.SetOf (PySem.strKind prog w) D (among ys n) n → R (.ok (.ret .none)) s') :
    ∀ (left i : Nat) (s : Shared), i + left = n → St i s → Moved (D :: wr) G s0 s → s.heap.SetOf (PySem.strKind prog w) D (among ys i) i → codeAny (model prog w) A (.builtin "set.update.loop" ⟨[.ref D, .ref it], []⟩) R s
  | 0, i, s, hl, st, mv, so => by
    obtain rfl : i = n := by omega
    refine codeAny_builtin PyProof.Rows.F.entry_set_update_loop ?_
    rw [Around.under_plainId PyProof.Rows.F.plain_set_update_loop _]
    show wpAny _ A.in1 (pyNext (.ref it) >>= _) _ _ s
    refine wpAny_bind (W.done s _ _ st fun s2 m2 => ?_)
    show wpAny _ A.in1 (ret Value.none) _ _ s2
    refine wpAny_pure (fin s2 (Moved.trans W.gtrans mv (m2.mono fun b hb => List.mem_cons_of_mem _ hb)) ?_)
    obtain ⟨ob, es, ep, tb, ho, more⟩ := so
    exact ⟨ob, es, ep, tb, m2.heap D _ (fun h => nD (W.sub _ h)) ho, more⟩
  | left + 1, i, s, hl, st, mv, so => by
    have hi : i < n := by omega
    have hx : ys[i]? = some (ys.getD i Str.empty) := by
      rw [List.getD_eq_getElem?_getD, List.getElem?_eq_getElem (by omega)]; rfl
    refine codeAny_builtin PyProof.Rows.F.entry_set_update_loop ?_
    rw [Around.under_plainId PyProof.Rows.F.plain_set_update_loop _]
    show wpAny _ A.in1 (pyNext (.ref it) >>= _) _ _ s
    refine wpAny_bind (W.item i s _ _ hi st fun v s2 pv st2 m2 => ?_)
    obtain ⟨t, rfl⟩ := vals i v pv
    have so2 : s2.heap.SetOf (PySem.strKind prog w) D (among ys i) i := by
      obtain ⟨ob, es, ep, tb, ho, more⟩ := so
      exact ⟨ob, es, ep, tb, m2.heap D _ (fun h => nD (W.sub _ h)) ho, more⟩
    show wpAny _ A.in1 (holding [Value.str (ys.getD i Str.empty) t] (setAdd D (.str (ys.getD i Str.empty) t)) >>= _) _ _ s2
    refine wpAny_bind (wpAny_holding ?_)
    unfold setAdd
    refine wpAny_holding (wpAny_bind ((PySem.strKind prog w).pyHash (k := ys.getD i Str.empty) (strKind_is _ _ _ _) ?_))
    refine wpAny_setAddHashed_of (knd := PySem.strKind prog w) (s := { s2 with toks := s2.toks + 1 }) (strKind_is _ _ _ _) rfl so2 (by unfold scanBound; omega) fun h3 but so3 => ?_
    rw [among_not nd hx, if_neg Bool.false_ne_true] at so3
    have so4 := SetOf_congr so3 (among_step hx) rfl
    have mv2 := Moved.trans W.gtrans mv (m2.mono (wr' := D :: wr) fun b hb => List.mem_cons_of_mem _ hb)
    have mv3 : Moved (D :: wr) G s0 { s2 with heap := h3, toks := s2.toks + 1 } := mv2.then_heap (Nat.le_succ _) fun b o hb e => by
      rw [but.2 b fun q => hb (by rw [q]; exact List.mem_cons_self)]; exact e
    refine wpAny_pure ⟨plainId_quiet PyProof.Rows.F.plain_set_update_loop _, fillTexts W D nD ys ly nd few vals fin left (i + 1) _ (by omega) (W.frame _ s2 _ _ st2 (Nat.le_succ _) fun b hb o e => ?_) mv3 so4⟩
    rw [but.2 b fun q => nD (by rw [← q]; exact hb)]; exact e
end
theorem texts_at : ∀ {us : List Value} {ys : List Str}, StrsAre us ys → ∀ (i : Nat) (v : Value), us[i]? = some v → ∃ t, v = .str (ys.getD i Str.empty) t
  | _, _, .nil, i, v, h => by simp at h
  | _, _, .cons n t hr, 0, v, h => ⟨t, by have := Option.some.inj h; exact this.symm⟩
  | _, _, .cons n t hr, i + 1, v, h => texts_at hr i v h
section
variable {prog : Program} {w : World} {A : Around} {E : Value → Shared → Prop} {s : Shared}
set_option maxHeartbeats 3200000 in
theorem call_set_texts {l : Addr} {us : Array Value} {ys : List Str} {Q : Value → Shared → Prop} (hh : A.handled = none) (hl : s.heap.IsList l us) (hi : PyProof.Rows.StrsAre us.toList ys) (nd : ys.Nodup) (few : ys.length ≤ 1000)
    (h : ∀ (h2 : Heap) (t2 : Nat), h2.SetOf (PySem.strKind prog w) s.heap.objs.size (among ys us.size) us.size → (∀ b o, b < s.heap.objs.size → s.heap.get? b = some o → h2.get? b = some o) → Q (.ref s.heap.objs.size) { s with heap := h2, toks := t2 }) :
    wpAny (model prog w) A (call (.type "set") [.ref l]) Q E s := by
  obtain ⟨k1, k2, h3⟩ := PySem.F.called_set.mro
  have h4 := PySem.F.called_set.made
  have h5 := PySem.F.called_set.sub
  refine wpAny_call (codeAny_of_tree ?_)
  show wpAny _ _ (callAny (.type "set") _) _ _ _
  refine wpAny_pure ⟨Code.quiet_builtin _ (by decide +kernel), codeAny_builtin PySem.F.entry_type_call ?_⟩
  rw [Around.under_plain (weight_type_call_type "set" [.ref l] []) rfl]
  have h6 := PySem.F.called_set.notType
  have h7 := PySem.F.called_set.canCreate
  have h8 := PySem.F.typeCall_set_1 (.ref l)
  repeat (any_goals (first | assumption | wp_step))
  refine codeAny_mono (code_set_new_1 (.ref l) (E := E) (Q₁ := fun v s1 => ∃ led : Bool, v = .ref s.heap.objs.size ∧ s1 = { s with heap := s.heap.push { cls := .type "set", dict := none, data := .set #[] 0 (.fresh 0 0 led) } }) fun led => ⟨led, rfl, rfl⟩) fun r s1 hr => ?_
  match r, hr with
  | .error e, hr => exact hr
  | .ok .next, hr => exact hr.elim
  | .ok .brk, hr => exact hr.elim
  | .ok .cont, hr => exact hr.elim
  | .ok (.ret v), hr =>
    obtain ⟨led, rfl, rfl⟩ := hr
    have at0 : (s.heap.push { cls := .type "set", dict := none, data := .set #[] 0 (.fresh 0 0 led) }).get? s.heap.objs.size = some { cls := .type "set", dict := none, data := .set #[] 0 (.fresh 0 0 led) } := Heap.get?_push_size _ rfl
    have ty0 : Shared.TypeIs { s with heap := s.heap.push { cls := .type "set", dict := none, data := .set #[] 0 (.fresh 0 0 led) } } (.ref s.heap.objs.size) "set" := ⟨_, at0, rfl⟩
    have i1 := PySem.F.called_set.init.lookup
    have i2 := PySem.F.called_set.init.bind (.ref s.heap.objs.size)
    repeat (any_goals (first | assumption | wp_step))
    refine codeAny_mono (codeAny_call_builtin (R := wants (fun r s2 => r = .none ∧ ∃ h2 t2, s2 = { s with heap := h2, toks := t2 } ∧ h2.SetOf (PySem.strKind prog w) s.heap.objs.size (among ys us.size) us.size ∧ ∀ b o, b < s.heap.objs.size → s.heap.get? b = some o → h2.get? b = some o) E) PySem.F.called_set.init.plain PySem.F.entry_set_init (check_set_init_1 ty0 ?_)) fun r2 s2 hr2 => ?_
    · obtain ⟨ol, hol, hcl, nl, hdl⟩ := hl
      obtain ⟨ocls, odict, odata, oslots⟩ := ol
      simp only at hcl hdl
      subst hcl
      subst hdl
      have at1 : (s.heap.push { cls := .type "set", dict := none, data := .set #[] 0 (.fresh 0 0 led) }).get? l = some { cls := .type "list", dict := odict, data := .seq us nl, slots := oslots } := Heap.get?_push_of_some _ hol
      have n1 := PySem.F.sub_list_set
      have n2 := PySem.F.sub_list_frozenset
      have n3 : (Value.type "list" == Value.type "dict") = false := by decide
      have l1 : (s.heap.push { cls := .type "set", dict := none, data := .set #[] 0 (.fresh 0 0 led) }).IsList l us := ⟨_, at1, rfl, nl, rfl⟩
      unfold Builtin.«set.__init__» noKeywords Builtin.Frozenset.updateFrom
      generalize hPI : pyIter = PI
      wp_walk
      subst hPI
      refine wpAny_pyIter_list l1 (wpAny_bind (wpAny_runValue ?_))
      have ll : l < s.heap.objs.size := Heap.lt_size hol
      have h9 : A.in1.in1.in1.handled = none := by simp [hh]
      have e0 : (s.heap.push { cls := .type "set", dict := none, data := .set #[] 0 (.fresh 0 0 led) }).objs.size = s.heap.objs.size + 1 := Heap.size_push ..
      have nI : l ≠ (s.heap.push { cls := .type "set", dict := none, data := .set #[] 0 (.fresh 0 0 led) }).objs.size := by
        rw [e0]; exact Nat.ne_of_lt (Nat.lt_succ_of_lt ll)
      have nS : s.heap.objs.size ∉ [(s.heap.push { cls := .type "set", dict := none, data := .set #[] 0 (.fresh 0 0 led) }).objs.size, l] := by
        rw [e0]
        intro z
        rcases List.mem_cons.mp z with z | z
        · exact absurd z (Nat.ne_of_lt (Nat.lt_succ_self _))
        · exact absurd (List.mem_singleton.mp z) (Nat.ne_of_gt ll)
      have ly : ys.length = us.size := by rw [← StrsAre.len_eq hi, Array.length_toList]
      refine fillTexts ((Walks.list h9 _ l nI us).toS) s.heap.objs.size nS ys ly nd (by omega) (fun i v hv => texts_at hi i v (by rw [Array.getElem?_toList]; exact hv)) ?fin us.size 0 _ (by omega) ⟨⟨_, Heap.get?_push_size _ rfl, rfl, rfl⟩, (l1.push _)⟩ (Moved.refl (hg := fun _ => rfl) ..) ?st
      case st =>
        have at2 : ((s.heap.push { cls := .type "set", dict := none, data := .set #[] 0 (.fresh 0 0 led) }).push { cls := .type "list_iterator", data := .fields #[.ref l, .int 0 0] }).get? s.heap.objs.size = some { cls := .type "set", dict := none, data := .set #[] 0 (.fresh 0 0 led) } := Heap.get?_push_of_some _ at0
        exact SetOf_congr ((setObjOf_fresh (knd := PySem.strKind prog w) led).setOf at2 (by unfold scanBound; omega)) (fun _ => rfl) rfl
      case fin =>
        intro s' hm hS'
        obtain ⟨h2, g2, d2, t2, o2⟩ := s'
        have eg : g2 = s.gens := hm.gens
        have ed : d2 = s.drawn := hm.drawn
        have eo : o2 = s.os := hm.os
        subst eg ed eo
        show wpAny _ _ _ _ _ _
        refine wpAny_pure ?_
        show wpAny _ _ (ret Value.none) _ _ _
        refine wpAny_pure ⟨rfl, h2, t2, rfl, hS', fun b o hb e => hm.heap b o (fun z => ?_) (Heap.get?_push_of_some _ (Heap.get?_push_of_some _ e))⟩
        rcases List.mem_cons.mp z with z | z
        · exact absurd z (Nat.ne_of_lt hb)
        · have z2 := List.mem_singleton.mp z
          rw [e0] at z2
          exact absurd z2 (Nat.ne_of_lt (Nat.lt_succ_of_lt hb))
    · match r2, hr2 with
      | .error e, hr2 => exact hr2
      | .ok .next, hr2 => exact hr2.elim
      | .ok .brk, hr2 => exact hr2.elim
      | .ok .cont, hr2 => exact hr2.elim
      | .ok (.ret r), hr2 =>
        obtain ⟨rfl, h2, t2, rfl, so, kp⟩ := hr2
        repeat (any_goals (first | assumption | wp_step))
        exact h _ _ so kp
end
/-- len(set(xs)) of unlike texts -/
def tLenSetT (K : PySem.W.Frag) (ta : TE) : TE := fun σ H Q => ta σ H fun x H1 => ∃ (l : Addr) (ys : List Str), x = .ref l ∧ SqL K H1 l (ys.map V.str) ∧ ys.Nodup ∧ ys.length ≤ 1000 ∧ Q (.int (ys.length : Nat)) H1
theorem pe_lenSetT {X : Cx} (K : PySem.W.Frag) {a : Expr} {ta : TE} {p p2 q pos : Pos} (hg : Gl X "len") (hm : X.mg "len" = none) (hg2 : Gl X "set") (hm2 : X.mg "set" = none) (ha : PE X a ta) (hc : X.calm = true := by rfl)
    (na : starEach [a] X.env = (false, eval a X.env) :: starEach [] X.env := by rfl) (eK : X.K = K := by rfl) : PE X (.Call (.Name "len" p) [.Call (.Name "set" p2) [a] [] q] [] pos) (tLenSetT K ta) := by
  subst eK
  refine ⟨fun pins s σ H Q I h => Call_ (ld_blt I hg hm boot_len (callWith_builtin1 (args_cons (Call_ (ld_blt I hg2 hm2 boot_set ?_)) rfl) rfl rfl))⟩
  refine callWith_type1 (args_cons (thn (ha.run pins s σ H _ I h) fun v s1 ⟨x, H1, I1, r1, l, ys, ex, hq, nd, few, q1⟩ => args_nil ?_) na) na rfl
  subst ex
  cases r1
  obtain ⟨its, r, pl, hz⟩ := I1.list hq
  have e1 : its.toArray.size = ys.length := by rw [List.size_toArray, ← r.length, List.length_map]
  refine call_set_texts (I1.ok.hd hc) pl.isList (by simpa using strsAre_of r) nd few fun h2 tk so hk => args_nil ?_
  obtain ⟨o, es, ep, t, ho, hex, hd, _, _, _, hf, hn⟩ := so
  have I2 : Inv X pins σ H1 { s1 with heap := h2, toks := tk } := I1.kept fun b o e => hk b o (Heap.lt_size e) e
  exact call_len_set ho hex hd hf (by rw [hn] <;> omega) ⟨.int ys.length, H1, I2.tok _, ⟨_, by rw [hn, e1]⟩, q1⟩
end Ly

set_option Elab.async false
set_option linter.all false
set_option maxRecDepth 100000
/-! zip of three tuples -/
namespace Ly
open PySem PySem.Spec PyProof.Rows L2
/-- the tuples at a, b, c as they stand at each turn, their items in new triples -/
def ItzT3 (K : PySem.W.Frag) (a b c : Addr) : It where
  go := fun i H => ∃ xs ys zs x y z, SqT K H a xs ∧ SqT K H b ys ∧ SqT K H c zs ∧ xs[i]? = some x ∧ ys[i]? = some y ∧ zs[i]? = some z
  yld := fun i H v H' => ∃ T x y z, v = .ref T ∧ H T = none ∧ H' = upd H T (.tup [x, y, z]) ∧ (∀ l, SqT K H a l → l[i]? = some x) ∧ (∀ l, SqT K H b l → l[i]? = some y) ∧ ∀ l, SqT K H c l → l[i]? = some z
  stop := fun i H => ∃ xs ys zs : List V, SqT K H a xs ∧ SqT K H b ys ∧ SqT K H c zs ∧ i ≤ xs.length ∧ i ≤ ys.length ∧ i ≤ zs.length ∧ (i = xs.length ∨ i = ys.length ∨ i = zs.length)
theorem in6 {z a b c d e f : Addr} (h : z ∈ [a, b, c, d, e, f]) : z = a ∨ z = b ∨ z = c ∨ z = d ∨ z = e ∨ z = f := by simpa using h
theorem tup_ne {s : Shared} {a i : Addr} {its : Array Value} {n : Nat} (p : IsTup s.heap a its) (l : s.heap.IsTupleIter i a n) : a ≠ i := fun q => by
  obtain ⟨o, ho, c, _⟩ := l
  obtain ⟨o', ho', c', _⟩ := p
  rw [← q, ho'] at ho; cases ho
  rw [c'] at c; simp at c
theorem turnT3 {P : Program} {w : World} {K : PySem.W.Frag} {elts : List Expr} {kk : Nat} {tpos : Pos} {a b c z TI TO i1 i2 i3 : Addr} (S : ZipSep3 z TI TO i1 i2 i3 [i1, a] [i2, b] [i3, c]) :
    Turn P w K (.Tuple elts kk tpos) (ItzT3 K a b c) [z, TI, TO, i1, i2, i3] z (fun i h => IsZip h z TI TO .none ∧ IsTupOf3 h TI (.ref i1) (.ref i2) (.ref i3) ∧ (∃ x y w, IsTupOf3 h TO x y w) ∧ h.IsTupleIter i1 a i ∧ h.IsTupleIter i2 b i ∧ h.IsTupleIter i3 c i) := by
  have z1 := S.zi1
  have z2 := S.zi2
  have z3 := S.zi3
  have keep5 : ∀ {h h' : Heap} {q : Addr} {o : Obj}, (∀ c o, c ≠ z → c ≠ TO → c ≠ i1 → c ≠ i2 → c ≠ i3 → h.get? c = some o → h'.get? c = some o) → q ∉ [z, TI, TO, i1, i2, i3] → h.get? q = some o → h'.get? q = some o :=
    fun k hc q => k _ _ (fun e => hc (by simp [e])) (fun e => hc (by simp [e])) (fun e => hc (by simp [e])) (fun e => hc (by simp [e])) (fun e => hc (by simp [e])) q
  have size6 : ∀ {h : Heap} {i : Nat}, IsZip h z TI TO .none → IsTupOf3 h TI (.ref i1) (.ref i2) (.ref i3) → (∃ x y w, IsTupOf3 h TO x y w) → h.IsTupleIter i1 a i → h.IsTupleIter i2 b i → h.IsTupleIter i3 c i → ∀ q ∈ [z, TI, TO, i1, i2, i3], q < h.objs.size := by
    intro h i hz hT ⟨x, y, w, hO⟩ ⟨o1, e1, _⟩ ⟨o2, e2, _⟩ ⟨o3, e3, _⟩ c hc
    rcases in6 hc with q | q | q | q | q | q <;> subst q
    · exact Heap.lt_size hz
    · exact Heap.lt_size hT
    · exact Heap.lt_size hO
    · exact Heap.lt_size e1
    · exact Heap.lt_size e2
    · exact Heap.lt_size e3
  refine { mem := List.mem_cons_self .., obj := ?_, keep := ?_, item := ?_, done := ?_, self := fun A i s Q E st h => wpAny_pyIter_zip st.1 h }
  · rintro i h ⟨hz, hT, ⟨x, y, w, hO⟩, ⟨o1, e1, _, d1⟩, ⟨o2, e2, _, d2⟩, ⟨o3, e3, _, d3⟩⟩ c hc
    rcases in6 hc with q | q | q | q | q | q <;> subst q
    · exact ⟨_, hz, fun v q => nomatch q⟩
    · exact ⟨_, hT, fun v q => nomatch q⟩
    · exact ⟨_, hO, fun v q => nomatch q⟩
    · exact ⟨o1, e1, fun v q => by rw [d1] at q; cases q⟩
    · exact ⟨o2, e2, fun v q => by rw [d2] at q; cases q⟩
    · exact ⟨o3, e3, fun v q => by rw [d3] at q; cases q⟩
  · rintro i h h' ⟨hz, hT, ⟨x, y, w, hO⟩, l1, l2, l3⟩ k
    exact ⟨k z (by simp) _ hz, k TI (by simp) _ hT, ⟨x, y, w, k TO (by simp) _ hO⟩, l1.at fun o q => k i1 (by simp) o q, l2.at fun o q => k i2 (by simp) o q, l3.at fun o q => k i3 (by simp) o q⟩
  · intro X hP hw hK hc i pins s σ H E I hf st hg
    subst hP hw hK
    obtain ⟨hz, hT, hO, l1, l2, l3⟩ := st
    have lts := size6 hz hT hO l1 l2 l3
    obtain ⟨x0, y0, w0, hO⟩ := hO
    obtain ⟨xs, ys, zs, x, y, zz0, qx, qy, qz, hx, hy, hzz⟩ := hg
    obtain ⟨its, rv, p, _⟩ := I.tuple qx
    obtain ⟨its2, rv2, p2, _⟩ := I.tuple qy
    obtain ⟨its3, rv3, p3, _⟩ := I.tuple qz
    obtain ⟨u, hu, ru⟩ := rv.get hx
    obtain ⟨u2, hu2, ru2⟩ := rv2.get hy
    obtain ⟨u3, hu3, ru3⟩ := rv3.get hzz
    have hd : X.A.in1.handled = none := I.ok.hd hc
    have D1 := Draws.tuple (prog := X.prog) (w := X.w) hd i1 a (tup_ne p l1) its.toArray
    have D2 := Draws.tuple (prog := X.prog) (w := X.w) hd i2 b (tup_ne p2 l2) its2.toArray
    have D3 := Draws.tuple (prog := X.prog) (w := X.w) hd i3 c (tup_ne p3 l3) its3.toArray
    have s1 : i < its.toArray.size := by
      have := (List.getElem?_eq_some_iff.mp hu).1
      simpa using this
    have s2 : i < its2.toArray.size := by
      have := (List.getElem?_eq_some_iff.mp hu2).1
      simpa using this
    have s3 : i < its3.toArray.size := by
      have := (List.getElem?_eq_some_iff.mp hu3).1
      simpa using this
    refine wpAny_pyNext_zipD3_item S D1 D2 D3 hz hT hO ⟨l1, p⟩ ⟨l2, p2⟩ ⟨l3, p3⟩ s1 s2 s3 fun v1 v2 v3 h' tk e1 e2 e3 z' O' st1 st2 st3 hN hsz hk => ?_
    have ev1 : u = v1 := by
      have : its[i]? = some v1 := by simpa using e1
      rw [hu] at this; exact Option.some.inj this
    have ev2 : u2 = v2 := by
      have : its2[i]? = some v2 := by simpa using e2
      rw [hu2] at this; exact Option.some.inj this
    have ev3 : u3 = v3 := by
      have : its3[i]? = some v3 := by simpa using e3
      rw [hu3] at this; exact Option.some.inj this
    subst ev1 ev2 ev3
    refine ⟨_, rfl, wpAny_letOwnedTupleGo_zip (s := { s with heap := h', toks := tk }) z' fun h2 zz sb => ?_⟩
    have zlt : z < s.heap.objs.size := lts z (by simp)
    have trip : h2.get? s.heap.objs.size = some { cls := .type "tuple", data := .seq #[u, u2, u3] } := (sb.2 _ (Nat.ne_of_gt zlt)).trans hN
    have new : ObjOk X.prog X.w (upd H s.heap.objs.size (.tup [x, y, zz0])) h2 s.heap.objs.size (.tup [x, y, zz0]) := ⟨by show 3 ≤ sizeLine; decide, [u, u2, u3], .cons ru (.cons ru2 (.cons ru3 .nil)), ⟨_, trip, rfl, _, rfl⟩⟩
    have I2 : Inv X pins σ (upd H s.heap.objs.size (.tup [x, y, zz0])) { s with heap := h2, toks := tk } :=
      I.turnedNew (t' := tk) (ch := [z, TI, TO, i1, i2, i3]) (fun c o hb q => (sb.2 c (fun e => hb (by simp [e]))).trans (keep5 hk hb q)) hf (Nat.le_refl _) new
    refine ⟨.ref s.heap.objs.size, _, I2, rfl, ⟨_, x, y, zz0, rfl, I.hok.fresh (Nat.le_refl _), rfl, fun l hl => by rw [I.tuple_inj hl qx]; exact hx, fun l hl => by rw [I.tuple_inj hl qy]; exact hy, fun l hl => by rw [I.tuple_inj hl qz]; exact hzz⟩, ⟨zz, ?_, ⟨u, u2, u3, ?_⟩, ?_, ?_, ?_⟩, fun c hc => ?_⟩
    · exact (sb.2 _ S.TIz).trans (hk _ _ S.TIz S.TITO S.TIi1 S.TIi2 S.TIi3 hT)
    · exact (sb.2 _ S.TOz).trans O'
    · exact st1.1.at fun o q => (sb.2 _ z1.symm).trans q
    · exact st2.1.at fun o q => (sb.2 _ z2.symm).trans q
    · exact st3.1.at fun o q => (sb.2 _ z3.symm).trans q
    · rw [upd_ne (Nat.ne_of_lt (lts c hc))]
      exact (hf c hc).1
  · intro X hP hw hK hc i pins s σ H E I hf st hg
    subst hP hw hK
    obtain ⟨hz, hT, ⟨x0, y0, w0, hO⟩, l1, l2, l3⟩ := st
    obtain ⟨xs, ys, zs, qx, qy, qz, le1, le2, le3, hend⟩ := hg
    obtain ⟨its, rv, p, _⟩ := I.tuple qx
    obtain ⟨its2, rv2, p2, _⟩ := I.tuple qy
    obtain ⟨its3, rv3, p3, _⟩ := I.tuple qz
    have hd : X.A.in1.handled = none := I.ok.hd hc
    have e1 := rv.length
    have e2 := rv2.length
    have e3 := rv3.length
    refine wpAny_pyNext_zipD3_end S (Draws.tuple (prog := X.prog) (w := X.w) hd i1 a (tup_ne p l1) its.toArray) (Draws.tuple (prog := X.prog) (w := X.w) hd i2 b (tup_ne p2 l2) its2.toArray) (Draws.tuple (prog := X.prog) (w := X.w) hd i3 c (tup_ne p3 l3) its3.toArray) hz hT hO ⟨l1, p⟩ ⟨l2, p2⟩ ⟨l3, p3⟩ (by simp; omega) (by simp; omega) (by simp; omega) (by simp; omega) fun h' tk hk => ?_
    exact ⟨rfl, I.turnedL (t' := tk) (ch := [z, TI, TO, i1, i2, i3]) (fun c o hb q => keep5 hk hb q) hf⟩
def iZipT3 (K : PySem.W.Frag) (ta : TA) : TI := fun σ H R => ta σ H fun vs H1 => ∃ a b c xs ys zs, vs = [.ref a, .ref b, .ref c] ∧ SqT K H1 a xs ∧ SqT K H1 b ys ∧ SqT K H1 c zs ∧ R (ItzT3 K a b c) H1
theorem pi_zipT3 {X : Cx} {e e2 e3 : Expr} {ta : TA} {p pos tpos : Pos} {elts : List Expr} {kk : Nat} (hg : Gl X "zip") (hm : X.mg "zip" = none) (ha : PA X [e, e2, e3] ta)
    (hs : starEach [e, e2, e3] X.env = (false, eval e X.env) :: starEach [e2, e3] X.env := by rfl) (hpl : (backTo pos (starEach [e2, e3] X.env)).any (·.1) = false := by rfl) :
    PI X (.Tuple elts kk tpos) (.Call (.Name "zip" p) [e, e2, e3] [] pos) (iZipT3 X.K ta) := by
  refine ⟨fun pins s σ H R I h => Call_ (ld_blt I hg hm PyProof.Rows.boot_zip (PyProof.Rows.callWith_type1 (thn (ha.run pos pins s σ H _ I h) ?_) hs hpl))⟩
  rintro us s1 ⟨vs, H1, I1, r1, a, b, c, xs, ys, zs, rfl, qx, qy, qz, q⟩
  cases r1 with | cons r rr => cases rr with | cons r' rr => cases rr with | cons r'' rr =>
  cases rr
  cases r
  cases r'
  cases r''
  obtain ⟨its, rv, p1, _⟩ := I1.tuple qx
  obtain ⟨its2, rv2, p2, _⟩ := I1.tuple qy
  obtain ⟨its3, rv3, p3, _⟩ := I1.tuple qz
  obtain ⟨o1, ho1, _⟩ := id p1
  obtain ⟨o2, ho2, _⟩ := id p2
  obtain ⟨o3, ho3, _⟩ := id p3
  have S := zip_sep3 (N := s1.heap.objs.size) (fp1 := [a]) (fp2 := [b]) (fp3 := [c]) (fun x hc => by simp at hc; rw [hc]; exact Heap.lt_size ho1) (fun x hc => by simp at hc; rw [hc]; exact Heap.lt_size ho2) (fun x hc => by simp at hc; rw [hc]; exact Heap.lt_size ho3)
  refine zip_begins3 (begins_tuple a its.toArray) (begins_tuple b its2.toArray) (begins_tuple c its3.toArray) p1 p2 p3 fun h' hz hT hO g1 g2 g3 hsz hk => wpAny_pyIter_zip hz ?_
  have I2 : Inv X pins σ H1 { s1 with heap := h' } := I1.kept (t' := s1.toks) hk
  refine ⟨_, [s1.heap.objs.size + 5, s1.heap.objs.size + 3, s1.heap.objs.size + 4, s1.heap.objs.size, s1.heap.objs.size + 1, s1.heap.objs.size + 2], _, _, H1, rfl, I2, turnT3 S, ⟨hz, hT, ⟨_, _, _, hO⟩, ⟨_, g1, rfl, rfl⟩, ⟨_, g2, rfl, rfl⟩, ⟨_, g3, rfl, rfl⟩⟩, fun c hc => ?_, q⟩
  have le : s1.heap.objs.size ≤ c := by
    rcases in6 hc with z | z | z | z | z | z <;> rw [z] <;> first | exact Nat.le_refl _ | exact Nat.le_add_right _ _
  exact I1.fpOk le (I1.hok.fresh le)
theorem kpi_zipT3 {X : Cx} (K : PySem.W.Frag) {e1 e2 e3 : Expr} {ta : TA} {p pos tpos : Pos} {elts : List Expr} {kk : Nat} (hg : Gl X "zip") (hm : X.mg "zip" = none) (ha : PA X [e1, e2, e3] ta)
    (hs : starEach [e1, e2, e3] X.env = (false, eval e1 X.env) :: starEach [e2, e3] X.env := by rfl) (hpl : (backTo pos (starEach [e2, e3] X.env)).any (·.1) = false := by rfl) (e : X.K = K := by rfl) :
    PI X (.Tuple elts kk tpos) (.Call (.Name "zip" p) [e1, e2, e3] [] pos) (iZipT3 K ta) := by subst e; exact pi_zipT3 hg hm ha hs hpl
def YTrip (xs ys zs : Nat → Option V) : Nat → Hp → V → Hp → Prop := fun i H v H' => ∃ T x y z, v = .ref T ∧ H T = none ∧ H' = upd H T (.tup [x, y, z]) ∧ xs i = some x ∧ ys i = some y ∧ zs i = some z
theorem walk_zipT3 {K : PySem.W.Frag} {a b c : Addr} {xs ys zs : List V} (e : xs.length = ys.length) (e2 : xs.length = zs.length) : Walk (ItzT3 K a b c) xs.length (fun H => SqT K H a xs ∧ SqT K H b ys ∧ SqT K H c zs) (YTrip (fun i => xs[i]?) (fun i => ys[i]?) (fun i => zs[i]?)) := by
  refine ⟨fun i _ hi q => ?_, fun _ q => ⟨xs, ys, zs, q.1, q.2.1, q.2.2, Nat.le_refl _, Nat.le_of_eq e, Nat.le_of_eq e2, .inl rfl⟩, fun i H v H' _ q y => ?_⟩
  · have h2 : i < ys.length := by omega
    have h3 : i < zs.length := by omega
    exact ⟨xs, ys, zs, xs[i], ys[i], zs[i], q.1, q.2.1, q.2.2, by simp [hi], by simp [h2], by simp [h3]⟩
  · obtain ⟨T, x, y', z, h1, h2, h3, h4, h5, h6⟩ := y
    exact ⟨T, x, y', z, h1, h2, h3, h4 xs q.1, h5 ys q.2.1, h6 zs q.2.2⟩
/-! ### zip of two tuples, held by a name -/
def zO (z TI TO : Addr) : HO := .ext fun h => IsZip h z TI TO .none
def pO (TI i1 i2 : Addr) : HO := .ext fun h => IsPair h TI (.ref i1) (.ref i2)
def nO (TO : Addr) : HO := .ext fun h => IsPair h TO .none .none
def iO (i a : Addr) : HO := .ext fun h => h.IsTupleIter i a 0
structure ZipV (n : Nat) (H0 H : Hp) (z a b : Addr) : Prop where
  ex : ∃ TI TO i1 i2, ZipApart z TI TO i1 i2 a b ∧ H z = some (zO z TI TO) ∧ H TI = some (pO TI i1 i2) ∧ H TO = some (nO TO) ∧ H i1 = some (iO i1 a) ∧ H i2 = some (iO i2 b) ∧ n ≤ z ∧ n ≤ TI ∧ n ≤ TO ∧ n ≤ i1 ∧ n ≤ i2 ∧ ∀ c ∈ [z, TI, TO, i1, i2], H0 c = none
/-- all but iterators stays -/
def KeepN (H H' : Hp) : Prop := (∀ b o, (∀ φ, o ≠ .ext φ) → H b = some o → H' b = some o) ∧ ∀ b, H b = none → H' b = none
theorem KeepN.trans {H H1 H2 : Hp} (a : KeepN H H1) (b : KeepN H1 H2) : KeepN H H2 := ⟨fun x o n e => b.1 x o n (a.1 x o n e), fun x e => b.2 x (a.2 x e)⟩
theorem keep_drop {H : Hp} {a : Addr} {φ : Heap → Prop} (h : H a = some (.ext φ)) : KeepN H (ItX.dropH H a) := by
  refine ⟨fun b o n e => ?_, fun b e => ?_⟩
  · have : b ≠ a := fun z => by
      rw [z, h] at e
      exact n φ (Option.some.inj e).symm
    rw [ItX.dropH_ne this]; exact e
  · by_cases hb : b = a
    · rw [hb, ItX.dropH_same]
    · rw [ItX.dropH_ne hb]; exact e
def tZipV (K : PySem.W.Frag) (n : Nat) (ta : TA) : TE := fun σ H Q => ta σ H fun vs H1 => ∃ a b xs ys, vs = [.ref a, .ref b] ∧ SqT K H1 a xs ∧ SqT K H1 b ys ∧ ∀ z H2, Same H1 H2 → H1 z = none → ZipV n H1 H2 z a b → Q (.ref z) H2
theorem pe_zipV {X : Cx} (K : PySem.W.Frag) {e e2 : Expr} {ta : TA} {p pos : Pos} (hg : Gl X "zip") (hm : X.mg "zip" = none) (ha : PA X [e, e2] ta)
    (hs : starEach [e, e2] X.env = (false, eval e X.env) :: starEach [e2] X.env := by rfl) (hpl : (backTo pos (starEach [e2] X.env)).any (·.1) = false := by rfl) (eK : X.K = K := by rfl) :
    PE X (.Call (.Name "zip" p) [e, e2] [] pos) (tZipV K X.s_0.heap.objs.size ta) := by
  subst eK
  refine ⟨fun pins s σ H Q I h => Call_ (ld_blt I hg hm PyProof.Rows.boot_zip (PyProof.Rows.callWith_type1 (thn (ha.run pos pins s σ H _ I h) ?_) hs hpl))⟩
  rintro us s1 ⟨vs, H1, I1, r1, a, b, xs, ys, rfl, qx, qy, q⟩
  cases r1 with | cons r rr => cases rr with | cons r' rr =>
  cases rr
  cases r
  cases r'
  obtain ⟨its, rv, p1, _⟩ := I1.tuple qx
  obtain ⟨its2, rv2, p2, _⟩ := I1.tuple qy
  obtain ⟨o1, ho1, _⟩ := id p1
  obtain ⟨o2, ho2, _⟩ := id p2
  refine RZ.call_zipT (show s1.heap.IsTuple a its.toArray from p1) (show s1.heap.IsTuple b its2.toArray from p2) fun h' hz hTI hTO h1 h2 hsz hk => ?_
  have I2 : Inv X pins σ H1 { s1 with heap := h' } := I1.kept (t' := s1.toks) hk
  have D := PySem.W.ktu_apart s1.heap.objs.size a b (Heap.lt_size ho1) (Heap.lt_size ho2)
  generalize hN : s1.heap.objs.size = N at *
  have fr : ∀ j, H1 (N + j) = none := fun j => I1.hok.fresh (by rw [hN]; exact Nat.le_add_right N j)
  have n1 : ∀ (o : HO) (j k : Nat) (G : Hp), j ≠ k → G (N + j) = none → upd G (N + k) o (N + j) = none := fun o j k G hj hg => by
    rw [upd_ne (fun z => hj (Nat.add_left_cancel z))]; exact hg
  have le : ∀ j, s1.heap.objs.size ≤ N + j := fun j => by rw [hN]; exact Nat.le_add_right N j
  have J1 := L2.Inv.take (h' := h') (t' := s1.toks) (o := zO (N + 4) (N + 2) (N + 3)) I2 (fun b ob _ e => e) (I1.fpOk (le 4) (fr 4)) ⟨hz, ⟨_, hz⟩, fun h1 h2 q k => k _ q⟩
  have J2 := L2.Inv.take (h' := h') (t' := s1.toks) (o := pO (N + 2) N (N + 1)) J1 (fun b ob _ e => e) (I1.fpOk (le 2) (n1 _ 2 4 _ (by decide) (fr 2))) ⟨hTI, ⟨_, hTI⟩, fun h1 h2 q k => k _ q⟩
  have J3 := L2.Inv.take (h' := h') (t' := s1.toks) (o := nO (N + 3)) J2 (fun b ob _ e => e) (I1.fpOk (le 3) (n1 _ 3 2 _ (by decide) (n1 _ 3 4 _ (by decide) (fr 3)))) ⟨hTO, ⟨_, hTO⟩, fun h1 h2 q k => k _ q⟩
  obtain ⟨oi1, ei1, _⟩ := id h1
  obtain ⟨oi2, ei2, _⟩ := id h2
  have J4 := L2.Inv.take (h' := h') (t' := s1.toks) (o := iO (N + 0) a) J3 (fun b ob _ e => e) (I1.fpOk (le 0) (n1 _ 0 3 _ (by decide) (n1 _ 0 2 _ (by decide) (n1 _ 0 4 _ (by decide) (fr 0))))) ⟨h1, ⟨_, ei1⟩, fun g1 g2 q k => q.at k⟩
  have J5 := L2.Inv.take (h' := h') (t' := s1.toks) (o := iO (N + 1) b) J4 (fun b ob _ e => e) (I1.fpOk (le 1) (n1 _ 1 0 _ (by decide) (n1 _ 1 3 _ (by decide) (n1 _ 1 2 _ (by decide) (n1 _ 1 4 _ (by decide) (fr 1)))))) ⟨h2, ⟨_, ei2⟩, fun g1 g2 q k => q.at k⟩
  have ad : ∀ j k : Nat, j ≠ k → N + j ≠ N + k := fun j k h z => h (Nat.add_left_cancel z)
  have sz := I1.sz
  rw [hN] at sz
  refine ⟨.ref (N + 4), _, J5, rfl, q (N + 4) _ (fun b o e => ?_) (fr 4) ⟨N + 2, N + 3, N + 0, N + 1, D, ?_, ?_, ?_, ?_, upd_same, Nat.le_trans sz (Nat.le_add_right _ _), Nat.le_trans sz (Nat.le_add_right _ _), Nat.le_trans sz (Nat.le_add_right _ _), Nat.le_trans sz (Nat.le_add_right _ _), Nat.le_trans sz (Nat.le_add_right _ _), fun c hc => ?_⟩⟩
  · have nb : ∀ j, b ≠ N + j := fun j z => by rw [z, fr j] at e; cases e
    rw [upd_ne (nb 1), upd_ne (nb 0), upd_ne (nb 3), upd_ne (nb 2), upd_ne (nb 4)]; exact e
  · rw [upd_ne (ad 4 1 (by decide)), upd_ne (ad 4 0 (by decide)), upd_ne (ad 4 3 (by decide)), upd_ne (ad 4 2 (by decide))]; exact upd_same
  · rw [upd_ne (ad 2 1 (by decide)), upd_ne (ad 2 0 (by decide)), upd_ne (ad 2 3 (by decide))]; exact upd_same
  · rw [upd_ne (ad 3 1 (by decide)), upd_ne (ad 3 0 (by decide))]; exact upd_same
  · rw [upd_ne (ad 0 1 (by decide))]; exact upd_same
  · rcases in5 hc with h | h | h | h | h
    · rw [h]; exact fr 4
    · rw [h]; exact fr 2
    · rw [h]; exact fr 3
    · rw [h]; exact fr 0
    · rw [h]; exact fr 1
def iZipV (K : PySem.W.Frag) (n k : Nat) : TI := fun σ H R => ∃ z a b H0, σ[k]? = some (some (.ref z)) ∧ ZipV n H0 H z a b ∧ ∀ H', (∀ b o, H0 b = some o → H b = some o → H' b = some o) → R (RZ.ItzT K a b) H'
theorem fp_low {X : Cx} {pins : List (Addr × Obj)} {H H' : Hp} {b : Addr} (f : FpOk X pins H b) (h : H' b = none) : FpOk X pins H' b := by
  obtain ⟨_, r⟩ := f
  exact ⟨h, r⟩
theorem pi_zipV {X : Cx} (K : PySem.W.Frag) {k : Nat} {x : Str} {p tpos : Pos} {elts : List Expr} {kk : Nat} (hN : X.N[k]? = some x) (hv : Vis X.env.scope x) (hd : (x == ("__debug__" : Str)) = false := by decide) (hcd : (x == ("__classdict__" : Str)) = false := by decide) (eK : X.K = K := by rfl) :
    PI X (.Tuple elts kk tpos) (.Name x p) (iZipV K X.s_0.heap.objs.size k) := by
  subst eK
  refine ⟨fun pins s σ H R I h => ?_⟩
  obtain ⟨z, a, b, H0, hs, ⟨TI, TO, i1, i2, D, e1, e2, e3, e4, e5, l1, l2, l3, l4, l5, fresh⟩, q⟩ := h
  refine thn ((pe_var (pos := p) (i := k) hN hv hd hcd).run pins s σ H (fun v H1 => v = .ref z ∧ H1 = H) I ⟨.ref z, hs, rfl, rfl⟩) fun u s1 ⟨v, H1, I1, r1, ev, eH⟩ => ?_
  subst ev
  rw [eH] at I1
  cases r1
  have o1 : IsZip s1.heap z TI TO .none := (I1.hok z _ e1).1
  have o2 : IsPair s1.heap TI (.ref i1) (.ref i2) := (I1.hok TI _ e2).1
  have o3 : IsPair s1.heap TO .none .none := (I1.hok TO _ e3).1
  have o4 : s1.heap.IsTupleIter i1 a 0 := (I1.hok i1 _ e4).1
  have o5 : s1.heap.IsTupleIter i2 b 0 := (I1.hok i2 _ e5).1
  refine wpAny_pyIter_zip o1 ?_
  have J1 := ItX.inv_drop I1 e1
  have k1 := keep_drop e1
  have f1 := ItX.inv_fp I1 e1 l1
  have e2' : ItX.dropH H z TI = some (pO TI i1 i2) := by rw [ItX.dropH_ne D.TIz]; exact e2
  have J2 := ItX.inv_drop J1 e2'
  have k2 := keep_drop e2'
  have f2 := ItX.inv_fp J1 e2' l2
  have e3' : ItX.dropH (ItX.dropH H z) TI TO = some (nO TO) := by rw [ItX.dropH_ne D.TITO.symm, ItX.dropH_ne D.TOz]; exact e3
  have J3 := ItX.inv_drop J2 e3'
  have k3 := keep_drop e3'
  have f3 := ItX.inv_fp J2 e3' l3
  have e4' : ItX.dropH (ItX.dropH (ItX.dropH H z) TI) TO i1 = some (iO i1 a) := by rw [ItX.dropH_ne D.TOi1.symm, ItX.dropH_ne D.TIi1.symm, ItX.dropH_ne D.i1z]; exact e4
  have J4 := ItX.inv_drop J3 e4'
  have k4 := keep_drop e4'
  have f4 := ItX.inv_fp J3 e4' l4
  have e5' : ItX.dropH (ItX.dropH (ItX.dropH (ItX.dropH H z) TI) TO) i1 i2 = some (iO i2 b) := by rw [ItX.dropH_ne D.i12.symm, ItX.dropH_ne D.TOi2.symm, ItX.dropH_ne D.TIi2.symm, ItX.dropH_ne D.i2z]; exact e5
  have J5 := ItX.inv_drop J4 e5'
  have k5 := keep_drop e5'
  have f5 := ItX.inv_fp J4 e5' l5
  have kk5 := (((k1.trans k2).trans k3).trans k4).trans k5
  refine ⟨z, [z, TI, TO, i1, i2], _, _, _, rfl, J5, RZ.turn_zipT D, ⟨o1, o2, ⟨_, _, o3⟩, o4, o5⟩, fun c hc => ?_, q _ fun c o h0 hc => ?_⟩
  · rcases in5 hc with h | h | h | h | h <;> subst h
    · exact fp_low f1 (k5.2 _ (k4.2 _ (k3.2 _ (k2.2 _ f1.1))))
    · exact fp_low f2 (k5.2 _ (k4.2 _ (k3.2 _ f2.1)))
    · exact fp_low f3 (k5.2 _ (k4.2 _ f3.1))
    · exact fp_low f4 (k5.2 _ f4.1)
    · exact f5
  have nn : ∀ d ∈ [z, TI, TO, i1, i2], c ≠ d := fun d hd q => by
    rw [q, fresh d hd] at h0; cases h0
  rw [ItX.dropH_ne (nn i2 (by simp)), ItX.dropH_ne (nn i1 (by simp)), ItX.dropH_ne (nn TO (by simp)), ItX.dropH_ne (nn TI (by simp)), ItX.dropH_ne (nn z (by simp))]
  exact hc
/-! ### zip of a tuple and a list -/
def ItzN (K : PySem.W.Frag) (a b : Addr) : It where
  go := fun i H => ∃ xs ys x y, SqT K H a xs ∧ SqL K H b ys ∧ xs[i]? = some x ∧ ys[i]? = some y
  yld := fun i H v H' => ∃ T x y, v = .ref T ∧ H T = none ∧ H' = upd H T (.tup [x, y]) ∧ (∀ l, SqT K H a l → l[i]? = some x) ∧ ∀ l, SqL K H b l → l[i]? = some y
  stop := fun i H => ∃ xs ys : List V, SqT K H a xs ∧ SqL K H b ys ∧ i ≤ xs.length ∧ i ≤ ys.length ∧ (i = xs.length ∨ i = ys.length)
theorem turnN {P : Program} {w : World} {K : PySem.W.Frag} {elts : List Expr} {kk : Nat} {tpos : Pos} {a b z TI TO i1 i2 : Addr} (S : ZipSep2 z TI TO i1 i2 [i1, a] [i2, b]) :
    Turn P w K (.Tuple elts kk tpos) (ItzN K a b) [z, TI, TO, i1, i2] z (fun i h => IsZip h z TI TO .none ∧ IsTupOf2 h TI (.ref i1) (.ref i2) ∧ (∃ x y, IsTupOf2 h TO x y) ∧ h.IsTupleIter i1 a i ∧ h.IsListIter i2 b i) := by
  have n12 : i1 ≠ i2 := fun q => S.sep1_2 (by rw [q]; exact List.mem_cons_self ..)
  have z1 := S.zi1
  have z2 := S.zi2
  have t1 := S.Ti1
  have t2 := S.Ti2
  have keep4 : ∀ {h h' : Heap} {c : Addr} {o : Obj}, (∀ c o, c ≠ z → c ≠ TO → c ≠ i1 → c ≠ i2 → h.get? c = some o → h'.get? c = some o) → c ∉ [z, TI, TO, i1, i2] → h.get? c = some o → h'.get? c = some o :=
    fun k hc q => k _ _ (fun e => hc (by simp [e])) (fun e => hc (by simp [e])) (fun e => hc (by simp [e])) (fun e => hc (by simp [e])) q
  have size5 : ∀ {h : Heap} {i : Nat}, IsZip h z TI TO .none → IsTupOf2 h TI (.ref i1) (.ref i2) → (∃ x y, IsTupOf2 h TO x y) → h.IsTupleIter i1 a i → h.IsListIter i2 b i → ∀ c ∈ [z, TI, TO, i1, i2], c < h.objs.size := by
    intro h i hz hT ⟨x, y, hO⟩ ⟨o1, e1, _⟩ ⟨o2, e2, _⟩ c hc
    rcases in5 hc with q | q | q | q | q <;> subst q
    · exact Heap.lt_size hz
    · exact Heap.lt_size hT
    · exact Heap.lt_size hO
    · exact Heap.lt_size e1
    · exact Heap.lt_size e2
  refine { mem := List.mem_cons_self .., obj := ?_, keep := ?_, item := ?_, done := ?_, self := fun A i s Q E st h => wpAny_pyIter_zip st.1 h }
  · rintro i h ⟨hz, hT, ⟨x, y, hO⟩, ⟨o1, e1, _, d1⟩, ⟨o2, e2, _, d2⟩⟩ c hc
    rcases in5 hc with q | q | q | q | q <;> subst q
    · exact ⟨_, hz, fun v q => nomatch q⟩
    · exact ⟨_, hT, fun v q => nomatch q⟩
    · exact ⟨_, hO, fun v q => nomatch q⟩
    · exact ⟨o1, e1, fun v q => by rw [d1] at q; cases q⟩
    · exact ⟨o2, e2, fun v q => by rw [d2] at q; cases q⟩
  · rintro i h h' ⟨hz, hT, ⟨x, y, hO⟩, l1, l2⟩ k
    exact ⟨k z (by simp) _ hz, k TI (by simp) _ hT, ⟨x, y, k TO (by simp) _ hO⟩, l1.at fun o q => k i1 (by simp) o q, l2.at fun o q => k i2 (by simp) o q⟩
  · intro X hP hw hK hc i pins s σ H E I hf st hg
    subst hP hw hK
    obtain ⟨hz, hT, hO, l1, l2⟩ := st
    have lts := size5 hz hT hO l1 l2
    obtain ⟨x0, y0, hO⟩ := hO
    obtain ⟨xs, ys, x, y, qx, qy, hx, hy⟩ := hg
    obtain ⟨its, rv, p, _⟩ := I.tuple qx
    obtain ⟨its2, rv2, p2, _⟩ := I.list qy
    obtain ⟨u, hu, ru⟩ := rv.get hx
    obtain ⟨u2, hu2, ru2⟩ := rv2.get hy
    have a1 : a ≠ i1 := fun q => by
      obtain ⟨o, ho, c, _⟩ := l1
      obtain ⟨o', ho', c', _⟩ := p
      rw [← q, ho'] at ho; cases ho
      rw [c'] at c; simp at c
    have b2 : b ≠ i2 := fun q => by
      obtain ⟨o, ho, c, _⟩ := l2
      obtain ⟨o', ho', c', _⟩ := p2.isList
      rw [← q, ho'] at ho; cases ho
      rw [c'] at c; simp at c
    have hd : X.A.in1.handled = none := I.ok.hd hc
    have D1 := Draws.tuple (prog := X.prog) (w := X.w) hd i1 a a1 its.toArray
    have D2 := Draws.list (prog := X.prog) (w := X.w) hd i2 b b2 its2.toArray
    have s1 : i < its.toArray.size := by
      have := (List.getElem?_eq_some_iff.mp hu).1
      simpa using this
    have s2 : i < its2.toArray.size := by
      have := (List.getElem?_eq_some_iff.mp hu2).1
      simpa using this
    refine wpAny_pyNext_zipD2_item S D1 D2 hz hT hO ⟨l1, p⟩ ⟨l2, p2.isList⟩ s1 s2 fun v1 v2 h' tk e1 e2 z' O' st1 st2 hN hsz hk => ?_
    have ev1 : u = v1 := by
      have : its[i]? = some v1 := by simpa using e1
      rw [hu] at this; exact Option.some.inj this
    have ev2 : u2 = v2 := by
      have : its2[i]? = some v2 := by simpa using e2
      rw [hu2] at this; exact Option.some.inj this
    subst ev1 ev2
    refine ⟨_, rfl, wpAny_letOwnedTupleGo_zip (s := { s with heap := h', toks := tk }) z' fun h2 zz sb => ?_⟩
    have zlt : z < s.heap.objs.size := lts z (by simp)
    have pair : h2.get? s.heap.objs.size = some { cls := .type "tuple", data := .seq #[u, u2] } := (sb.2 _ (Nat.ne_of_gt zlt)).trans hN
    have new : ObjOk X.prog X.w (upd H s.heap.objs.size (.tup [x, y])) h2 s.heap.objs.size (.tup [x, y]) := ⟨by show 2 ≤ sizeLine; decide, [u, u2], .cons ru (.cons ru2 .nil), ⟨_, pair, rfl, _, rfl⟩⟩
    have I2 : Inv X pins σ (upd H s.heap.objs.size (.tup [x, y])) { s with heap := h2, toks := tk } :=
      I.turnedNew (t' := tk) (ch := [z, TI, TO, i1, i2]) (fun c o hb q => (sb.2 c (fun e => hb (by simp [e]))).trans (keep4 hk hb q)) hf (Nat.le_refl _) new
    refine ⟨.ref s.heap.objs.size, _, I2, rfl, ⟨_, x, y, rfl, I.hok.fresh (Nat.le_refl _), rfl, fun l hl => by rw [I.tuple_inj hl qx]; exact hx, fun l hl => by rw [I.list_inj hl qy]; exact hy⟩, ⟨zz, ?_, ⟨u, u2, ?_⟩, ?_, ?_⟩, fun c hc => ?_⟩
    · exact (sb.2 _ S.TIz).trans (hk _ _ S.TIz S.TITO S.TIi1 S.TIi2 hT)
    · exact (sb.2 _ S.TOz).trans O'
    · exact st1.1.at fun o q => (sb.2 _ z1.symm).trans q
    · exact st2.1.at fun o q => (sb.2 _ z2.symm).trans q
    · rw [upd_ne (Nat.ne_of_lt (lts c hc))]
      exact (hf c hc).1
  · intro X hP hw hK hc i pins s σ H E I hf st hg
    subst hP hw hK
    obtain ⟨hz, hT, ⟨x0, y0, hO⟩, l1, l2⟩ := st
    obtain ⟨xs, ys, qx, qy, le1, le2, hend⟩ := hg
    obtain ⟨its, rv, p, _⟩ := I.tuple qx
    obtain ⟨its2, rv2, p2, _⟩ := I.list qy
    have a1 : a ≠ i1 := fun q => by
      obtain ⟨o, ho, c, _⟩ := l1
      obtain ⟨o', ho', c', _⟩ := p
      rw [← q, ho'] at ho; cases ho
      rw [c'] at c; simp at c
    have b2 : b ≠ i2 := fun q => by
      obtain ⟨o, ho, c, _⟩ := l2
      obtain ⟨o', ho', c', _⟩ := p2.isList
      rw [← q, ho'] at ho; cases ho
      rw [c'] at c; simp at c
    have hd : X.A.in1.handled = none := I.ok.hd hc
    have e1 := rv.length
    have e2 := rv2.length
    refine wpAny_pyNext_zipD2_end S (Draws.tuple (prog := X.prog) (w := X.w) hd i1 a a1 its.toArray) (Draws.list (prog := X.prog) (w := X.w) hd i2 b b2 its2.toArray) hz hT hO ⟨l1, p⟩ ⟨l2, p2.isList⟩ (by simp; omega) (by simp; omega) (by simp; omega) fun h' tk hk => ?_
    exact ⟨rfl, I.turnedL (t' := tk) (ch := [z, TI, TO, i1, i2]) (fun c o hb q => keep4 hk hb q) hf⟩
def iZipN (K : PySem.W.Frag) (ta : TA) : TI := fun σ H R => ta σ H fun vs H1 => ∃ a b xs ys, vs = [.ref a, .ref b] ∧ SqT K H1 a xs ∧ SqL K H1 b ys ∧ R (ItzN K a b) H1
theorem pi_zipN {X : Cx} {e e2 : Expr} {ta : TA} {p pos tpos : Pos} {elts : List Expr} {kk : Nat} (hg : Gl X "zip") (hm : X.mg "zip" = none) (ha : PA X [e, e2] ta)
    (hs : starEach [e, e2] X.env = (false, eval e X.env) :: starEach [e2] X.env := by rfl) (hpl : (backTo pos (starEach [e2] X.env)).any (·.1) = false := by rfl) :
    PI X (.Tuple elts kk tpos) (.Call (.Name "zip" p) [e, e2] [] pos) (iZipN X.K ta) := by
  refine ⟨fun pins s σ H R I h => Call_ (ld_blt I hg hm PyProof.Rows.boot_zip (PyProof.Rows.callWith_type1 (thn (ha.run pos pins s σ H _ I h) ?_) hs hpl))⟩
  rintro us s1 ⟨vs, H1, I1, r1, a, b, xs, ys, rfl, qx, qy, q⟩
  cases r1 with | cons r rr => cases rr with | cons r' rr =>
  cases rr
  cases r
  cases r'
  obtain ⟨its, rv, p1, _⟩ := I1.tuple qx
  obtain ⟨its2, rv2, p2, _⟩ := I1.list qy
  obtain ⟨o1, ho1, _⟩ := id p1
  have lb : b < s1.heap.objs.size := p2.lt
  have la : a < s1.heap.objs.size := Heap.lt_size ho1
  have S := zip_sep2 (N := s1.heap.objs.size) (fp1 := [a]) (fp2 := [b]) (fun c hc => by simp at hc; rw [hc]; exact la) (fun c hc => by simp at hc; rw [hc]; exact lb)
  refine zip_begins2 (begins_tuple a its.toArray) (begins_list b its2.toArray) p1 p2.isList fun h' hz hT hO g1 g2 hsz hk => wpAny_pyIter_zip hz ?_
  have I2 : Inv X pins σ H1 { s1 with heap := h' } := I1.kept (t' := s1.toks) hk
  refine ⟨_, [s1.heap.objs.size + 4, s1.heap.objs.size + 2, s1.heap.objs.size + 3, s1.heap.objs.size, s1.heap.objs.size + 1], _, _, H1, rfl, I2, turnN S, ⟨hz, hT, ⟨_, _, hO⟩, ⟨_, g1, rfl, rfl⟩, ⟨_, g2, rfl, rfl⟩⟩, fun c hc => ?_, q⟩
  have le : s1.heap.objs.size ≤ c := by
    rcases in5 hc with z | z | z | z | z <;> rw [z] <;> first | exact Nat.le_refl _ | exact Nat.le_add_right _ _
  exact I1.fpOk le (I1.hok.fresh le)
theorem walk_zipN {K : PySem.W.Frag} {a b : Addr} {xs ys : List V} (e : xs.length = ys.length) : Walk (ItzN K a b) xs.length (fun H => SqT K H a xs ∧ SqL K H b ys) (YPair (fun i => xs[i]?) (fun i => ys[i]?)) := by
  refine ⟨fun i _ hi q => ?_, fun _ q => ⟨xs, ys, q.1, q.2, Nat.le_refl _, Nat.le_of_eq e, .inl rfl⟩, fun i H v H' _ q y => ?_⟩
  · have h2 : i < ys.length := by omega
    exact ⟨xs, ys, xs[i], ys[i], q.1, q.2, by simp [hi], by simp [h2]⟩
  · obtain ⟨T, x, z, h1, h2, h3, h4, h5⟩ := y
    exact ⟨T, x, z, h1, h2, h3, h4 xs q.1, h5 ys q.2⟩
theorem kpi_zipN {X : Cx} (K : PySem.W.Frag) {e1 e2 : Expr} {ta : TA} {p pos tpos : Pos} {elts : List Expr} {kk : Nat} (hg : Gl X "zip") (hm : X.mg "zip" = none) (ha : PA X [e1, e2] ta)
    (hs : starEach [e1, e2] X.env = (false, eval e1 X.env) :: starEach [e2] X.env := by rfl) (hpl : (backTo pos (starEach [e2] X.env)).any (·.1) = false := by rfl) (e : X.K = K := by rfl) :
    PI X (.Tuple elts kk tpos) (.Call (.Name "zip" p) [e1, e2] [] pos) (iZipN K ta) := by subst e; exact pi_zipN hg hm ha hs hpl
end Ly

set_option Elab.async false
set_option linter.all false
set_option maxRecDepth 100000
/-! dicts whose keys are tuples of tuples; `<` of data; sorted of such a dict -/
namespace Ly
open PySem PySem.Spec PyProof.Rows L2
/-! ### keys as data -/
mutual
def kD : NestedKey → PyData
  | .none => .none
  | .num i => .int i
  | .text x => .str x
  | .tup ks => .tuple (kDs ks)
def kDs : List NestedKey → List PyData
  | [] => []
  | k :: ks => kD k :: kDs ks
end
section
variable {X : Cx} {pins : List (Addr × Obj)} {σ : L2.St} {H : Hp} {s : Shared}
mutual
theorem nest_is (I : Inv X pins σ H s) : ∀ (k : NestedKey) {v : V} {u : Value}, Im X.K H v (kD k) → RelV v u → NestedIs s.heap k u
  | .none, _, _, h, r => by
    unfold kD at h
    cases h; cases r; exact .none
  | .num i, _, _, h, r => by
    unfold kD at h
    cases h; obtain ⟨t, rfl⟩ := r; exact .int _ _
  | .text x, _, _, h, r => by
    unfold kD at h
    cases h; obtain ⟨t, rfl⟩ := r; exact .text _ _
  | .tup ks, _, _, h, r => by
    unfold kD at h
    cases h with
    | tup e a =>
      cases r
      obtain ⟨its, rv, ⟨o, ho, hc, n, hd⟩, _⟩ := I.tuple e.sq
      exact .tup ho hc hd (nest_all I ks a rv)
theorem nest_all (I : Inv X pins σ H s) : ∀ (ks : List NestedKey) {vs : List V} {us : List Value}, ImAll X.K H vs (kDs ks) → Vals vs us → NestedAll s.heap ks us
  | [], _, _, h, r => by
    unfold kDs at h
    cases h; cases r; exact .nil
  | k :: ks, _, _, h, r => by
    unfold kDs at h
    cases h with
    | cons a b =>
      cases r with
      | cons ra rb => exact .cons (nest_is I k a ra) (nest_all I ks b rb)
end
end
/-- what the dict at a holds: keys, their tuples' places, the values' places -/
abbrev NK := NestedKey × Addr × Addr
def rawN (x : NK) : NestedKey × Addr × Value := (x.1, x.2.1, .ref x.2.2)
def dN (P : Program) (w : World) (a : Addr) (xs : List NK) : HO := .ext fun h => xs.length ≤ sizeLine ∧ (a == sysModules) = false ∧
  ∃ o es ep, h.get? a = some o ∧ o.ExactDict ∧ o.data = .dict es ep ∧ es.toList = (xs.map rawN).map (entryOfKey (nestedKind P w)) ∧ (xs.map (·.1)).Nodup
/-- the keys stand -/
def KeysIm (K : PySem.W.Frag) (H : Hp) (xs : List NK) : Prop := ∀ x ∈ xs, Im K H (.ref x.2.1) (kD x.1) ∧ x.1.depth ≤ 8
theorem KeysIm.mono {K : PySem.W.Frag} {H H' : Hp} {xs : List NK} (h : KeysIm K H xs) (t : TK H H') : KeysIm K H' xs := fun x hx => ⟨Im.mono t _ (h x hx).1, (h x hx).2⟩
def valN (xs : List NK) (k : NestedKey) : Option Addr := (xs.find? fun x => decide (x.1 = k)).map (·.2.2)
def putN (xs : List NK) (k : NestedKey) (b v : Addr) : List NK := if (valN xs k).isSome then xs.map (fun x => if x.1 = k then (x.1, x.2.1, v) else x) else xs ++ [(k, b, v)]
theorem atKey_raw (k : NestedKey) : ∀ xs : List NK, (atKey (xs.map rawN) k).map (·.2) = (valN xs k).map Value.ref
  | [] => rfl
  | x :: xs => by
    have ih := atKey_raw k xs
    unfold atKey valN at *
    rw [List.map_cons, List.find?_cons, List.find?_cons]
    by_cases h : x.1 = k
    · have h2 : (rawN x).1 = k := h
      rw [decide_eq_true h, decide_eq_true h2]; rfl
    · have h2 : ¬ (rawN x).1 = k := h
      rw [decide_eq_false h, decide_eq_false h2]; exact ih
theorem isSome_raw (xs : List NK) (k : NestedKey) : (atKey (xs.map rawN) k).isSome = (valN xs k).isSome := by
  have := atKey_raw k xs
  cases h1 : atKey (xs.map rawN) k <;> cases h2 : valN xs k <;> rw [h1, h2] at this <;> simp at this ⊢
theorem put_raw (xs : List NK) (k : NestedKey) (b v : Addr) : (putN xs k b v).map rawN = storedH (xs.map rawN) k b (.ref v) := by
  unfold putN storedH
  rw [isSome_raw]
  by_cases h : (valN xs k).isSome = true
  · rw [if_pos h, if_pos h, List.map_map, List.map_map]
    refine List.map_congr_left fun x _ => ?_
    show rawN (if x.1 = k then (x.1, x.2.1, v) else x) = putAt k (.ref v) (rawN x)
    unfold putAt
    by_cases e : x.1 = k
    · rw [if_pos e, if_pos (show (rawN x).1 = k from e)]; rfl
    · rw [if_neg e, if_neg (show ¬ (rawN x).1 = k from e)]
  · rw [if_neg h, if_neg h, List.map_append]; rfl
theorem putN_length (xs : List NK) (k : NestedKey) (b v : Addr) : (putN xs k b v).length ≤ xs.length + 1 := by
  unfold putN
  split
  · rw [List.length_map]; omega
  · rw [List.length_append]; exact Nat.le_refl _
theorem putN_keys {K : PySem.W.Frag} {H : Hp} {xs : List NK} {k : NestedKey} {b v : Addr} (h : KeysIm K H xs) (hb : Im K H (.ref b) (kD k)) (d : k.depth ≤ 8) : KeysIm K H (putN xs k b v) := by
  intro x hx
  unfold putN at hx
  split at hx
  · obtain ⟨y, hy, rfl⟩ := List.mem_map.mp hx
    split
    · exact h y hy
    · exact h y hy
  · rcases List.mem_append.mp hx with hx | hx
    · exact h x hx
    · rw [List.mem_singleton.mp hx]; exact ⟨hb, d⟩
section
variable {X : Cx} {pins : List (Addr × Obj)} {σ : L2.St} {H : Hp} {s : Shared} {a : Addr} {xs : List NK} {A : Around} {E : Value → Shared → Prop}
theorem dN_of (I : Inv X pins σ H s) (e : H a = some (dN X.prog X.w a xs)) (ks : KeysIm X.K H xs) : xs.length ≤ sizeLine ∧ (a == sysModules) = false ∧ s.heap.DictOfH (nestedKind X.prog X.w) a (xs.map rawN) := by
  obtain ⟨⟨z, hd, o, es, ep, h1, h2, h3, h4, h5⟩, _, _⟩ := (show ObjOk X.prog X.w H s.heap a (dN X.prog X.w a xs) from I.hok a _ e)
  refine ⟨z, hd, o, es, ep, h1, h2, h3, h4, fun y hy => ?_, by rw [List.map_map]; exact h5⟩
  obtain ⟨x, hx, rfl⟩ := List.mem_map.mp hy
  obtain ⟨k1, k2⟩ := ks x hx
  exact ⟨nest_is I x.1 k1 rfl, k2⟩
theorem dN_ok {P : Program} {w : World} {H' : Hp} {h' : Heap} {ys : List NK} (z : ys.length ≤ sizeLine) (hd : (a == sysModules) = false) (d : h'.DictOfH (nestedKind P w) a (ys.map rawN)) : ObjOk P w H' h' a (dN P w a ys) := by
  obtain ⟨o, es, ep, h1, h2, h3, h4, h5, h6⟩ := d
  rw [List.map_map] at h6
  refine ⟨⟨z, hd, o, es, ep, h1, h2, h3, h4, h6⟩, ⟨o, h1⟩, fun g1 g2 q k => ?_⟩
  obtain ⟨z, hd, o, es, ep, h1, h2, h3, h4, h6⟩ := q
  exact ⟨z, hd, o, es, ep, k o h1, h2, h3, h4, h6⟩
end
/-! ### the rules -/
/-- {} for such keys -/
def tDNewN (P : Program) (w : World) : TE := fun _ H Q => ∀ p, H p = none → Q (.ref p) (upd H p (dN P w p []))
def rGetN (P : Program) (w : World) (K : PySem.W.Frag) (H : Hp) (a : Addr) (y : V) (xs : List NK) (k : NestedKey) (b : Addr) : Prop := H a = some (dN P w a xs) ∧ KeysIm K H xs ∧ y = .ref b ∧ Im K H (.ref b) (kD k) ∧ k.depth ≤ 8
/-- d[y] -/
def tNGet (X : Cx) (td ty : TE) : TE := fun σ H Q => td σ H fun x H1 => ty σ H1 fun y H2 => ∃ a xs k b v, x = .ref a ∧ rGetN X.prog X.w X.K H2 a y xs k b ∧ valN xs k = some v ∧ Q (.ref v) H2
/-- d.get(y, z) -/
def tNGet2 (X : Cx) (td ty tx : TE) : TE := fun σ H Q => td σ H fun x H1 => ∃ a xs, x = .ref a ∧ H1 a = some (dN X.prog X.w a xs) ∧ KeysIm X.K H1 xs ∧ ty σ H1 fun y H2 => tx σ H2 fun z H3 => ∃ k b, rGetN X.prog X.w X.K H3 a y xs k b ∧ Q (((valN xs k).map V.ref).getD z) H3
/-- d[y] = v -/
def sNPut (X : Cx) (td ty tv : TE) : TS := fun D σ H => tv σ H fun v H1 => td σ H1 fun x H2 => ty σ H2 fun y H3 => ∃ a xs k b c, x = .ref a ∧ v = .ref c ∧ rGetN X.prog X.w X.K H3 a y xs k b ∧ xs.length < sizeLine ∧ D.nx σ (upd H3 a (dN X.prog X.w a (putN xs k b c)))
section
variable {X : Cx} {o i e f value : Expr} {pos pos' tpos apos cpos : Pos} {td ty tv tx : TE}
theorem pe_dnewN : PE X (.Dict [] [] pos) (tDNewN X.prog X.w) := ⟨fun pins s σ H Q I h =>
  wpAny_Dict_empty ⟨.ref s.heap.objs.size, _, I.laid (a := s.heap.objs.size) (o := dN X.prog X.w s.heap.objs.size []) (t' := s.toks) (fun _ _ q => Heap.get?_push_of_some _ q) (Nat.le_refl _)
    (dN_ok (Nat.zero_le _) (beq_eq_false_iff_ne.mpr (Ne.symm (Nat.ne_of_lt I.big))) (Heap.DictOfH.new s.heap)), rfl, h _ (I.hok.fresh (Nat.le_refl _))⟩⟩
theorem pe_nget (hu : X.A.units + 10 < cLine) (ho : PE X o td) (hi : PE X i ty) (hs : NoSl i) : PE X (.Subscript o i pos) (tNGet X td ty) := by
  refine ⟨fun pins s σ H Q I h => ?_⟩
  refine subD_of PySem.F.slot_dict_getitem.lookup hs (thn (ho.run pins s σ H _ I h) fun u s1 ⟨x, H1, I1, rx, q1⟩ => thn (hi.run pins s1 σ H1 _ I1 q1) fun iv s2 ⟨y, H2, I2, ry, a, xs, k, b, v, ex, g, hv, q2⟩ => ?_)
  subst ex
  obtain rfl : u = Value.ref a := rx
  obtain ⟨e, ks, rfl, ib, dk⟩ := g
  obtain rfl : iv = Value.ref b := ry
  obtain ⟨z, hd, dd⟩ := dN_of I2 e ks
  refine ⟨dd.typeIs, ?_⟩
  have hw := atKey_raw k xs
  rw [hv] at hw
  obtain ⟨p, hp, hp2⟩ := Option.map_eq_some_iff.mp hw
  refine wpAny_getItem_heap (k := k) (by show X.A.in1.units + 8 < cLine; show X.A.units + 1 + 8 < cLine; omega) (show (nestedKind X.prog X.w).is s2.heap k b from ⟨nest_is I2 k ib rfl, dk⟩) dd hp ?_
  rw [hp2]
  exact ⟨.ref v, H2, I2.tok _, rfl, q2⟩
theorem pe_nget2 (hu : X.A.units + 10 < cLine) (ho : PE X o td) (he : PE X e ty) (hf : PE X f tx) (m : M2 X o "get" apos e f cpos) : PE X (.Call (.Attribute o "get" apos) [e, f] [] cpos) (tNGet2 X td ty tx) := by
  refine ⟨fun pins s σ H Q I h => ?_⟩
  refine wpAny_Call_method m.base m.few m.line PySem.F.plainAttrs_dict PySem.F.slot_dict_get PySem.F.type_dict_get (thn (ho.run pins s σ H _ I h) fun u s1 ⟨x, H1, I1, rx, a, xs, ex, e1, k1, q1⟩ => ?_)
  subst ex
  obtain rfl : u = Value.ref a := rx
  obtain ⟨z, hd, dd1⟩ := dN_of I1 e1 k1
  refine ⟨dd1.typeIs, fun b q => ?_, ?_⟩
  · cases q
    obtain ⟨ob, _, _, h1, h2, _⟩ := dd1
    exact ⟨ob, h1, h2.2.1⟩
  · rw [m.trees]
    refine Calls.callWith_builtin rfl (Calls.evalArgs_plain (Calls.spliced_cons (thn (he.run pins s1 σ H1 _ I1 q1) fun iv s2 ⟨y, H2, I2, ry, q2⟩ =>
      Calls.spliced_cons (thn (hf.run pins s2 σ H2 _ I2 q2) fun fv s3 ⟨z, H3, I3, rz, k, b, g, q3⟩ => Calls.spliced_nil ?_))))
    obtain ⟨e3, ks, rfl, ib, dk⟩ := g
    obtain rfl : iv = Value.ref b := ry
    obtain ⟨_, hd, dd⟩ := dN_of I3 e3 ks
    refine call_meetsIn PySem.F.slot_dict_get dd.typeIs PySem.F.entry_dict_get (PySem.F.args_dict_get_3 _ _ _) (meetsH_dict_get_default (nestedKind X.prog X.w) a b hd fv) ⟨by show X.A.units + 1 + 8 < cLine; omega, k, _, ⟨nest_is I3 k ib rfl, dk⟩, dd, _, H3, I3.tok _, ?_, q3⟩
    rw [atKey_raw]
    cases valN xs k with
    | none => exact rz
    | some v => exact rfl
theorem ps_nput (hu : X.A.units + 10 < cLine) (ho : PE X o td) (hi : PE X i ty) (hv : PE X value tv) (hs : swapsWith value (some (.Subscript o i pos')) pos.line X.env = pure false) :
    PS X (.Assign [.Subscript o i pos'] value pos) (sNPut X td ty tv) := by
  refine ⟨fun pins s σ H D I h => ?_⟩
  refine wpAny_Assign_Subscript (thn (hv.run pins s σ H _ I h) fun r s1 ⟨v, H1, I1, rv, q1⟩ => thn (ho.run pins s1 σ H1 _ I1 q1) fun u s2 ⟨x, H2, I2, rx, q2⟩ => thn (hi.run pins s2 σ H2 _ I2 q2) fun iv s3 ⟨y, H3, I3, ry, a, xs, k, b, c, ex, ev, g, hl, q3⟩ => ?_) hs
  subst ex ev
  obtain rfl : u = Value.ref a := rx
  obtain rfl : r = Value.ref c := rv
  obtain ⟨e, ks, rfl, ib, dk⟩ := g
  obtain rfl : iv = Value.ref b := ry
  obtain ⟨z, hd, dd⟩ := dN_of I3 e ks
  refine wpAny_setItem_heap (hsz := by rw [List.length_map]; exact z) (k := k) (by show X.A.units + 1 + 8 < cLine; omega) (show (nestedKind X.prog X.w).is s3.heap k b from ⟨nest_is I3 k ib rfl, dk⟩) dd fun h' dd' hs' => ⟨σ, _, ?_, q3⟩
  rw [← put_raw] at dd'
  have he : ∃ q, h'.get? a = some q := let ⟨q, _, _, hq, _⟩ := dd'; ⟨q, hq⟩
  exact d_write I3 (by rw [e]; exact True.intro) hs' he (dN_ok (by have := putN_length xs k b c; omega) hd dd')
end
/-! ### < of data -/
def rLtD (K : PySem.W.Frag) : R2 := fun x y H Q => ∃ d e, Dp K H x d ∧ Dp K H y e ∧ PySem.W.alike d e = true ∧ d ≠ .none ∧ d.depth ≤ 64 ∧ Q (.bl (PySem.W.dataLt d e)) H
theorem op_ltD {X : Cx} (K : PySem.W.Frag) (hu : X.A.units + 64 < cLine) (eK : X.K = K := by rfl) : OpR X (compareOp .Lt) (rLtD K) := by
  subst eK
  intro pins s σ H x y v u Q I rx ry h
  obtain ⟨d, e, hd, he, al, nn, dp, q⟩ := h
  obtain ⟨as, ra⟩ := Dp.reads I d x v hd rx
  obtain ⟨bs, rb⟩ := Dp.reads I e y u he ry
  exact PySem.W.lt_data ra rb al nn (by omega) ⟨.bl _, H, I, rfl, q⟩
/-! ### sorted of such a dict -/
section
variable {X : Cx} {pins : List (Addr × Obj)} {σ : L2.St} {H : Hp} {s : Shared}
mutual
theorem nest_reads (I : Inv X pins σ H s) : ∀ (k : NestedKey) {v : V} {u : Value}, Im X.K H v (kD k) → RelV v u → Reads s.heap u (kD k) []
  | .none, _, _, h, r => by
    unfold kD at h ⊢
    cases h; cases r; exact .none
  | .num i, _, _, h, r => by
    unfold kD at h ⊢
    cases h; obtain ⟨t, rfl⟩ := r; exact .int _ _
  | .text x, _, _, h, r => by
    unfold kD at h ⊢
    cases h; obtain ⟨t, rfl⟩ := r; exact .str _ _
  | .tup ks, _, _, h, r => by
    unfold kD at h ⊢
    cases h with
    | tup e a =>
      cases r
      obtain ⟨its, rv, ⟨o, ho, hc, n, hd⟩, _⟩ := I.tuple e.sq
      exact .tuple ho hc hd (nest_readsAll I ks a rv)
theorem nest_readsAll (I : Inv X pins σ H s) : ∀ (ks : List NestedKey) {vs : List V} {us : List Value}, ImAll X.K H vs (kDs ks) → Vals vs us → ReadsAll s.heap us (kDs ks) []
  | [], _, _, h, r => by
    unfold kDs at h ⊢
    cases h; cases r; exact .nil
  | k :: ks, _, _, h, r => by
    unfold kDs at h ⊢
    cases h with
    | cons a b =>
      cases r with
      | cons ra rb => exact .cons (as := []) (bs := []) (nest_reads I k a ra) (nest_readsAll I ks b rb)
end
end
theorem each_of {α β : Type} {R : α → β → Prop} : ∀ {as : List α} {bs : List β}, as.length = bs.length → (∀ (i : Nat) (a : α) (b : β), as[i]? = some a → bs[i]? = some b → R a b) → PySem.W.EachIs R as bs
  | [], [], _, _ => .nil
  | a :: as, b :: bs, l, h => .cons (h 0 a b rfl rfl) (each_of (by simpa using l) fun i x y e1 e2 => h (i + 1) x y (by simpa using e1) (by simpa using e2))
  | [], _ :: _, l, _ => by simp at l
  | _ :: _, [], l, _ => by simp at l
theorem each_vals : ∀ {us : List Value} {bs : List NK}, PySem.W.EachIs (fun (v : Value) (b : NK) => v = .ref b.2.1) us bs → Vals (bs.map fun x => V.ref x.2.1) us
  | _, _, .nil => .nil
  | _, _, .cons h r => .cons (by subst h; exact rfl) (each_vals r)
def rSortN (X : Cx) : List V → Hp → VK → Prop := fun vs H Q => ∃ a xs, vs = [.ref a] ∧ H a = some (dN X.prog X.w a xs) ∧ KeysIm X.K H xs ∧ PySem.W.AllAlike (xs.map fun x => kD x.1) ∧ PySem.W.Sortable (xs.map fun x => kD x.1) ∧ (∀ x ∈ xs, (kD x.1).depth ≤ 8) ∧
  ∀ p, H p = none → Q (.ref p) (upd H p (.lst ((xs.mergeSort (PySem.W.dataLe false fun x => kD x.1)).map fun x => V.ref x.2.1)))
theorem call_sortedN {X : Cx} (hcalm : X.calm = true) (hu : X.A.units + 20 < cLine) : CallR X (.builtin "sorted") (rSortN X) := by
  intro pins s σ H vs us Q I r q
  obtain ⟨a, xs, ex, e, ks, al, so, dp, q⟩ := q
  subst ex
  obtain ⟨u, eu, rx⟩ := vals1 r
  subst eu
  cases rx
  obtain ⟨z, lo, dd⟩ := dN_of I e ks
  obtain ⟨es, ep, hr, hsz, he⟩ := dd.raw
  rw [List.length_map] at hsz
  refine Calls.call_function_entry PyProof.Rows.kind_sorted PyProof.Rows.plain_sorted PyProof.Rows.entry_sorted (PyProof.Rows.args_sorted1 _) ?_
  unfold Builtin.«sorted»
  refine wpAny_bind (m := checkCount "sorted" 1 1 _) (wpAny_pure ?_)
  refine wpAny_bind (PySem.W.kdu_collect (A := X.A.in1) (PySem.KdlSrc.rawDict (es := es) (ep := ep) lo) (I.ok.hd hcalm) hr (by rw [hsz]; exact z) fun h' tk acc hk hacc => ?_)
  have hal : acc.toList.length = xs.length := by rw [Array.length_toList, hacc.1, hsz]
  have I1 : Inv X pins σ H { s with heap := h', toks := tk } := I.kept hk
  have E1 : PySem.W.EachIs (fun (v : Value) (b : NK) => v = .ref b.2.1 ∧ b ∈ xs) acc.toList xs := each_of hal fun i v b h1 h2 => by
    rw [Array.getElem?_toList] at h1
    obtain ⟨hi, e1⟩ := hacc.2 i v h1
    obtain ⟨y, hy, h3, _⟩ := he i hi
    rw [List.getElem?_map, h2] at hy
    have : rawN b = y := Option.some.inj hy
    subst this
    exact ⟨e1.trans h3, List.mem_of_getElem? h2⟩
  refine wpAny_bind (wpAny_newList ?_ (by rw [hal]; exact z))
  have hoL : (h'.push (seqObj "list" acc.toList.toArray 0)).get? h'.objs.size = some (seqObj "list" acc.toList.toArray 0) := Heap.get?_push_size _ rfl
  show wpAny _ _ _ _ _ { s with heap := h'.push (seqObj "list" acc.toList.toArray 0), toks := tk }
  have E2 : PySem.W.EachIs (fun (v : Value) (b : NK) => ∃ as, Reads (h'.push (seqObj "list" acc.toList.toArray 0)) v (kD b.1) as ∧ h'.objs.size ∉ as) acc.toList xs := E1.mono fun v b h => by
    obtain ⟨rfl, hb⟩ := h
    exact ⟨[], PyProof.Rows.Reads.keeps (fun c o k => Heap.get?_push_of_some _ k) (nest_reads I1 b.1 (ks b hb).1 rfl), by simp⟩
  refine wpAny_bind (wpAny_holding (PySem.W.list_sort_data (R := fun (v : Value) (b : NK) => v = .ref b.2.1) (enc := fun b => kD b.1) hoL (E1.mono fun _ _ h => h.1) E2 al so z (fun b hb => by have := dp b hb; show X.A.units + 1 + 1 + _ < _; omega) fun out ho eo => ?_))
  obtain ⟨e', he'⟩ := PyProof.Rows.sortedHeap_at (vs := acc.toList) (out := out.toArray) hoL
  have hlen : ((xs.mergeSort (PySem.W.dataLe false fun x => kD x.1)).map fun x => V.ref x.2.1).length ≤ sizeLine := by
    rw [List.length_map, List.length_mergeSort]; exact z
  refine wpAny_pure ⟨_, rfl, .ref h'.objs.size, upd H h'.objs.size (.lst ((xs.mergeSort (PySem.W.dataLe false fun x => kD x.1)).map fun x => V.ref x.2.1)), I1.laid (t' := tk) (fun b u e => ?_) (Nat.le_refl _)
    (show ObjOk X.prog X.w _ _ _ (.lst _) from ⟨hlen, out, e', each_vals eo, he'⟩), rfl, q _ (I1.hok.fresh (Nat.le_refl _))⟩
  have hb : b < h'.objs.size := Heap.lt_size e
  rw [PyProof.Rows.sortedHeap_old (Nat.ne_of_lt hb) (by rw [size_push']; exact Nat.lt_succ_of_lt hb)]
  exact Heap.get?_push_of_some _ e
end Ly

set_option Elab.async false
set_option linter.all false
set_option maxRecDepth 100000
set_option exponentiation.threshold 20000
set_option pp.deepTerms false
set_option pp.deepTerms.threshold 8
namespace K63
open PySem PySem.Spec PyProof.Rows L2 Ly Mt
def topS (i : Nat) : Stmt := PySem.Challenge.pw_sameontrees_k63_joint_forms_side_by_side.main.body.getD i (.Pass ⟨0, 0, 0, 0⟩)
def lows : Str := "abcdefghijklmnopqrstuvwxyz"
def highs : Str := "ABCDEFGHIJKLMNOPQRSTUVWXYZ"
def digs : Str := "0123456789"
/-- what the module's names hold -/
structure Tx (K : PySem.W.Frag) (mg : Str → Option Value) : Prop where
  m_isinstance : mg "isinstance" = none
  m_len : mg "len" = none
  m_int : mg "int" = none
  m_bool : mg "bool" = none
  m_tuple : mg "tuple" = none
  m_str : mg "str" = none
  m_list : mg "list" = none
  m_abs : mg "abs" = none
  m_all : mg "all" = none
  m_zip : mg "zip" = none
  m_range : mg "range" = none
  m_enumerate : mg "enumerate" = none
  m_sum : mg "sum" = none
  m_set : mg "set" = none
  m_sorted : mg "sorted" = none
  m_min : mg "min" = none
  g_gcd : mg "gcd" = some (.builtin "math.gcd")
  g_LONGEST : ∃ u, mg "LONGEST" = some u ∧ L2.RelV (.int 10) u
  g_NUMBER : ∃ u, mg "NUMBER" = some u ∧ L2.RelV (.int (-1)) u
  g_MOST_ROWS : ∃ u, mg "MOST_ROWS" = some u ∧ L2.RelV (.int 96) u
  g_MOST_DIM : ∃ u, mg "MOST_DIM" = some u ∧ L2.RelV (.int 16) u
  g_MOST_DIMS : ∃ u, mg "MOST_DIMS" = some u ∧ L2.RelV (.int 32) u
  g_MOST_TERMS : ∃ u, mg "MOST_TERMS" = some u ∧ L2.RelV (.int 4000) u
  g_MOST_READS : ∃ u, mg "MOST_READS" = some u ∧ L2.RelV (.int 60) u
  g_LOW : ∃ u, mg "LOW" = some u ∧ L2.RelV (.str lows) u
  g_HIGH : ∃ u, mg "HIGH" = some u ∧ L2.RelV (.str highs) u
  g_DIGITS : ∃ u, mg "DIGITS" = some u ∧ L2.RelV (.str digs) u
  zero : ∃ a, mg "ZERO" = some (.ref a) ∧ ∀ H, ITup K H a [.int 0, .int 1]
  one : ∃ a, mg "ONE" = some (.ref a) ∧ ∀ H, ITup K H a [.int 1, .int 1]
  kws : ∃ a, mg "KEYWORDS" = some (.ref a) ∧ ∀ H, ITup K H a [.str "fun", .str "kind", .str "number"]
theorem hu10 {A : Around} {k : Nat} (hr : Room k A) : A.units + 10 < cLine := by have := hr.units; omega
def jInt : PyData → Bool
  | .int _ => true
  | _ => false
theorem jInt_as : ∀ d, jInt d = (jIntB d && !jBool d)
  | .none => rfl
  | .bool _ => rfl
  | .int _ => rfl
  | .str _ => rfl
  | .tuple _ => rfl
  | .list _ => rfl
  | .dict _ => rfl
def jPair : PyData → Bool
  | .tuple ds => decide (ds.length = 2)
  | _ => false
def jRatio : PyData → Bool
  | .tuple [.int t, .int b] => decide (1 ≤ b) && decide (Nat.gcd t.natAbs b.natAbs = 1)
  | _ => false
section
variable {P : Program} {w : World} {K : PySem.W.Frag} {mg : Str → Option Value} {base : Heap}

abbrev s_is_int : Stmt := topS 12
theorem sc_is_int : FnScope ["thing"] ["thing"] (defScope s_is_int) := ⟨rfl, rfl, rfl, by decide +kernel, rfl, by decide +kernel, by decide +kernel⟩
def sp_is_int (K : PySem.W.Frag) : Sp := fun vs H Q _ => ∃ v d, vs = [v] ∧ Dp K H v d ∧ Q (.bl (jInt d)) H
theorem ok_is_int {f : Addr} {fd : FuncData} {k : Nat} (F : Fun K "is_int" "is_int" s_is_int f fd) (T : Tx K mg) : FnOk P w K mg base CX0 (k + 1) f fd ["thing"] (sp_is_int K) := by
  have nd := sc_is_int.nd
  refine F.ok sc_is_int (fun vs H Q E h => ?_) (fun cdv A outer s H vs Q E hr h => ?_)
  · obtain ⟨_, _, rfl, _⟩ := h
    rfl
  · obtain ⟨v, d, rfl, hd, q⟩ := h
    refine ⟨_, (pss_one (ps_ret (pe_and (pe_callB (kcall_isi K) (by rfl) T.m_isinstance (by decide +kernel) (pa_cons (pv 0) (pa_cons (pe_bltn (v := .ty "int") (u := .type "int") (by rfl) T.m_int (by decide +kernel) rfl) pa_nil))) (pe_one (pe_not (pe_callB (kcall_isi K) (by rfl) T.m_isinstance (by decide +kernel) (pa_cons (pv 0) (pa_cons (pe_bltn (v := .ty "bool") (u := .type "bool") (by rfl) T.m_bool (by decide +kernel) rfl) pa_nil)))))))), ?_⟩
    refine ⟨v, rfl, v, _, .type (tyName d), _, jIntB d, rfl, .ty _, dp_ty hd, kit_ty (kit_int d), jIntB d, rfl, ?_⟩
    rw [jInt_as] at q
    cases h1 : jIntB d with
    | false => rw [h1] at q; exact iteF q
    | true =>
      rw [h1] at q
      exact iteT ⟨v, rfl, v, _, .type (tyName d), _, jBool d, rfl, .ty _, dp_ty hd, kit_ty (kit_bool d), jBool d, rfl, q⟩

abbrev s_is_pair : Stmt := topS 14
theorem sc_is_pair : FnScope ["thing"] ["thing"] (defScope s_is_pair) := ⟨rfl, rfl, rfl, by decide +kernel, rfl, by decide +kernel, by decide +kernel⟩
def sp_is_pair (K : PySem.W.Frag) : Sp := fun vs H Q _ => ∃ v d, vs = [v] ∧ Dp K H v d ∧ Q (.bl (jPair d)) H
theorem ok_is_pair {f : Addr} {fd : FuncData} {k : Nat} (F : Fun K "is_pair" "is_pair" s_is_pair f fd) (T : Tx K mg) : FnOk P w K mg base CX0 (k + 1) f fd ["thing"] (sp_is_pair K) := by
  have nd := sc_is_pair.nd
  refine F.ok sc_is_pair (fun vs H Q E h => ?_) (fun cdv A outer s H vs Q E hr h => ?_)
  · obtain ⟨_, _, rfl, _⟩ := h
    rfl
  · obtain ⟨v, d, rfl, hd, q⟩ := h
    refine ⟨_, (pss_one (ps_ret (pe_and (pe_callB (kcall_isi K) (by rfl) T.m_isinstance (by decide +kernel) (pa_cons (pv 0) (pa_cons (pe_bltn (v := .ty "tuple") (u := .type "tuple") (by rfl) T.m_tuple (by decide +kernel) rfl) pa_nil))) (pe_one (pe_cmpR op_eq (pe_callB (kcall_len K) (by rfl) T.m_len PySem.boot_len (pa_cons (pv 0) pa_nil)) pe_int (nomark _)))))), ?_⟩
    refine ⟨v, rfl, v, _, .type (tyName d), _, jTup d, rfl, .ty _, dp_ty hd, kit_ty (kit_tup d), jTup d, rfl, ?_⟩
    cases hd with
    | @tup a xs ds ha hx =>
      have l := dpAll_len hx
      refine iteT ⟨.ref a, rfl, a, xs, rfl, .inr ha, rfl, ?_⟩
      have e : decide (V.int (xs.length : Nat) = V.int 2) = jPair (.tuple ds) := by
        show _ = decide (ds.length = 2)
        by_cases h : ds.length = 2
        · rw [decide_eq_true h, decide_eq_true (by rw [l, h]; rfl)]
        · rw [decide_eq_false h, decide_eq_false (fun z => h (by have := V.int.inj z; omega))]
      rw [e]
      exact q
    | non => exact iteF q
    | bl b => exact iteF q
    | int i => exact iteF q
    | str x => exact iteF q
    | lst _ _ => exact iteF q

abbrev s_is_ratio : Stmt := topS 23
theorem sc_is_ratio : FnScope ["thing"] ["thing"] (defScope s_is_ratio) := ⟨rfl, rfl, rfl, by decide +kernel, rfl, by decide +kernel, by decide +kernel⟩
def sp_is_ratio (K : PySem.W.Frag) : Sp := fun vs H Q _ => ∃ v d, vs = [v] ∧ Dp K H v d ∧ Q (.bl (jRatio d)) H
theorem ok_is_ratio {f : Addr} {fd : FuncData} {k : Nat} (F : Fun K "is_ratio" "is_ratio" s_is_ratio f fd) (T : Tx K mg){ki : Nat} (D_is_pair : Def P w K mg base ki "is_pair" s_is_pair ["thing"] (sp_is_pair K)) (D_is_int : Def P w K mg base ki "is_int" s_is_int ["thing"] (sp_is_int K)) (hk : ki ≤ k) : FnOk P w K mg base CX0 (k + 1) f fd ["thing"] (sp_is_ratio K) := by
  have nd := sc_is_ratio.nd
  refine F.ok sc_is_ratio (fun vs H Q E h => ?_) (fun cdv A outer s H vs Q E hr h => ?_)
  · obtain ⟨_, _, rfl, _⟩ := h
    rfl
  · obtain ⟨v, d, rfl, hd, q⟩ := h
    refine ⟨_, (pss_cons (ps_if (PW.pt (pw_or (pt_not (pt_val (pe_def D_is_pair (hr.mono (by omega)) rfl (pa_cons (pv 0) pa_nil)))) (pw_or (pt_not (pt_val (pe_def D_is_int (hr.mono (by omega)) rfl (pa_cons (pe_ix (kix_tup K) (pv 0) pe_int (fun _ _ => rfl)) pa_nil)))) (pw_or (pt_not (pt_val (pe_def D_is_int (hr.mono (by omega)) rfl (pa_cons (pe_ix (kix_tup K) (pv 0) pe_int (fun _ _ => rfl)) pa_nil)))) (pw_or1 (pt_cmpR op_lt (pe_ix (kix_tup K) (pv 0) pe_int (fun _ _ => rfl)) pe_int (nomark _)))))))
        (pss_one (ps_ret pe_bl))
        pss_nil)
      (pss_one (ps_ret (pe_cmpR op_eq (pe_callBfun cr_gcd (by rfl) T.g_gcd (pa_cons (pe_ix (kix_tup K) (pv 0) pe_int (fun _ _ => rfl)) (pa_cons (pe_ix (kix_tup K) (pv 0) pe_int (fun _ _ => rfl)) pa_nil))) pe_int (nomark _))))), ?_⟩
    refine ⟨v, rfl, v, d, rfl, hd, jPair d, rfl, ?_⟩
    cases hp : jPair d with
    | false =>
      have e : jRatio d = false := by
        cases d with
        | tuple ds =>
          have h2 : ¬ ds.length = 2 := of_decide_eq_false hp
          match ds, h2 with
          | [], _ => rfl
          | [x], _ => cases x <;> rfl
          | [_, _], h => exact absurd rfl h
          | x :: y :: _ :: _, _ => cases x <;> first | rfl | (cases y <;> rfl)
        | _ => rfl
      rw [e] at q
      exact iteT q
    | true =>
      refine iteF ?_
      cases hd with
      | @tup a xs ds ha hx =>
        have h2 : ds.length = 2 := of_decide_eq_true hp
        obtain ⟨d0, d1, rfl⟩ : ∃ d0 d1, ds = [d0, d1] := by
          match ds, h2 with
          | [x, y], _ => exact ⟨x, y, rfl⟩
        cases hx with
        | @cons v0 vs0 _ _ i0 r0 =>
          cases r0 with
          | @cons v1 vs1 _ _ i1 r1 =>
            cases r1
            refine ⟨.ref a, rfl, a, _, 0, _, rfl, rfl, ha, atI_nat (j := 0) rfl, v0, d0, rfl, i0, jInt d0, rfl, ?_⟩
            cases i0 with
            | int t =>
              refine iteF ⟨.ref a, rfl, a, _, 1, _, rfl, rfl, ha, atI_nat (j := 1) rfl, v1, d1, rfl, i1, jInt d1, rfl, ?_⟩
              cases i1 with
              | int b =>
                refine iteF ⟨.ref a, rfl, a, _, 1, _, rfl, rfl, ha, atI_nat (j := 1) rfl, _, _, rfl, rfl, _, rfl, ?_⟩
                have ej : jRatio (.tuple [.int t, .int b]) = (decide (1 ≤ b) && decide (Nat.gcd t.natAbs b.natAbs = 1)) := rfl
                rw [ej] at q
                by_cases hb : b < 1
                · rw [decide_eq_true hb]
                  rw [decide_eq_false (show ¬ 1 ≤ b by omega)] at q
                  exact iteT q
                · rw [decide_eq_false hb]
                  rw [decide_eq_true (show 1 ≤ b by omega)] at q
                  refine iteF ⟨.ref a, rfl, a, _, 0, _, rfl, rfl, ha, atI_nat (j := 0) rfl, .ref a, rfl, a, _, 1, _, rfl, rfl, ha, atI_nat (j := 1) rfl, _, _, rfl, rfl, ?_⟩
                  have e2 : decide (V.int ((Nat.gcd t.natAbs b.natAbs : Nat) : Int) = V.int 1) = decide (Nat.gcd t.natAbs b.natAbs = 1) := by
                    by_cases h : Nat.gcd t.natAbs b.natAbs = 1
                    · rw [decide_eq_true h, decide_eq_true (by rw [h]; rfl)]
                    · rw [decide_eq_false h, decide_eq_false (fun z => h (by have := V.int.inj z; omega))]
                  rw [e2]
                  exact q
              | non => exact iteT q
              | bl b => exact iteT q
              | str x => exact iteT q
              | lst _ _ => exact iteT q
              | tup _ _ => exact iteT q
            | non => exact iteT q
            | bl b => exact iteT q
            | str x => exact iteT q
            | lst _ _ => exact iteT q
            | tup _ _ => exact iteT q
      | non => cases hp
      | bl b => cases hp
      | int i => cases hp
      | str x => cases hp
      | lst _ _ => cases hp
abbrev s_within : Stmt := topS 13
theorem sc_within : FnScope ["thing", "low", "high"] ["thing", "low", "high"] (defScope s_within) := ⟨rfl, rfl, rfl, by decide +kernel, rfl, by decide +kernel, by decide +kernel⟩
def sp_within (K : PySem.W.Frag) : Sp := fun vs H Q _ => ∃ i lo hi, vs = [.int i, .int lo, .int hi] ∧ lo ≤ i ∧ i ≤ hi ∧ Q (.bl true) H
theorem ok_within {f : Addr} {fd : FuncData} {k : Nat} (F : Fun K "within" "within" s_within f fd) (T : Tx K mg){ki : Nat} (D_is_int : Def P w K mg base ki "is_int" s_is_int ["thing"] (sp_is_int K)) (hk : ki ≤ k) : FnOk P w K mg base CX0 (k + 1) f fd ["thing", "low", "high"] (sp_within K) := by
  have nd := sc_within.nd
  refine F.ok sc_within (fun vs H Q E h => ?_) (fun cdv A outer s H vs Q E hr h => ?_)
  · obtain ⟨_, _, _, rfl, _⟩ := h
    rfl
  · obtain ⟨i, lo, hi, rfl, h1, h2, q⟩ := h
    refine ⟨_, (pss_one (ps_ret (pe_and (pe_def D_is_int (hr.mono (by omega)) rfl (pa_cons (pv 0) pa_nil)) (pe_one (pe_chain op_le op_le (pv 1) (pv 0) (pv 2)))))), ?_⟩
    refine ⟨.int i, rfl, .int i, .int i, rfl, .int i, true, rfl, iteT ?_⟩
    refine ⟨.int lo, rfl, .int i, rfl, _, _, rfl, rfl, _, rfl, ?_⟩
    rw [decide_eq_true h1]
    refine iteT ⟨.int hi, rfl, _, _, rfl, rfl, ?_⟩
    dsimp only
    rw [decide_eq_true h2]
    exact q

abbrev s_is_row : Stmt := topS 15
theorem sc_is_row : FnScope ["thing", "low", "high"] ["thing", "low", "high"] (defScope s_is_row) := ⟨rfl, rfl, rfl, by decide +kernel, rfl, by decide +kernel, by decide +kernel⟩
def sp_is_row (K : PySem.W.Frag) : Sp := fun vs H Q _ => ∃ a xs lo hi, vs = [.ref a, .int lo, .int hi] ∧ ITup K H a xs ∧ lo ≤ (xs.length : Int) ∧ (xs.length : Int) ≤ hi ∧ Q (.bl true) H
theorem ok_is_row {f : Addr} {fd : FuncData} {k : Nat} (F : Fun K "is_row" "is_row" s_is_row f fd) (T : Tx K mg) : FnOk P w K mg base CX0 (k + 1) f fd ["thing", "low", "high"] (sp_is_row K) := by
  have nd := sc_is_row.nd
  refine F.ok sc_is_row (fun vs H Q E h => ?_) (fun cdv A outer s H vs Q E hr h => ?_)
  · obtain ⟨_, _, _, _, rfl, _⟩ := h
    rfl
  · obtain ⟨a, xs, lo, hi, rfl, ha, h1, h2, q⟩ := h
    refine ⟨_, (pss_one (ps_ret (pe_and (pe_callB (kcall_isi K) (by rfl) T.m_isinstance (by decide +kernel) (pa_cons (pv 0) (pa_cons (pe_bltn (v := .ty "tuple") (u := .type "tuple") (by rfl) T.m_tuple (by decide +kernel) rfl) pa_nil))) (pe_one (pe_chain op_le op_le (pv 1) (pe_callB (kcall_len K) (by rfl) T.m_len PySem.boot_len (pa_cons (pv 0) pa_nil)) (pv 2)))))), ?_⟩
    refine ⟨.ref a, rfl, .ref a, _, .type "tuple", _, true, rfl, .ty _, ity ha, kit_ty (by decide +kernel), true, rfl, iteT ?_⟩
    refine ⟨.int lo, rfl, .ref a, rfl, a, xs, rfl, .inr ha.sq, _, _, rfl, rfl, _, rfl, ?_⟩
    rw [decide_eq_true h1]
    refine iteT ⟨.int hi, rfl, _, _, rfl, rfl, ?_⟩
    dsimp only
    rw [decide_eq_true h2]
    exact q

/-- a name, by its signs -/
def lowC (c : Nat) : Bool := decide (c ∈ lows.cps.toList)
def highC (c : Nat) : Bool := decide (c ∈ highs.cps.toList)
def digC (c : Nat) : Bool := decide (c ∈ digs.cps.toList)
structure NameOk (z : Str) : Prop where
  len : 1 ≤ z.length ∧ z.length ≤ 10
  kw : z ≠ "fun" ∧ z ≠ "kind" ∧ z ≠ "number"
  head : ∃ c, z.cps[0]? = some c ∧ digC c = false
  signs : ∀ c ∈ z.cps.toList, (lowC c || highC c || digC c) = true
abbrev s_is_name : Stmt := topS 16
theorem sc_is_name : FnScope ["thing", "sign"] ["thing"] (defScope s_is_name) := ⟨rfl, rfl, rfl, by decide +kernel, rfl, by decide +kernel, by decide +kernel⟩
def sp_is_name : Sp := fun vs H Q _ => ∃ z, vs = [.str z] ∧ NameOk z ∧ ∀ H', Same H H' → Q (.bl true) H'
theorem ok_is_name {f : Addr} {fd : FuncData} {k : Nat} (F : Fun K "is_name" "is_name" s_is_name f fd) (T : Tx K mg) : FnOk P w K mg base CX0 (k + 1) f fd ["thing"] sp_is_name := by
  have nd := sc_is_name.nd
  obtain ⟨akw, g_KEYWORDS0, ikw⟩ := T.kws
  have g_KEYWORDS : ∃ u, mg "KEYWORDS" = some u ∧ L2.RelV (.ref akw) u := ⟨_, g_KEYWORDS0, rfl⟩
  refine F.ok sc_is_name (fun vs H Q E h => ?_) (fun cdv A outer s H vs Q E hr h => ?_)
  · obtain ⟨_, rfl, _⟩ := h
    rfl
  · obtain ⟨z, rfl, ok, q⟩ := h
    obtain ⟨c0, h0, d0⟩ := ok.head
    have l1 := ok.len
    refine ⟨_, (pss_cons (ps_if (PW.pt (pw_or (pt_not (pt_val (pe_callB (kcall_isi K) (by rfl) T.m_isinstance (by decide +kernel) (pa_cons (pv 0) (pa_cons (pe_bltn (v := .ty "str") (u := .type "str") (by rfl) T.m_str (by decide +kernel) rfl) pa_nil))))) (pw_or1 (pt_not (pt_chain op_le op_le pe_int (pe_callB call_len_str (by rfl) T.m_len PySem.boot_len (pa_cons (pv 0) pa_nil)) (pe_gv rfl T.g_LONGEST))))))
        (pss_one (ps_ret pe_bl))
        pss_nil)
      (pss_cons (ps_if (PW.pt (pw_or (pt_cmpR op_in_seq (pv 0) (pe_gv rfl g_KEYWORDS) (by rfl)) (pw_or1 (pt_cmpR op_in_sign (pe_ix ix_str (pv 0) pe_int (fun _ _ => rfl)) (pe_gv rfl T.g_DIGITS) (by rfl)))))
        (pss_one (ps_ret pe_bl))
        pss_nil)
      (pss_one (ps_ret (pe_callB (kcr_all K) (by rfl) T.m_all (by decide +kernel) (pa_cons (pe_lc (own := [("sign", 1)]) (g := gName 1) (tt := tYes) rfl nd (pi_str (pv 0)) (blkOk_by (by rfl)) (fun _ _ _ _ _ => (pg_name (i := 1) nd rfl (.inl rfl))) (fun _ _ _ _ _ => pts_nil) (fun _ _ _ _ _ => (pe_or (pe_cmpR op_in_sign (pv 1) (pe_gv rfl T.g_LOW) (by rfl)) (pe_or (pe_cmpR op_in_sign (pv 1) (pe_gv rfl T.g_HIGH) (by rfl)) (pe_one (pe_cmpR op_in_sign (pv 1) (pe_gv rfl T.g_DIGITS) (by rfl))))))) pa_nil)))))), ?_⟩
    refine ⟨.str z, rfl, .str z, _, .type "str", _, true, rfl, .ty _, .base (.str z), kit_ty (by decide +kernel), true, rfl, iteF ?_⟩
    refine ⟨.str z, rfl, z, rfl, Nat.le_of_lt (small1000 (by omega)), _, _, rfl, rfl, _, rfl, ?_⟩
    rw [decide_eq_true (show (1 : Int) ≤ (z.length : Int) by omega)]
    refine iteT ⟨_, _, rfl, rfl, _, rfl, ?_⟩
    rw [decide_eq_true (show (z.length : Int) ≤ 10 by omega)]
    refine iteF ⟨.str z, rfl, akw, [.str "fun", .str "kind", .str "number"], rfl, .inr (ikw H).sq, rfl, rfl, _, rfl, ?_⟩
    have hk : inV (V.str z) [.str "fun", .str "kind", .str "number"] = false := by
      have e : ∀ x y : Str, eqV (V.str x) (V.str y) = decide (x = y) := fun x y => by
        by_cases h : x = y
        · subst h; simp [eqV]
        · simp [eqV, h]
      show (eqV (V.str "fun") (V.str z) || (eqV (V.str "kind") (V.str z) || (eqV (V.str "number") (V.str z) || false))) = false
      rw [e, e, e, decide_eq_false (fun h => ok.kw.1 h.symm), decide_eq_false (fun h => ok.kw.2.1 h.symm), decide_eq_false (fun h => ok.kw.2.2 h.symm)]
      rfl
    rw [hk]
    refine iteF ⟨.str z, rfl, z, 0, c0, rfl, rfl, Nat.le_of_lt (small1000 (by omega)), atI_nat (j := 0) (by rw [Array.getElem?_toList]; exact h0), c0, digs, rfl, rfl, _, rfl, ?_⟩
    rw [show decide (c0 ∈ digs.cps.toList) = false from d0]
    refine iteF ⟨.str z, rfl, z, rfl, fun D2 hD => ?_⟩
    refine lc_all (walk_str (z := z)) (fun i H2 => Same H H2 ∧ H2 D2 = some (.lst ((List.replicate i true).map V.bl))) ⟨same_new hD, upd_same⟩ (fun _ _ _ _ => trivial) (fun i x H2 H3 hi zz y => ?_) (fun H2 zz => ?_)
    · obtain ⟨sm, eD⟩ := zz
      obtain ⟨rfl, c, hc, rfl⟩ := y
      have hs := ok.signs c (List.mem_of_getElem? (i := i) (by rw [Array.getElem?_toList]; exact hc))
      have fin : ∃ acc, H3 D2 = some (.lst acc) ∧ acc.length < sizeLine ∧ Same H (upd H3 D2 (.lst (acc ++ [V.bl true]))) ∧ (upd H3 D2 (.lst (acc ++ [V.bl true]))) D2 = some (.lst ((List.replicate (i + 1) true).map V.bl)) := by
        refine ⟨_, eD, ?_, fun b o e => ?_, ?_⟩
        · rw [List.length_map, List.length_replicate]; exact small1000 (by have h2 : z.length = z.cps.size := rfl; omega)
        · rw [upd_ne (ne_of_none e hD)]; exact sm _ _ e
        · rw [upd_same, List.replicate_succ', List.map_append]; rfl
      refine ⟨rfl, .str ⟨#[c]⟩, rfl, c, lows, rfl, rfl, _, rfl, ?_⟩
      by_cases h1 : lowC c = true
      · rw [show decide (c ∈ lows.cps.toList) = true from h1]
        exact iteT fin
      · rw [show decide (c ∈ lows.cps.toList) = false from Bool.eq_false_iff.mpr h1]
        refine iteF ⟨.str ⟨#[c]⟩, rfl, c, highs, rfl, rfl, _, rfl, ?_⟩
        by_cases h2 : highC c = true
        · rw [show decide (c ∈ highs.cps.toList) = true from h2]
          exact iteT fin
        · rw [show decide (c ∈ highs.cps.toList) = false from Bool.eq_false_iff.mpr h2]
          refine iteF ⟨.str ⟨#[c]⟩, rfl, c, digs, rfl, rfl, ?_⟩
          have h3 : digC c = true := by
            rw [show lowC c = false from by simpa using h1, show highC c = false from by simpa using h2] at hs
            simpa using hs
          rw [show decide (c ∈ digs.cps.toList) = true from h3]
          exact fin
    · refine ⟨D2, List.replicate z.cps.size true, rfl, .of zz.2, ?_⟩
      have e : (List.replicate z.cps.size true).all id = true := by simp
      rw [e]
      exact q _ zz.1
abbrev s_is_low : Stmt := topS 17
theorem sc_is_low : FnScope ["thing"] ["thing"] (defScope s_is_low) := ⟨rfl, rfl, rfl, by decide +kernel, rfl, by decide +kernel, by decide +kernel⟩
def sp_is_low : Sp := fun vs H Q _ => ∃ z, vs = [.str z] ∧ NameOk z ∧ (∃ c, z.cps[0]? = some c ∧ lowC c = true) ∧ ∀ H', Same H H' → Q (.bl true) H'
theorem ok_is_low {f : Addr} {fd : FuncData} {k : Nat} (F : Fun K "is_low" "is_low" s_is_low f fd) (T : Tx K mg){ki : Nat} (D_is_name : Def P w K mg base ki "is_name" s_is_name ["thing"] sp_is_name) (hk : ki ≤ k) : FnOk P w K mg base CX0 (k + 1) f fd ["thing"] sp_is_low := by
  have nd := sc_is_low.nd
  refine F.ok sc_is_low (fun vs H Q E h => ?_) (fun cdv A outer s H vs Q E hr h => ?_)
  · obtain ⟨_, rfl, _⟩ := h
    rfl
  · obtain ⟨z, rfl, ok, ⟨c0, h0, hl⟩, q⟩ := h
    have l1 := ok.len
    refine ⟨_, (pss_one (ps_ret (pe_and (pe_def D_is_name (hr.mono (by omega)) rfl (pa_cons (pv 0) pa_nil)) (pe_one (pe_cmpR op_in_sign (pe_ix ix_str (pv 0) pe_int (fun _ _ => rfl)) (pe_gv rfl T.g_LOW) (by rfl)))))), ?_⟩
    refine ⟨.str z, rfl, z, rfl, ok, fun H' sm => ⟨true, rfl, iteT ⟨.str z, rfl, z, 0, c0, rfl, rfl, Nat.le_of_lt (small1000 (by omega)), atI_nat (j := 0) (by rw [Array.getElem?_toList]; exact h0), c0, lows, rfl, rfl, ?_⟩⟩⟩
    rw [show decide (c0 ∈ lows.cps.toList) = true from hl]
    exact q H' sm
abbrev s_is_high : Stmt := topS 18
theorem sc_is_high : FnScope ["thing"] ["thing"] (defScope s_is_high) := ⟨rfl, rfl, rfl, by decide +kernel, rfl, by decide +kernel, by decide +kernel⟩
def sp_is_high : Sp := fun vs H Q _ => ∃ z, vs = [.str z] ∧ NameOk z ∧ (∃ c, z.cps[0]? = some c ∧ highC c = true) ∧ ∀ H', Same H H' → Q (.bl true) H'
theorem ok_is_high {f : Addr} {fd : FuncData} {k : Nat} (F : Fun K "is_high" "is_high" s_is_high f fd) (T : Tx K mg){ki : Nat} (D_is_name : Def P w K mg base ki "is_name" s_is_name ["thing"] sp_is_name) (hk : ki ≤ k) : FnOk P w K mg base CX0 (k + 1) f fd ["thing"] sp_is_high := by
  have nd := sc_is_high.nd
  refine F.ok sc_is_high (fun vs H Q E h => ?_) (fun cdv A outer s H vs Q E hr h => ?_)
  · obtain ⟨_, rfl, _⟩ := h
    rfl
  · obtain ⟨z, rfl, ok, ⟨c0, h0, hl⟩, q⟩ := h
    have l1 := ok.len
    refine ⟨_, (pss_one (ps_ret (pe_and (pe_def D_is_name (hr.mono (by omega)) rfl (pa_cons (pv 0) pa_nil)) (pe_one (pe_cmpR op_in_sign (pe_ix ix_str (pv 0) pe_int (fun _ _ => rfl)) (pe_gv rfl T.g_HIGH) (by rfl)))))), ?_⟩
    refine ⟨.str z, rfl, z, rfl, ok, fun H' sm => ⟨true, rfl, iteT ⟨.str z, rfl, z, 0, c0, rfl, rfl, Nat.le_of_lt (small1000 (by omega)), atI_nat (j := 0) (by rw [Array.getElem?_toList]; exact h0), c0, highs, rfl, rfl, ?_⟩⟩⟩
    rw [show decide (c0 ∈ highs.cps.toList) = true from hl]
    exact q H' sm

abbrev s_all_unlike : Stmt := topS 19
theorem sc_all_unlike : FnScope ["names"] ["names"] (defScope s_all_unlike) := ⟨rfl, rfl, rfl, by decide +kernel, rfl, by decide +kernel, by decide +kernel⟩
def sp_unlike (K : PySem.W.Frag) : Sp := fun vs H Q _ => ∃ (a : Addr) (ys : List Str), vs = [.ref a] ∧ H a = some (.lst (ys.map V.str)) ∧ ys.Nodup ∧ ys.length ≤ 1000 ∧ Q (.bl true) H
theorem ok_all_unlike {f : Addr} {fd : FuncData} {k : Nat} (F : Fun K "all_unlike" "all_unlike" s_all_unlike f fd) (T : Tx K mg) : FnOk P w K mg base CX0 (k + 1) f fd ["names"] (sp_unlike K) := by
  have nd := sc_all_unlike.nd
  refine F.ok sc_all_unlike (fun vs H Q E h => ?_) (fun cdv A outer s H vs Q E hr h => ?_)
  · obtain ⟨_, _, rfl, _⟩ := h
    rfl
  · obtain ⟨a, ys, rfl, ea, ndy, few, q⟩ := h
    refine ⟨_, (pss_one (ps_ret (pe_cmpR op_eq (pe_lenSetT K (by rfl) T.m_len (by rfl) T.m_set (pv 0)) (pe_callB (kcall_len K) (by rfl) T.m_len PySem.boot_len (pa_cons (pv 0) pa_nil)) (nomark _)))), ?_⟩
    refine ⟨.ref a, rfl, a, ys, rfl, .of ea, ndy, few, .ref a, rfl, a, _, rfl, .inl (.of ea), rfl, ?_⟩
    rw [List.length_map, decide_eq_true rfl]
    exact q
end
end K63

set_option Elab.async false
set_option linter.all false
set_option maxRecDepth 100000
set_option exponentiation.threshold 20000
set_option pp.deepTerms false
set_option pp.deepTerms.threshold 8
namespace K63
open PySem PySem.Spec PyProof.Rows L2 Ly Mt
/-! ### kinds as data -/
abbrev Mk := Str × List Str
abbrev Kd := Str × List Mk
def sD (xs : List Str) : PyData := .tuple (xs.map .str)
def mkD (m : Mk) : PyData := .tuple [.str m.1, sD m.2]
def kdD (k : Kd) : PyData := .tuple [.str k.1, .tuple (k.2.map mkD)]
def ksD (ks : List Kd) : PyData := .tuple (ks.map kdD)
def High (z : Str) : Prop := NameOk z ∧ ∃ c, z.cps[0]? = some c ∧ highC c = true
def allMk (ks : List Kd) : List Mk := ks.flatMap (·.2)
structure KindsOk (ks : List Kd) : Prop where
  few : 1 ≤ ks.length ∧ ks.length ≤ 6
  nm : ∀ k ∈ ks, High k.1
  mks : ∀ k ∈ ks, 1 ≤ k.2.length ∧ k.2.length ≤ 6
  mkk : ∀ k ∈ ks, ∀ m ∈ k.2, High m.1 ∧ m.2.length ≤ 4
  nd : (ks.map (·.1)).Nodup
  ndm : ((allMk ks).map (·.1)).Nodup
  flds : ∀ k ∈ ks, ∀ m ∈ k.2, ∀ f ∈ m.2, f = "number" ∨ f ∈ ks.map (·.1)
theorem im_pair {K : PySem.W.Frag} {H : Hp} {v : V} {d e : PyData} (h : Im K H v (.tuple [d, e])) : ∃ a x y, v = .ref a ∧ ITup K H a [x, y] ∧ Im K H x d ∧ Im K H y e := by
  obtain ⟨a, xs, rfl, ha, hx⟩ := h.tuple_inv
  obtain ⟨x, r, rfl, i1, hr⟩ := hx.cons_inv
  obtain ⟨y, r, rfl, i2, hr⟩ := hr.cons_inv
  obtain rfl := hr.nil_inv
  exact ⟨a, x, y, rfl, ha, i1, i2⟩
theorem im_trip {K : PySem.W.Frag} {H : Hp} {v : V} {d e f : PyData} (h : Im K H v (.tuple [d, e, f])) : ∃ a x y z, v = .ref a ∧ ITup K H a [x, y, z] ∧ Im K H x d ∧ Im K H y e ∧ Im K H z f := by
  obtain ⟨a, xs, rfl, ha, hx⟩ := h.tuple_inv
  obtain ⟨x, r, rfl, i1, hr⟩ := hx.cons_inv
  obtain ⟨y, r, rfl, i2, hr⟩ := hr.cons_inv
  obtain ⟨z, r, rfl, i3, hr⟩ := hr.cons_inv
  obtain rfl := hr.nil_inv
  exact ⟨a, x, y, z, rfl, ha, i1, i2, i3⟩
theorem im_quad {K : PySem.W.Frag} {H : Hp} {v : V} {d e f g : PyData} (h : Im K H v (.tuple [d, e, f, g])) : ∃ a x y z w, v = .ref a ∧ ITup K H a [x, y, z, w] ∧ Im K H x d ∧ Im K H y e ∧ Im K H z f ∧ Im K H w g := by
  obtain ⟨a, xs, rfl, ha, hx⟩ := h.tuple_inv
  obtain ⟨x, r, rfl, i1, hr⟩ := hx.cons_inv
  obtain ⟨y, r, rfl, i2, hr⟩ := hr.cons_inv
  obtain ⟨z, r, rfl, i3, hr⟩ := hr.cons_inv
  obtain ⟨w, r, rfl, i4, hr⟩ := hr.cons_inv
  obtain rfl := hr.nil_inv
  exact ⟨a, x, y, z, w, rfl, ha, i1, i2, i3, i4⟩
theorem im_strs {K : PySem.W.Frag} {H : Hp} : ∀ {xs : List V} {ys : List Str}, ImAll K H xs (ys.map .str) → xs = ys.map V.str
  | _, [], h => by obtain rfl := h.nil_inv; rfl
  | _, y :: ys, h => by
    obtain ⟨x, r, rfl, i1, hr⟩ := h.cons_inv
    rw [i1.str_inv, im_strs hr]; rfl
theorem strs_im {K : PySem.W.Frag} {H : Hp} : ∀ (ys : List Str), ImAll K H (ys.map V.str) (ys.map .str)
  | [] => .nil
  | y :: ys => .cons (.str y) (strs_im ys)
theorem eqs (x y : Str) : eqV (V.str x) (V.str y) = decide (x = y) := by
  by_cases h : x = y
  · subst h; simp [eqV]
  · simp [eqV, h]
theorem inV_strs (z : Str) : ∀ ys : List Str, inV (V.str z) (ys.map V.str) = decide (z ∈ ys)
  | [] => rfl
  | y :: ys => by
    have ih := inV_strs z ys
    unfold inV at ih ⊢
    rw [List.map_cons, List.any_cons, ih, eqs]
    by_cases h : y = z
    · subst h; simp
    · have h2 : ¬ z = y := fun e => h e.symm
      simp [h, h2]
theorem flat_strs' : ∀ ys : List Str, (ys.map V.str).all flatV = true
  | [] => rfl
  | y :: ys => by rw [List.map_cons, List.all_cons, flat_strs' ys]; rfl
theorem dec_str (x y : Str) : decide (V.str x = V.str y) = decide (x = y) := by
  by_cases h : x = y
  · rw [decide_eq_true h, decide_eq_true (by rw [h])]
  · rw [decide_eq_false h, decide_eq_false (fun z => h (V.str.inj z))]
theorem allMk_len : ∀ {l : List Kd}, (∀ k ∈ l, k.2.length ≤ 6) → (allMk l).length ≤ 6 * l.length
  | [], _ => Nat.le_refl _
  | k :: l, h => by
    have h1 := h k (List.mem_cons_self ..)
    have h2 := allMk_len (l := l) fun x hx => h x (List.mem_cons_of_mem _ hx)
    unfold allMk at h2 ⊢
    rw [List.flatMap_cons, List.length_append, List.length_cons]
    omega
/-- all but D stays -/
def Bar' (D : Addr) (H H' : Hp) : Prop := ∀ b o, b ≠ D → H b = some o → H' b = some o
section
variable {P : Program} {w : World} {K : PySem.W.Frag} {mg : Str → Option Value} {base : Heap}
abbrev s_is_kinds : Stmt := topS 32
theorem sc_is_kinds : FnScope ["thing", "names", "makers", "kind", "maker", "_", "fields", "name", "field"] ["thing"] (defScope s_is_kinds) := ⟨rfl, rfl, rfl, by decide +kernel, rfl, by decide +kernel, by decide +kernel⟩
def sp_is_kinds (K : PySem.W.Frag) : Sp := fun vs H Q _ => ∃ v ks, vs = [v] ∧ Im K H v (ksD ks) ∧ KindsOk ks ∧ ∀ H', Same H H' → Q (.bl true) H'
set_option maxHeartbeats 1000000 in
theorem ok_is_kinds {f : Addr} {fd : FuncData} {k : Nat} (F : Fun K "is_kinds" "is_kinds" s_is_kinds f fd) (T : Tx K mg){k1 : Nat} (D_is_row : Def P w K mg base k1 "is_row" s_is_row ["thing", "low", "high"] (sp_is_row K)) {k2 : Nat} (D_is_pair : Def P w K mg base k2 "is_pair" s_is_pair ["thing"] (sp_is_pair K)) {k3 : Nat} (D_is_high : Def P w K mg base k3 "is_high" s_is_high ["thing"] sp_is_high) {k4 : Nat} (D_all_unlike : Def P w K mg base k4 "all_unlike" s_all_unlike ["names"] (sp_unlike K)) (e1 : k1 ≤ k) (e2 : k2 ≤ k) (e3 : k3 ≤ k) (e4 : k4 ≤ k) : FnOk P w K mg base CX0 (k + 1) f fd ["thing"] (sp_is_kinds K) := by
  have nd := sc_is_kinds.nd
  refine F.ok sc_is_kinds (fun vs H Q E h => ?_) (fun cdv A outer s H vs Q E hr h => ?_)
  · obtain ⟨_, _, rfl, _⟩ := h
    rfl
  · obtain ⟨v, ks, rfl, iv, ok, q⟩ := h
    obtain ⟨a, xs, rfl, ha, hx⟩ := iv.tuple_inv
    have lx : xs.length = ks.length := all_len hx
    have few := ok.few
    refine ⟨_, (pss_cons (ps_if (pt_not (pt_val (pe_def D_is_row (hr.mono (by omega)) rfl (pa_cons (pv 0) (pa_cons pe_int (pa_cons pe_int pa_nil))))))
        (pss_one (ps_ret pe_bl))
        pss_nil)
      (pss_cons (ps_asg (pe_tup (pa_cons (pe_lst pa_nil) (pa_cons (pe_lst pa_nil) pa_nil))) (kpg_tup K (n := 2) rfl (pgs_cons (pg_name (i := 1) nd rfl (.inr rfl)) (pgs_cons (pg_name (i := 2) nd rfl (.inl rfl)) pgs_nil))))
      (pss_cons (ps_for PassesOwn.never rfl (kpi_tup K (pv 0)) (pg_name (i := 3) nd rfl (.inl rfl))
        (pss_cons (ps_if (PW.pt (pw_or (pt_not (pt_val (pe_def D_is_pair (hr.mono (by omega)) rfl (pa_cons (pv 3) pa_nil)))) (pw_or (pt_not (pt_val (pe_def D_is_high (hr.mono (by omega)) rfl (pa_cons (pe_ix (kix_tup K) (pv 3) pe_int (fun _ _ => rfl)) pa_nil)))) (pw_or1 (pt_not (pt_val (pe_def D_is_row (hr.mono (by omega)) rfl (pa_cons (pe_ix (kix_tup K) (pv 3) pe_int (fun _ _ => rfl)) (pa_cons pe_int (pa_cons pe_int pa_nil))))))))))
          (pss_one (ps_ret pe_bl))
          pss_nil)
        (pss_cons (ps_expr (pe_bm PySem.F.plainAttrs_list PySem.F.slot_list_append PySem.F.type_list_append mt_append (pv 1) (pa_cons (pe_ix (kix_tup K) (pv 3) pe_int (fun _ _ => rfl)) pa_nil)))
        (pss_one (ps_for PassesOwn.never rfl (kpi_tup K (pe_ix (kix_tup K) (pv 3) pe_int (fun _ _ => rfl))) (pg_name (i := 4) nd rfl (.inl rfl))
          (pss_cons (ps_if (PW.pt (pw_or (pt_not (pt_val (pe_def D_is_pair (hr.mono (by omega)) rfl (pa_cons (pv 4) pa_nil)))) (pw_or (pt_not (pt_val (pe_def D_is_high (hr.mono (by omega)) rfl (pa_cons (pe_ix (kix_tup K) (pv 4) pe_int (fun _ _ => rfl)) pa_nil)))) (pw_or1 (pt_not (pt_val (pe_def D_is_row (hr.mono (by omega)) rfl (pa_cons (pe_ix (kix_tup K) (pv 4) pe_int (fun _ _ => rfl)) (pa_cons pe_int (pa_cons pe_int pa_nil))))))))))
            (pss_one (ps_ret pe_bl))
            pss_nil)
          (pss_one (ps_expr (pe_bm PySem.F.plainAttrs_list PySem.F.slot_list_append PySem.F.type_list_append mt_append (pv 2) (pa_cons (pv 4) pa_nil))))))))))
      (pss_cons (ps_if (PW.pt (pw_or (pt_not (pt_val (pe_def D_all_unlike (hr.mono (by omega)) rfl (pa_cons (pv 1) pa_nil)))) (pw_or1 (pt_not (pt_val (pe_def D_all_unlike (hr.mono (by omega)) rfl (pa_cons (pe_lc (own := [("name", 7), ("_", 5)]) (g := _) (tt := tYes) rfl nd (kpi_list K (pv 2)) (blkOk_by (by rfl)) (fun _ _ _ _ _ => (kpg_tup K (n := 2) rfl (pgs_cons (pg_name (i := 7) nd rfl (.inl rfl)) (pgs_cons (pg_name (i := 5) nd rfl (.inl rfl)) pgs_nil)))) (fun _ _ _ _ _ => pts_nil) (fun _ _ _ _ _ => (pv 7))) pa_nil)))))))
        (pss_one (ps_ret pe_bl))
        pss_nil)
      (pss_cons (ps_for PassesOwn.never rfl (kpi_list K (pv 2)) (kpg_tup K (n := 2) rfl (pgs_cons (pg_name (i := 5) nd rfl (.inl rfl)) (pgs_cons (pg_name (i := 6) nd rfl (.inl rfl)) pgs_nil)))
        (pss_one (ps_if (pt_not (pt_val (pe_callB (kcr_all K) (by rfl) T.m_all (by decide +kernel) (pa_cons (pe_lc (own := [("field", 8)]) (g := gName 8) (tt := tYes) rfl nd (kpi_tup K (pv 6)) (blkOk_by (by rfl)) (fun _ _ _ _ _ => (pg_name (i := 8) nd rfl (.inl rfl))) (fun _ _ _ _ _ => pts_nil) (fun _ _ _ _ _ => (pe_and (pe_callB (kcall_isi K) (by rfl) T.m_isinstance (by decide +kernel) (pa_cons (pv 8) (pa_cons (pe_bltn (v := .ty "str") (u := .type "str") (by rfl) T.m_str (by decide +kernel) rfl) pa_nil))) (pe_one (pe_or (pe_cmpR op_eq (pv 8) pe_str (nomark _)) (pe_one (pe_cmpR (kop_inS K) (pv 8) (pv 1) (by rfl)))))))) pa_nil))))
          (pss_one (ps_ret pe_bl))
          pss_nil)))
      (pss_one (ps_ret pe_bl))))))), ?_⟩
    refine ⟨.ref a, rfl, a, xs, 1, 6, rfl, ha, by omega, by omega, true, rfl, iteF ?_⟩
    refine ⟨by show 0 ≤ sizeLine; decide, fun e1 he1 => ⟨by show 0 ≤ sizeLine; decide, fun e2 he2 => ⟨by show 2 ≤ sizeLine; decide, fun T hT => ?_⟩⟩⟩
    have s1 : Same H (upd H e1 (.lst [])) := same_new he1
    have ee1 : (upd H e1 (.lst [])) e1 = some (.lst []) := upd_same
    generalize upd H e1 (.lst []) = H1 at *
    have s2 : Same H1 (upd H1 e2 (.lst [])) := same_new he2
    have ee2 : (upd H1 e2 (.lst [])) e2 = some (.lst []) := upd_same
    have ee12 := s2 _ _ ee1
    have n12 : e1 ≠ e2 := ne_of_none ee1 he2
    have he20 : H e2 = none := s1.free he2
    generalize upd H1 e2 (.lst []) = H2 at *
    have s3 : Same H2 (upd H2 T (.tup [.ref e1, .ref e2])) := same_new hT
    have ee13 := s3 _ _ ee12
    have ee23 := s3 _ _ ee2
    have sH3 := (s1.trans s2).trans s3
    refine ⟨T, _, rfl, .of upd_same, rfl, .ref e1, _, rfl, .ref e2, _, rfl, rfl, ?_⟩
    generalize upd H2 T (.tup [.ref e1, .ref e2]) = H3 at *
    have iv3 := ImAll.mono (tk_same sH3) _ hx
    refine ⟨.ref a, rfl, a, rfl, ⟨_, (ha.mono (tk_same sH3)).sq⟩, ?_⟩
    refine for_it (walk_tup (xs := xs)) (fun i σ Ha => ∃ (y3 y4 : Option V) (ws : List V), σ = [some (.ref a), some (.ref e1), some (.ref e2), y3, y4, none, none, none, none] ∧ Same H Ha ∧ Ha e1 = some (.lst (((ks.take i).map (·.1)).map V.str)) ∧ Ha e2 = some (.lst ws) ∧ ImAll K Ha ws ((allMk (ks.take i)).map mkD)) ⟨_, _, [], rfl, sH3, ee13, ee23, .nil⟩ (fun i σ Ha _ z => ?_) ?_ ?_
    · obtain ⟨_, _, _, _, sm, _⟩ := z
      exact (ha.mono (tk_same sm)).sq
    · rintro i x σ Ha Hb hi ⟨y3, y4, ws, rfl, sm, m1, m2, im⟩ ⟨rfl, hxi⟩
      obtain ⟨kd, hkd, ikd⟩ := all_get (ImAll.mono (tk_same sm) _ hx) hxi
      have kmem := List.mem_of_getElem? hkd
      obtain ⟨pk, u1, u2, rfl, hpk, iu1, iu2⟩ := im_pair ikd
      obtain rfl := iu1.str_inv
      obtain ⟨pm, us, rfl, hpm, ius⟩ := iu2.tuple_inv
      obtain ⟨hn, hc⟩ := ok.nm _ kmem
      have lus : us.length = kd.2.length := all_len ius
      have few2 := ok.mks _ kmem
      refine ⟨.ref pk, rfl, .ref pk, kdD kd, rfl, Im.dp _ ikd, true, rfl, iteF ?_⟩
      refine ⟨.ref pk, rfl, pk, _, 0, _, rfl, rfl, hpk.sq, atI_nat (j := 0) rfl, kd.1, rfl, hn, hc, fun H4 s4 => ⟨true, rfl, iteF ?_⟩⟩
      have hpk4 := hpk.mono (tk_same s4)
      have hpm4 := hpm.mono (tk_same s4)
      have sm4 := sm.trans s4
      have m14 := s4 _ _ m1
      have m24 := s4 _ _ m2
      have im4 := ImAll.mono (tk_same s4) _ im
      have ius4 := ImAll.mono (tk_same s4) _ ius
      refine ⟨.ref pk, rfl, pk, _, 1, _, rfl, rfl, hpk4.sq, atI_nat (j := 1) rfl, pm, us, 1, 6, rfl, hpm4, by omega, by omega, true, rfl, iteF ?_⟩
      have lk : (ks.take i).length = i := by rw [List.length_take]; omega
      refine ⟨.ref e1, rfl, .inl ⟨rfl, _, .of m14⟩, .ref pk, rfl, pk, _, 0, _, rfl, rfl, hpk4.sq, atI_nat (j := 0) rfl, e1, _, _, rfl, rfl, m14, small1000 (by rw [List.length_map, List.length_map, lk]; omega), ?_⟩
      have take1 : ks.take (i + 1) = ks.take i ++ [kd] := by rw [List.take_add_one, hkd]; rfl
      have m15 : (upd H4 e1 (.lst (((ks.take i).map (·.1)).map V.str ++ [.str kd.1]))) e1 = some (.lst (((ks.take (i + 1)).map (·.1)).map V.str)) := by
        rw [upd_same, take1, List.map_append, List.map_append]; rfl
      have br5 : Bar' e1 H4 (upd H4 e1 (.lst (((ks.take i).map (·.1)).map V.str ++ [.str kd.1]))) := fun b o n e => by rw [upd_ne n]; exact e
      have sm5 : Same H (upd H4 e1 (.lst (((ks.take i).map (·.1)).map V.str ++ [.str kd.1]))) := fun b o e => br5 _ _ (ne_of_none e he1) (sm4 _ _ e)
      have m25 := br5 _ _ n12.symm m24
      have im5 := ImAll.mono (tk_lst (o := .lst (((ks.take i).map (·.1)).map V.str ++ [.str kd.1])) m14) _ im4
      have ius5 := ImAll.mono (tk_lst (o := .lst (((ks.take i).map (·.1)).map V.str ++ [.str kd.1])) m14) _ ius4
      have hpk5 := hpk4.mono (tk_lst (o := .lst (((ks.take i).map (·.1)).map V.str ++ [.str kd.1])) m14)
      have hpm5 := hpm4.mono (tk_lst (o := .lst (((ks.take i).map (·.1)).map V.str ++ [.str kd.1])) m14)
      generalize upd H4 e1 (.lst (((ks.take i).map (·.1)).map V.str ++ [.str kd.1])) = H5 at *
      refine ⟨.ref pk, rfl, pk, _, 1, _, rfl, rfl, hpk5.sq, atI_nat (j := 1) rfl, pm, rfl, ⟨_, hpm5.sq⟩, ?_⟩
      refine for_it (walk_tup (xs := us)) (fun j σ Ha => ∃ (y4 : Option V) (ws : List V), σ = [some (.ref a), some (.ref e1), some (.ref e2), some (.ref pk), y4, none, none, none, none] ∧ Same H Ha ∧ ITup K Ha pm us ∧ ImAll K Ha us (kd.2.map mkD) ∧ Ha e1 = some (.lst (((ks.take (i + 1)).map (·.1)).map V.str)) ∧ Ha e2 = some (.lst ws) ∧ ImAll K Ha ws ((allMk (ks.take i) ++ kd.2.take j).map mkD)) ⟨y4, ws, rfl, sm5, hpm5, ius5, m15, m25, by rw [List.take_zero, List.append_nil]; exact im5⟩ (fun j σ Ha _ z => ?_) ?_ ?_
      · obtain ⟨_, _, _, _, hp, _⟩ := z
        exact hp.sq
      · rintro j x σ Hc Hd hj ⟨y4, ws, rfl, sm, hpm, iu, m1, m2, im⟩ ⟨rfl, hxj⟩
        obtain ⟨m, hm, imm⟩ := all_get iu hxj
        have mmem := List.mem_of_getElem? hm
        obtain ⟨pp, u1, u2, rfl, hpp, iu1, iu2⟩ := im_pair imm
        obtain rfl := iu1.str_inv
        obtain ⟨pf, fs, rfl, hpf, ifs⟩ := iu2.tuple_inv
        obtain ⟨⟨hn, hc⟩, l4⟩ := ok.mkk _ kmem _ mmem
        have lfs : fs.length = m.2.length := all_len ifs
        refine ⟨.ref pp, rfl, .ref pp, mkD m, rfl, Im.dp _ imm, true, rfl, iteF ⟨.ref pp, rfl, pp, _, 0, _, rfl, rfl, hpp.sq, atI_nat (j := 0) rfl, m.1, rfl, hn, hc, fun H6 s6 => ⟨true, rfl, iteF ?_⟩⟩⟩
        refine ⟨.ref pp, rfl, pp, _, 1, _, rfl, rfl, (hpp.mono (tk_same s6)).sq, atI_nat (j := 1) rfl, pf, fs, 0, 4, rfl, hpf.mono (tk_same s6), by omega, by omega, true, rfl, iteF ?_⟩
        have m16 := s6 _ _ m1
        have m26 := s6 _ _ m2
        have la := allMk_len (l := ks.take i) (fun k hk => (ok.mks k (List.mem_of_mem_take hk)).2)
        rw [lk] at la
        have lw : ws.length ≤ 42 := by
          rw [all_len im, List.length_append, List.length_take]
          omega
        refine ⟨.ref e2, rfl, .inl ⟨rfl, _, .of m26⟩, .ref pp, rfl, e2, ws, .ref pp, rfl, rfl, m26, small1000 (by omega), _, ws ++ [.ref pp], rfl, fun b o e => ?_, (hpm.mono (tk_same s6)).mono (tk_lst m26), ImAll.mono ((tk_same s6).trans (tk_lst m26)) _ iu, ?_, upd_same, ?_⟩
        · rw [upd_ne (ne_of_none e he20)]
          exact s6 _ _ (sm _ _ e)
        · rw [upd_ne n12]; exact m16
        · rw [List.take_add_one, hm, ← List.append_assoc, List.map_append]
          exact (ImAll.mono ((tk_same s6).trans (tk_lst m26)) _ im).snoc (Im.mono ((tk_same s6).trans (tk_lst m26)) _ imm)
      · rintro σ Hc ⟨y4, ws, rfl, sm, hpm, iu, m1, m2, im⟩
        refine ⟨_, y4, ws, rfl, sm, m1, m2, ?_⟩
        rw [take1]
        unfold allMk at im ⊢
        rw [List.flatMap_append, List.flatMap_cons, List.flatMap_nil, List.append_nil]
        rw [lus, List.take_of_length_le (Nat.le_refl _)] at im
        exact im
    · rintro σ Ha ⟨y3, y4, ws, rfl, sm, m1, m2, im⟩
      rw [lx, List.take_of_length_le (Nat.le_refl _)] at m1 im
      have la := allMk_len (l := ks) (fun k hk => (ok.mks k hk).2)
      have lws : ws.length = (allMk ks).length := all_len im
      refine ⟨.ref e1, rfl, e1, ks.map (·.1), rfl, m1, ok.nd, by rw [List.length_map]; omega, true, rfl, iteF ?_⟩
      refine ⟨.ref e2, rfl, e2, rfl, ⟨_, .of m2⟩, fun D hD => ?_⟩
      refine lc_all (walk_list (xs := ws)) (fun j Hx => Same Ha Hx ∧ Hx D = some (.lst ((((allMk ks).take j).map (·.1)).map V.str))) ⟨same_new hD, upd_same⟩ (fun j Hx _ z => .of (z.1 _ _ m2)) (fun j x Hx Hy hj z y => ?_) (fun Hx z => ?_)
      · obtain ⟨s5, eD⟩ := z
        obtain ⟨rfl, hxj⟩ := y
        obtain ⟨m, hm, imm⟩ := all_get (ImAll.mono (tk_same s5) _ im) hxj
        obtain ⟨pp, u1, u2, rfl, hpp, iu1, iu2⟩ := im_pair imm
        obtain rfl := iu1.str_inv
        refine ⟨pp, _, rfl, hpp.sq, rfl, .str m.1, _, rfl, u2, _, rfl, rfl, rfl, .str m.1, rfl, _, eD, small1000 (by rw [List.length_map, List.length_map, List.length_take]; omega), fun b o e => ?_, ?_⟩
        · rw [upd_ne (ne_of_none e hD)]; exact s5 _ _ e
        · rw [upd_same, List.take_add_one, hm, List.map_append, List.map_append]; rfl
      · obtain ⟨s5, eD⟩ := z
        rw [lws, List.take_of_length_le (Nat.le_refl _)] at eD
        refine ⟨D, (allMk ks).map (·.1), rfl, eD, ok.ndm, by rw [List.length_map]; omega, true, rfl, iteF ?_⟩
        have m15 := s5 _ _ m1
        have m25 := s5 _ _ m2
        have im5 := ImAll.mono (tk_same s5) _ im
        refine ⟨.ref e2, rfl, e2, rfl, ⟨_, .of m25⟩, ?_⟩
        refine for_it (walk_list (xs := ws)) (fun j σ Hb => ∃ (y5 y6 : Option V), σ = [some (.ref a), some (.ref e1), some (.ref e2), y3, y4, y5, y6, none, none] ∧ Same Hx Hb) ⟨_, _, rfl, Same.refl _⟩ (fun j σ Hb _ z => ?_) ?_ ?_
        · obtain ⟨_, _, _, s6⟩ := z
          exact .of (s6 _ _ m25)
        · rintro j x σ Hb Hc hj ⟨y5, y6, rfl, s6⟩ ⟨rfl, hxj⟩
          obtain ⟨m, hm, imm⟩ := all_get (ImAll.mono (tk_same s6) _ im5) hxj
          obtain ⟨pp, u1, u2, rfl, hpp, iu1, iu2⟩ := im_pair imm
          obtain rfl := iu1.str_inv
          obtain ⟨pf, fs, rfl, hpf, ifs⟩ := iu2.tuple_inv
          have efs := im_strs ifs
          obtain ⟨kd, hk, hmk⟩ := List.mem_flatMap.mp (List.mem_of_getElem? hm)
          have l4 := (ok.mkk _ hk _ hmk).2
          have m16 := s6 _ _ m15
          refine ⟨pp, _, rfl, hpp.sq, rfl, .str m.1, _, rfl, .ref pf, _, rfl, rfl, ?_⟩
          refine ⟨.ref pf, rfl, pf, rfl, ⟨_, hpf.sq⟩, fun D3 hD3 => ?_⟩
          refine lc_all (walk_tup (xs := fs)) (fun i H2 => Same Hc H2 ∧ H2 D3 = some (.lst ((List.replicate i true).map V.bl))) ⟨same_new hD3, upd_same⟩ (fun i H2 _ z => (hpf.mono (tk_same z.1)).sq) (fun i x H2 H3 hi zz y => ?_) (fun H2 zz => ?_)
          · obtain ⟨s7, eD3⟩ := zz
            obtain ⟨rfl, hxi⟩ := y
            rw [efs] at hxi hi
            rw [List.length_map] at hi
            rw [List.getElem?_map] at hxi
            obtain ⟨f, hf, rfl⟩ := Option.map_eq_some_iff.mp hxi
            have fin : ∃ acc, H3 D3 = some (.lst acc) ∧ acc.length < sizeLine ∧ Same Hc (upd H3 D3 (.lst (acc ++ [V.bl true]))) ∧ (upd H3 D3 (.lst (acc ++ [V.bl true]))) D3 = some (.lst ((List.replicate (i + 1) true).map V.bl)) := by
              refine ⟨_, eD3, ?_, fun b o e => ?_, ?_⟩
              · rw [List.length_map, List.length_replicate]; exact small1000 (by omega)
              · rw [upd_ne (ne_of_none e hD3)]; exact s7 _ _ e
              · rw [upd_same, List.replicate_succ', List.map_append]; rfl
            refine ⟨rfl, .str f, rfl, .str f, _, .type "str", _, true, rfl, .ty _, .base (.str f), kit_ty (by decide +kernel), true, rfl, iteT ⟨.str f, rfl, rfl, _, rfl, ?_⟩⟩
            rw [dec_str]
            by_cases hnum : f = "number"
            · rw [decide_eq_true hnum]
              exact iteT fin
            · rw [decide_eq_false hnum]
              refine iteF ⟨.str f, rfl, .ref e1, rfl, e1, _, rfl, .inl (.of (s7 _ _ m16)), rfl, flat_strs' _, ?_⟩
              rw [if_neg Bool.false_ne_true, inV_strs, decide_eq_true ((ok.flds _ hk _ hmk f (List.mem_of_getElem? hf)).resolve_left hnum)]
              exact fin
          · refine ⟨D3, List.replicate fs.length true, rfl, .of zz.2, ?_⟩
            have e : (List.replicate fs.length true).all id = true := by simp
            rw [e]
            exact ⟨true, rfl, iteF ⟨_, _, rfl, s6.trans zz.1⟩⟩
        · rintro σ Hb ⟨y5, y6, rfl, s6⟩
          exact q Hb ((sm.trans s5).trans s6)
end
end K63

set_option Elab.async false
set_option linter.all false
set_option maxRecDepth 100000
set_option exponentiation.threshold 20000
set_option pp.deepTerms false
set_option pp.deepTerms.threshold 8
namespace K63
open PySem PySem.Spec PyProof.Rows L2 Ly Mt
/-! ### the table of makers -/
def noS : Str := ""
/-- the place of a kind's name, -1 where there is none -/
def placeOf (ns : List Str) (f : Str) : Int := if f ∈ ns then (ns.idxOf f : Int) else -1
/-- a maker's row: its name, kind, place, fields -/
abbrev Row := Str × Nat × Nat × List Int
def rowD (r : Row) : PyData := .tuple [.int r.2.1, .int r.2.2.1, .tuple (r.2.2.2.map .int)]
def mkRow (ns : List Str) (i j : Nat) (m : Mk) : Row := (m.1, i, j, m.2.map (placeOf ns))
def kindRows (ns : List Str) (i : Nat) (k : Kd) : List Row := (List.range k.2.length).map fun j => mkRow ns i j (k.2.getD j (noS, []))
def rowsOf (ks : List Kd) (n : Nat) : List Row := (List.range n).flatMap fun i => kindRows (ks.map (·.1)) i (ks.getD i (noS, []))
/-- at d stands the dict of these rows -/
structure TableAt (K : PySem.W.Frag) (H : Hp) (d : Addr) (rs : List Row) : Prop where
  ex : ∃ kvs : List (Key × V), H d = some (.dK kvs) ∧ kvs.map (·.1) = rs.map (fun r => Sum.inr r.1) ∧ ImAll K H (kvs.map (·.2)) (rs.map rowD)
theorem TableAt.same {K : PySem.W.Frag} {H H' : Hp} {d : Addr} {rs : List Row} (h : TableAt K H d rs) (s : Same H H') : TableAt K H' d rs := by
  obtain ⟨kvs, e, h1, h2⟩ := h
  exact ⟨kvs, s _ _ e, h1, ImAll.mono (tk_same s) _ h2⟩
theorem tk_dK {H : Hp} {p : Addr} {o : HO} {xs : List (Key × V)} (h : H p = some (.dK xs)) : TK H (upd H p o) := fun b ys e => by
  rw [upd_ne (fun z => by rw [z, h] at e; cases e)]; exact e
theorem valV_none {kvs : List (Key × V)} {k : Key} (h : k ∉ kvs.map (·.1)) : valV kvs k = none := by
  induction kvs with
  | nil => rfl
  | cons p r ih =>
    rw [List.map_cons, List.mem_cons] at h
    rw [valV_neg (fun e => h (.inl e.symm))]
    exact ih fun z => h (.inr z)
theorem valV_at {K : PySem.W.Frag} {H : Hp} : ∀ {kvs : List (Key × V)} {rs : List Row} {i : Nat} {r : Row}, kvs.map (·.1) = rs.map (fun r => Sum.inr r.1) → (rs.map (·.1)).Nodup → ImAll K H (kvs.map (·.2)) (rs.map rowD) → rs[i]? = some r → ∃ v, valV kvs (Sum.inr r.1) = some v ∧ Im K H v (rowD r)
  | [], [], i, r, _, _, _, h => by simp at h
  | p :: kvs, q :: rs, 0, r, h1, nd, im, h => by
    obtain rfl : q = r := by simpa using h
    rw [List.map_cons, List.map_cons] at h1
    injection h1 with e1 e2
    obtain ⟨v, vs, e3, i1, _⟩ := im.cons_inv
    injection e3 with e4 e5
    exact ⟨p.2, valV_pos e1, by have e5 : p.2 = v := e4; rw [e5]; exact i1⟩
  | p :: kvs, q :: rs, i + 1, r, h1, nd, im, h => by
    have hr : rs[i]? = some r := by simpa using h
    rw [List.map_cons, List.map_cons] at h1
    injection h1 with e1 e2
    obtain ⟨v, vs, e3, i1, ir⟩ := im.cons_inv
    injection e3 with e4 e5
    rw [List.map_cons, List.nodup_cons] at nd
    rw [← e5] at ir
    obtain ⟨u, h3, h4⟩ := valV_at e2 nd.2 ir hr
    refine ⟨u, ?_, h4⟩
    rw [valV_neg (fun z => nd.1 ?_)]
    · exact h3
    · rw [e1] at z
      have : q.1 = r.1 := Sum.inr.inj z
      rw [this]
      exact List.mem_map.mpr ⟨r, List.mem_of_getElem? hr, rfl⟩
  | [], _ :: _, _, _, h1, _, _, _ => by simp at h1
  | _ :: _, [], _, _, h1, _, _, _ => by simp at h1
theorem TableAt.get {K : PySem.W.Frag} {H : Hp} {d : Addr} {rs : List Row} (h : TableAt K H d rs) (nd : (rs.map (·.1)).Nodup) {i : Nat} {r : Row} (e : rs[i]? = some r) : ∃ kvs v, H d = some (.dK kvs) ∧ valV kvs (Sum.inr r.1) = some v ∧ Im K H v (rowD r) := by
  obtain ⟨kvs, e0, h1, h2⟩ := h
  obtain ⟨v, h3, h4⟩ := valV_at h1 nd h2 e
  exact ⟨kvs, v, e0, h3, h4⟩
/-! ### the places of the kinds -/
def placesV (ns : List Str) (n : Nat) : List (Key × V) := (List.range n).map fun i => (Sum.inr (ns.getD i noS), V.int (i : Nat))
theorem placesV_succ (ns : List Str) (n : Nat) : placesV ns (n + 1) = placesV ns n ++ [(Sum.inr (ns.getD n noS), V.int (n : Nat))] := by
  unfold placesV
  rw [List.range_succ, List.map_append]; rfl
theorem getD_inj {ns : List Str} (nd : ns.Nodup) {i j : Nat} (hi : i < ns.length) (hj : j < ns.length) (h : ns.getD i noS = ns.getD j noS) : i = j := by
  rw [List.getD_eq_getElem?_getD, List.getD_eq_getElem?_getD, List.getElem?_eq_getElem hi, List.getElem?_eq_getElem hj] at h
  have h2 : ns[i] = ns[j] := h
  exact (List.getElem?_inj hi nd).mp (by rw [List.getElem?_eq_getElem hi, List.getElem?_eq_getElem hj, h2])
theorem places_new {ns : List Str} (nd : ns.Nodup) {n : Nat} (h : n < ns.length) : valV (placesV ns n) (Sum.inr (ns.getD n noS)) = none := valV_none fun z => by
  obtain ⟨p, hp, e⟩ := List.mem_map.mp z
  obtain ⟨i, hi, rfl⟩ := List.mem_map.mp hp
  have hi' := List.mem_range.mp hi
  have := getD_inj nd (by omega) h (Sum.inr.inj e)
  omega
theorem places_at {ns : List Str} (nd : ns.Nodup) : ∀ n, n ≤ ns.length → ∀ i, i < n → valV (placesV ns n) (Sum.inr (ns.getD i noS)) = some (.int (i : Nat))
  | 0, _, i, h => by omega
  | n + 1, hn, i, h => by
    rw [placesV_succ, valV_snoc _ _ _ _ (places_new nd (by omega))]
    by_cases e : i = n
    · subst e; rw [if_pos rfl]
    · rw [if_neg (fun z => e (getD_inj nd (by omega) (by omega) (Sum.inr.inj z)))]
      exact places_at nd n (by omega) i (by omega)
theorem places_get {ns : List Str} (nd : ns.Nodup) (f : Str) : (valV (placesV ns ns.length) (Sum.inr f)).getD (.int (-1)) = .int (placeOf ns f) := by
  unfold placeOf
  by_cases h : f ∈ ns
  · rw [if_pos h]
    have hi := List.idxOf_lt_length_of_mem h
    have e : ns.getD (ns.idxOf f) noS = f := by
      rw [List.getD_eq_getElem?_getD, List.getElem?_eq_getElem hi]
      exact List.getElem_idxOf hi
    have := places_at nd _ (Nat.le_refl _) _ hi
    rw [e] at this
    rw [this]; rfl
  · rw [if_neg h, valV_none fun z => h ?_]
    · rfl
    · obtain ⟨p, hp, e⟩ := List.mem_map.mp z
      obtain ⟨i, hi, rfl⟩ := List.mem_map.mp hp
      have hi' := List.mem_range.mp hi
      have e2 : ns.getD i noS = f := Sum.inr.inj e
      rw [← e2, List.getD_eq_getElem?_getD, List.getElem?_eq_getElem hi']
      exact List.getElem_mem hi'
theorem rows_names (ks : List Kd) : ((rowsOf ks ks.length).map (·.1)) = (allMk ks).map (·.1) := by
  have h : ∀ (l : List Kd) (ns : List Str) (f : Nat → Nat), ((List.range l.length).flatMap fun i => kindRows ns (f i) (l.getD i (noS, []))).map (·.1) = (allMk l).map (·.1) := by
    intro l ns
    induction l with
    | nil => intro f; rfl
    | cons k l ih =>
      intro f
      rw [List.length_cons, List.range_succ_eq_map, List.flatMap_cons, List.map_append]
      unfold allMk
      rw [List.flatMap_cons, List.map_append]
      congr 1
      · unfold kindRows
        rw [List.map_map]
        show (List.range k.2.length).map (fun j => (k.2.getD j (noS, [])).1) = _
        refine List.ext_getElem? fun j => ?_
        rw [List.getElem?_map, List.getElem?_map]
        by_cases hj : j < k.2.length
        · rw [List.getElem?_range hj, List.getElem?_eq_getElem hj]
          show some (k.2.getD j (noS, [])).1 = some _
          rw [List.getD_eq_getElem?_getD, List.getElem?_eq_getElem hj]; rfl
        · rw [List.getElem?_eq_none (by simp; omega), List.getElem?_eq_none (by omega)]; rfl
      · have := ih (fun i => f (i + 1))
        unfold allMk at this
        rw [← this, List.flatMap_map]
        rfl
  exact h ks _ id
theorem rows_succ (ks : List Kd) (n : Nat) : rowsOf ks (n + 1) = rowsOf ks n ++ kindRows (ks.map (·.1)) n (ks.getD n (noS, [])) := by
  unfold rowsOf
  rw [List.range_succ, List.flatMap_append, List.flatMap_cons, List.flatMap_nil, List.append_nil]
theorem rows_prefix (ks : List Kd) (i : Nat) : ∀ n, i ≤ n → rowsOf ks i <+: rowsOf ks n
  | 0, h => by
    obtain rfl : i = 0 := by omega
    exact List.prefix_refl _
  | n + 1, h => by
    by_cases e : i = n + 1
    · rw [e]; exact List.prefix_refl _
    · exact (rows_prefix ks i n (by omega)).trans (by rw [rows_succ]; exact List.prefix_append ..)
theorem kindRows_at {ns : List Str} {i j : Nat} {kd : Kd} {m : Mk} (h : kd.2[j]? = some m) : (kindRows ns i kd)[j]? = some (mkRow ns i j m) := by
  have hj := (List.getElem?_eq_some_iff.mp h).1
  unfold kindRows
  rw [List.getElem?_map, List.getElem?_range hj]
  show some (mkRow ns i j (kd.2.getD j (noS, []))) = _
  rw [List.getD_eq_getElem?_getD, h]; rfl
theorem kindRows_length {ns : List Str} {i : Nat} {kd : Kd} : (kindRows ns i kd).length = kd.2.length := by unfold kindRows; simp
theorem ints_im {K : PySem.W.Frag} {H : Hp} : ∀ (ns : List Int), ImAll K H (ns.map V.int) (ns.map .int)
  | [] => .nil
  | n :: ns => .cons (.int n) (ints_im ns)
/-- the name of the next row is new -/
theorem row_new {ks : List Kd} (nd : ((allMk ks).map (·.1)).Nodup) {i j : Nat} {kd : Kd} {m : Mk} (hk : ks[i]? = some kd) (hm : kd.2[j]? = some m) : m.1 ∉ (rowsOf ks i ++ (kindRows (ks.map (·.1)) i kd).take j).map (·.1) := by
  have hi := (List.getElem?_eq_some_iff.mp hk).1
  have e1 : ks.getD i (noS, []) = kd := by rw [List.getD_eq_getElem?_getD, hk]; rfl
  have p1 := rows_prefix ks (i + 1) ks.length hi
  rw [rows_succ, e1] at p1
  have p2 : rowsOf ks i ++ (kindRows (ks.map (·.1)) i kd).take (j + 1) <+: rowsOf ks ks.length := by
    refine List.IsPrefix.trans ?_ p1
    obtain ⟨t, ht⟩ := List.take_prefix (j + 1) (kindRows (ks.map (·.1)) i kd)
    exact ⟨t, by rw [List.append_assoc, ht]⟩
  rw [List.take_add_one, kindRows_at hm, ← List.append_assoc] at p2
  have nd2 : ((rowsOf ks ks.length).map (·.1)).Nodup := by rw [rows_names]; exact nd
  have p3 := (List.IsPrefix.map (·.1) p2).sublist.nodup nd2
  rw [List.map_append] at p3
  intro z
  exact (List.nodup_append.mp p3).2.2 _ z _ (List.mem_singleton.mpr rfl) rfl
theorem rows_few {ks : List Kd} (h : ∀ k ∈ ks, k.2.length ≤ 6) : ∀ n, n ≤ ks.length → (rowsOf ks n).length ≤ 6 * n
  | 0, _ => Nat.le_refl _
  | n + 1, hn => by
    have := rows_few h n (by omega)
    rw [rows_succ, List.length_append, kindRows_length]
    have hk : ks.getD n (noS, []) ∈ ks := by
      rw [List.getD_eq_getElem?_getD, List.getElem?_eq_getElem (by omega)]
      exact List.getElem_mem _
    have := h _ hk
    omega
theorem TableAt.put {K : PySem.W.Frag} {H : Hp} {d T : Addr} {rs : List Row} {r : Row} {kvs : List (Key × V)} (e : H d = some (.dK kvs)) (h1 : kvs.map (·.1) = rs.map (fun r => Sum.inr r.1)) (h2 : ImAll K H (kvs.map (·.2)) (rs.map rowD)) (hn : r.1 ∉ rs.map (·.1)) (iT : Im K H (.ref T) (rowD r)) :
    TableAt K (upd H d (.dK (putK kvs (Sum.inr r.1) (.ref T)))) d (rs ++ [r]) := by
  have hv : valV kvs (Sum.inr r.1) = none := valV_none (by
    rw [h1]
    intro z
    obtain ⟨x, hx, ex⟩ := List.mem_map.mp z
    exact hn (List.mem_map.mpr ⟨x, hx, Sum.inr.inj ex⟩))
  rw [putK_new _ hv]
  have tk := tk_dK (o := .dK (kvs ++ [(Sum.inr r.1, V.ref T)])) e
  refine ⟨_, upd_same, by rw [List.map_append, List.map_append, h1]; rfl, ?_⟩
  rw [List.map_append, List.map_append]
  exact (ImAll.mono tk _ h2).snoc (Im.mono tk _ iT)
section
variable {P : Program} {w : World} {K : PySem.W.Frag} {mg : Str → Option Value} {base : Heap}
abbrev s_maker_table : Stmt := topS 33
theorem sc_maker_table : FnScope ["kinds", "places", "table", "index", "_", "makers", "at", "maker", "fields", "name", "field"] ["kinds"] (defScope s_maker_table) := ⟨rfl, rfl, rfl, by decide +kernel, rfl, by decide +kernel, by decide +kernel⟩
def sp_maker_table (K : PySem.W.Frag) : Sp := fun vs H Q _ => ∃ v ks, vs = [v] ∧ Im K H v (ksD ks) ∧ KindsOk ks ∧ ∀ d H', Same H H' → H d = none → TableAt K H' d (rowsOf ks ks.length) → Q (.ref d) H'
set_option maxHeartbeats 1000000 in
theorem ok_maker_table {f : Addr} {fd : FuncData} {k : Nat} (F : Fun K "maker_table" "maker_table" s_maker_table f fd) (T : Tx K mg) : FnOk P w K mg base CX0 (k + 1) f fd ["kinds"] (sp_maker_table K) := by
  have nd := sc_maker_table.nd
  refine F.ok sc_maker_table (fun vs H Q E h => ?_) (fun cdv A outer s H vs Q E hr h => ?_)
  · obtain ⟨_, _, rfl, _⟩ := h
    rfl
  · obtain ⟨v, ks, rfl, iv, ok, q⟩ := h
    obtain ⟨a, xs, rfl, ha, hx⟩ := iv.tuple_inv
    have lx : xs.length = ks.length := all_len hx
    have few := ok.few
    have ln : (ks.map (·.1)).length = ks.length := List.length_map ..
    refine ⟨_, (pss_cons (ps_set (i := 1) nd rfl (.inr rfl) (pe_dc (own := [("index", 3), ("name", 9), ("_", 4)]) (g := _) (tt := tYes) rfl nd (kpi_enumT K (by rfl) T.m_enumerate (pa_cons (pv 0) pa_nil)) (blkOk_by (by rfl)) (fun _ _ _ _ _ => (kpg_tup K (n := 2) rfl (pgs_cons (pg_name (i := 3) nd rfl (.inl rfl)) (pgs_cons (kpg_tup K (n := 2) rfl (pgs_cons (pg_name (i := 9) nd rfl (.inl rfl)) (pgs_cons (pg_name (i := 4) nd rfl (.inl rfl)) pgs_nil))) pgs_nil)))) (fun _ _ _ _ _ => pts_nil) (fun _ _ _ _ _ => (pv 9)) (fun _ _ _ _ _ => (pv 3))))
      (pss_cons (ps_set (i := 2) nd rfl (.inl rfl) pe_dnewK)
      (pss_cons (ps_for PassesOwn.never rfl (kpi_enumT K (by rfl) T.m_enumerate (pa_cons (pv 0) pa_nil)) (kpg_tup K (n := 2) rfl (pgs_cons (pg_name (i := 3) nd rfl (.inl rfl)) (pgs_cons (kpg_tup K (n := 2) rfl (pgs_cons (pg_name (i := 4) nd rfl (.inl rfl)) (pgs_cons (pg_name (i := 5) nd rfl (.inl rfl)) pgs_nil))) pgs_nil)))
        (pss_one (ps_for PassesOwn.never rfl (kpi_enumT K (by rfl) T.m_enumerate (pa_cons (pv 5) pa_nil)) (kpg_tup K (n := 2) rfl (pgs_cons (pg_name (i := 6) nd rfl (.inl rfl)) (pgs_cons (kpg_tup K (n := 2) rfl (pgs_cons (pg_name (i := 7) nd rfl (.inl rfl)) (pgs_cons (pg_name (i := 8) nd rfl (.inl rfl)) pgs_nil))) pgs_nil)))
          (pss_one (ps_dput (hu_of hr) (pv 2) (pv 7) (pe_tup (pa_cons (pv 3) (pa_cons (pv 6) (pa_cons (pe_callTy (kcall_tuple K) (by rfl) T.m_tuple (by decide +kernel) (pa_cons (pe_lc (own := [("field", 10)]) (g := gName 10) (tt := tYes) rfl nd (kpi_tup K (pv 8)) (blkOk_by (by rfl)) (fun _ _ _ _ _ => (pg_name (i := 10) nd rfl (.inl rfl))) (fun _ _ _ _ _ => pts_nil) (fun _ _ _ _ _ => (pe_dget2 (hu_of hr) (pv 1) (pv 10) (pe_gv rfl T.g_NUMBER) ⟨rfl, rfl, rfl, rfl⟩))) pa_nil)) pa_nil)))) rfl)))))
      (pss_one (ps_ret (pv 2)))))), ?_⟩
    refine ⟨.ref a, rfl, a, xs, rfl, ha.sq, fun d0 hd0 => ?_⟩
    refine dc_all (walk_enumT (xs := xs)) (fun i Hx => Same H Hx ∧ Hx d0 = some (.dK (placesV (ks.map (·.1)) i))) ⟨same_new hd0, upd_same⟩ (fun i Hx _ z => (ha.mono (tk_same z.1)).sq) (fun i x Hx Hy hi z y => ?_) (fun H1 z => ?_)
    · obtain ⟨sm, eD⟩ := z
      obtain ⟨T, x1, x2, rfl, hT, rfl, e1, e2⟩ := y
      obtain rfl := Option.some.inj e1
      obtain ⟨kd, hkd, ikd⟩ := all_get (ImAll.mono (tk_same sm) _ hx) e2
      obtain ⟨pk, u1, u2, rfl, hpk, iu1, iu2⟩ := im_pair ikd
      obtain rfl := iu1.str_inv
      have sT := same_new (o := .tup [.int (i : Nat), .ref pk]) hT
      have en : (ks.map (·.1)).getD i noS = kd.1 := by
        rw [List.getD_eq_getElem?_getD, List.getElem?_map, hkd]; rfl
      refine ⟨T, _, rfl, .of upd_same, rfl, .int (i : Nat), _, rfl, .ref pk, _, rfl, pk, _, rfl, (hpk.mono (tk_same sT)).sq, rfl, .str kd.1, _, rfl, u2, _, rfl, rfl, rfl, rfl, .str kd.1, rfl, .int (i : Nat), rfl, placesV (ks.map (·.1)) i, Sum.inr kd.1, rfl, sT _ _ eD, small1000 (by unfold placesV; rw [List.length_map, List.length_range]; omega), fun b o e => ?_, ?_⟩
      · rw [upd_ne (ne_of_none e hd0)]; exact sT _ _ (sm _ _ e)
      · rw [upd_same, placesV_succ, en]
        congr 2
        exact putK_new _ (by rw [← en]; exact places_new ok.nd (by omega))
    · obtain ⟨sm1, e0⟩ := z
      rw [lx] at e0
      refine fun d2 hd2 => ?_
      have n02 : d0 ≠ d2 := ne_of_none e0 hd2
      have s2 : Same H1 (upd H1 d2 (.dK [])) := same_new hd2
      have e2 : (upd H1 d2 (.dK [])) d2 = some (.dK []) := upd_same
      have e02 := s2 _ _ e0
      have sm2 := sm1.trans s2
      have hd20 : H d2 = none := sm1.free hd2
      generalize upd H1 d2 (.dK []) = H2 at *
      refine ⟨.ref a, rfl, a, xs, rfl, (ha.mono (tk_same sm2)).sq, ?_⟩
      refine for_it (walk_enumT (xs := xs)) (fun i σ Ha => ∃ (y3 y4 y5 y6 y7 y8 : Option V), σ = [some (.ref a), some (.ref d0), some (.ref d2), y3, y4, y5, y6, y7, y8, none, none] ∧ Same H Ha ∧ Ha d0 = some (.dK (placesV (ks.map (·.1)) ks.length)) ∧ TableAt K Ha d2 (rowsOf ks i)) ⟨_, _, _, _, _, _, rfl, sm2, e02, [], e2, rfl, .nil⟩ (fun i σ Ha _ z => ?_) ?_ ?_
      · obtain ⟨_, _, _, _, _, _, _, sm, _⟩ := z
        exact (ha.mono (tk_same sm)).sq
      · rintro i x σ Ha Hb hi ⟨y3, y4, y5, y6, y7, y8, rfl, sm, ed0, tb⟩ ⟨T, x1, x2, rfl, hT, rfl, e1, ex⟩
        obtain rfl := Option.some.inj e1
        obtain ⟨kd, hkd, ikd⟩ := all_get (ImAll.mono (tk_same sm) _ hx) ex
        have kmem := List.mem_of_getElem? hkd
        obtain ⟨pk, u1, u2, rfl, hpk, iu1, iu2⟩ := im_pair ikd
        obtain rfl := iu1.str_inv
        obtain ⟨pm, us, rfl, hpm, ius⟩ := iu2.tuple_inv
        have lus : us.length = kd.2.length := all_len ius
        have sT := same_new (o := .tup [.int (i : Nat), .ref pk]) hT
        refine ⟨T, _, rfl, .of upd_same, rfl, .int (i : Nat), _, rfl, .ref pk, _, rfl, pk, _, rfl, (hpk.mono (tk_same sT)).sq, rfl, .str kd.1, _, rfl, .ref pm, _, rfl, rfl, rfl, ?_⟩
        have hpmT := hpm.mono (tk_same sT)
        have iusT := ImAll.mono (tk_same sT) _ ius
        have smT := sm.trans sT
        have edT := sT _ _ ed0
        have tbT := tb.same sT
        generalize upd Ha T (.tup [.int (i : Nat), .ref pk]) = H3 at *
        refine ⟨.ref pm, rfl, pm, us, rfl, hpmT.sq, ?_⟩
        refine for_it (walk_enumT (xs := us)) (fun j σ Hb => ∃ (y6 y7 y8 : Option V), σ = [some (.ref a), some (.ref d0), some (.ref d2), some (.int (i : Nat)), some (.str kd.1), some (.ref pm), y6, y7, y8, none, none] ∧ Same H Hb ∧ ITup K Hb pm us ∧ ImAll K Hb us (kd.2.map mkD) ∧ Hb d0 = some (.dK (placesV (ks.map (·.1)) ks.length)) ∧ TableAt K Hb d2 (rowsOf ks i ++ (kindRows (ks.map (·.1)) i kd).take j)) ⟨_, _, _, rfl, smT, hpmT, iusT, edT, by rw [List.take_zero, List.append_nil]; exact tbT⟩ (fun j σ Hb _ z => ?_) ?_ ?_
        · obtain ⟨_, _, _, _, _, hp, _⟩ := z
          exact hp.sq
        · rintro j x σ Hb Hc hj ⟨y6, y7, y8, rfl, smb, hpmb, iub, edb, tbb⟩ ⟨T2, x1, x2, rfl, hT2, rfl, e1, ex⟩
          obtain rfl := Option.some.inj e1
          obtain ⟨m, hm, imm⟩ := all_get iub ex
          have mmem := List.mem_of_getElem? hm
          obtain ⟨pp, u1, u2, rfl, hpp, iu1, iu2⟩ := im_pair imm
          obtain rfl := iu1.str_inv
          obtain ⟨pf, fs, rfl, hpf, ifs⟩ := iu2.tuple_inv
          have efs := im_strs ifs
          have l4 := (ok.mkk _ kmem _ mmem).2
          have sT2 := same_new (o := .tup [.int (j : Nat), .ref pp]) hT2
          refine ⟨T2, _, rfl, .of upd_same, rfl, .int (j : Nat), _, rfl, .ref pp, _, rfl, pp, _, rfl, (hpp.mono (tk_same sT2)).sq, rfl, .str m.1, _, rfl, .ref pf, _, rfl, rfl, rfl, ?_⟩
          have hpf2 := hpf.mono (tk_same sT2)
          have smc := smb.trans sT2
          have edc := sT2 _ _ edb
          have tbc := tbb.same sT2
          have hpmc := hpmb.mono (tk_same sT2)
          have iuc := ImAll.mono (tk_same sT2) _ iub
          generalize upd Hb T2 (.tup [.int (j : Nat), .ref pp]) = H4 at *
          refine ⟨.int (i : Nat), rfl, .int (j : Nat), rfl, .ref pf, rfl, pf, rfl, ⟨_, hpf2.sq⟩, fun D hD => ?_⟩
          refine lc_all (walk_tup (xs := fs)) (fun t Hx => Same H4 Hx ∧ Hx D = some (.lst (((m.2.take t).map (placeOf (ks.map (·.1)))).map V.int))) ⟨same_new hD, upd_same⟩ (fun t Hx _ z => (hpf2.mono (tk_same z.1)).sq) (fun t x Hx Hy ht z y => ?_) (fun Hx z => ?_)
          · obtain ⟨s5, eD⟩ := z
            obtain ⟨rfl, hxt⟩ := y
            rw [efs] at hxt ht
            rw [List.length_map] at ht
            rw [List.getElem?_map] at hxt
            obtain ⟨f, hf, rfl⟩ := Option.map_eq_some_iff.mp hxt
            have ed5 := s5 _ _ edc
            refine ⟨rfl, .ref d0, rfl, d0, rfl, .inl ⟨_, .inl ed5⟩, .str f, rfl, _, .k (k := Sum.inr f) ed5, ?_⟩
            have pg := places_get ok.nd f
            rw [ln] at pg
            rw [pg]
            refine ⟨_, eD, small1000 (by rw [List.length_map, List.length_map, List.length_take]; omega), fun b o e => ?_, ?_⟩
            · rw [upd_ne (ne_of_none e hD)]; exact s5 _ _ e
            · rw [upd_same, List.take_add_one, hf, List.map_append, List.map_append]; rfl
          · obtain ⟨s5, eD⟩ := z
            rw [efs, List.length_map, List.take_of_length_le (Nat.le_refl _)] at eD
            refine ⟨D, _, rfl, .inl ⟨.of eD, fun l hl => ⟨by show 3 ≤ sizeLine; decide, fun T3 hT3 => ?_⟩⟩⟩
            have s6 := same_new (o := .tup ((m.2.map (placeOf (ks.map (·.1)))).map V.int)) hl
            have il : Im K (upd Hx l (.tup ((m.2.map (placeOf (ks.map (·.1)))).map V.int))) (.ref l) (.tuple ((m.2.map (placeOf (ks.map (·.1)))).map .int)) := .tup (.inl upd_same) (ints_im _)
            generalize upd Hx l (.tup ((m.2.map (placeOf (ks.map (·.1)))).map V.int)) = H6 at *
            have s7 := same_new (o := .tup [.int (i : Nat), .int (j : Nat), .ref l]) hT3
            have iT3 : Im K (upd H6 T3 (.tup [.int (i : Nat), .int (j : Nat), .ref l])) (.ref T3) (rowD (mkRow (ks.map (·.1)) i j m)) := .tup (.inl upd_same) (.cons (.int _) (.cons (.int _) (.cons (Im.mono (tk_same s7) _ il) .nil)))
            generalize upd H6 T3 (.tup [.int (i : Nat), .int (j : Nat), .ref l]) = H7 at *
            have s47 := (s5.trans s6).trans s7
            obtain ⟨kvs, ek, h1, h2⟩ := tbc.same s47
            have few2 := rows_few (fun k hk => (ok.mks k hk).2) i (by omega)
            have lk : kvs.length ≤ 100 := by
              have := congrArg List.length h1
              rw [List.length_map, List.length_map, List.length_append, List.length_take, kindRows_length] at this
              have := (ok.mks _ kmem).2
              omega
            refine ⟨.ref d2, rfl, .str m.1, rfl, d2, _, rfl, .k (k := Sum.inr m.1) ek (small1000 (by omega)), ?_⟩
            refine ⟨_, _, _, rfl, fun b o e => ?_, (hpmc.mono (tk_same s47)).mono (tk_dK ek), ImAll.mono ((tk_same s47).trans (tk_dK ek)) _ iuc, ?_, ?_⟩
            · rw [upd_ne (ne_of_none e hd20)]
              exact s47 _ _ (smc _ _ e)
            · rw [upd_ne n02]; exact s47 _ _ edc
            · rw [List.take_add_one, kindRows_at hm, ← List.append_assoc]
              exact TableAt.put (r := mkRow (ks.map (·.1)) i j m) ek h1 h2 (row_new ok.ndm hkd hm) iT3
        · rintro σ Hb ⟨y6, y7, y8, rfl, smb, hpmb, iub, edb, tbb⟩
          refine ⟨_, _, _, _, _, _, rfl, smb, edb, ?_⟩
          rw [rows_succ, show ks.getD i (noS, []) = kd by rw [List.getD_eq_getElem?_getD, hkd]; rfl]
          rw [lus, List.take_of_length_le (by rw [kindRows_length]; exact Nat.le_refl _)] at tbb
          exact tbb
      · rintro σ Ha ⟨y3, y4, y5, y6, y7, y8, rfl, sm, ed0, tb⟩
        rw [lx] at tb
        exact ⟨.ref d2, rfl, q d2 Ha sm hd20 tb⟩
end
end K63

set_option Elab.async false
set_option linter.all false
set_option maxRecDepth 100000
/-! several except clauses, with and without a name; defs that raise, by name -/
namespace Ly
open PySem PySem.Spec PyProof.Rows L2
abbrev Clause := Value × Option Nat × (Addr → Value → Option Addr → TS)
/-- what a clause's suite is read with -/
def endsAs (i : Nat) (D : Ends) : Ends := { nx := fun σ' H' => D.nx (σ'.set i none) H', rt := D.rt, bk := fun σ' H' => D.bk (σ'.set i none) H', ct := fun σ' H' => D.ct (σ'.set i none) H' }
def wL (K : PySem.W.Frag) (Wout : WX) (D : Ends) : List Clause → WX
  | [] => Wout
  | (c, none, ts) :: r => fun cls d σ H => ∃ b, PySem.W.exmOne K cls c = some b ∧ (b = true → ∀ a, H a = none → ts a cls d D σ H) ∧ (b = false → wL K Wout D r cls d σ H)
  | (c, some i, ts) :: r => fun cls d σ H => ∃ b, PySem.W.exmOne K cls c = some b ∧ (b = true → ∀ a, H a = none → ts a cls d (endsAs i D) (σ.set i (some (.ref a))) H) ∧ (b = false → wL K Wout D r cls d σ H)
inductive HdL (X : Cx) : List ExceptHandler → List Clause → Prop
  | nil : HdL X [] []
  | cons {x : Str} {c : Value} {ts : Addr → Value → Option Addr → TS} {b₀ : Stmt} {suite : List Stmt} {np pos' : Pos} {hds : List ExceptHandler} {l : List Clause} (hc : Names X x c)
      (hsu : ∀ (a : Addr) (oe : Obj) (cls : Value) (d : Option Addr) (pn : List (Addr × Obj)), Zc cls d oe → (∃ vs, oe.data = .fields vs) → PSs (X.suite a ((a, oe) :: pn)) (b₀ :: suite) (ts a cls d)) (r : HdL X hds l) :
      HdL X (.ExceptHandler (some (.Name x np)) none (b₀ :: suite) pos' :: hds) ((c, none, ts) :: l)
  | as {x n : Str} {i : Nat} {c : Value} {ts : Addr → Value → Option Addr → TS} {b₀ : Stmt} {suite : List Stmt} {np pos' : Pos} {hds : List ExceptHandler} {l : List Clause} (hN : X.N.Nodup) (hi : X.N[i]? = some n) (hln : X.env.kindOf n = some .local) (hc : Names X x c)
      (hsu : ∀ (a : Addr) (oe : Obj) (cls : Value) (d : Option Addr) (pn : List (Addr × Obj)), Zc cls d oe → (∃ vs, oe.data = .fields vs) → PSs (X.suite a ((a, oe) :: pn)) (b₀ :: suite) (ts a cls d)) (r : HdL X hds l) :
      HdL X (.ExceptHandler (some (.Name x np)) (some n) (b₀ :: suite) pos' :: hds) ((c, some i, ts) :: l)
section
variable {X : Cx} {body : List Stmt} {h₀ : ExceptHandler} {hds : List ExceptHandler} {l : List Clause} {pos : Pos} {tb : WX → TS} {Wout : WX}
theorem ps_try_list (hs : X.stack = X.env :: X.outer) (hf : X.env.frame = some X.env.locals) (tk : Takes X Wout)
    (hb : ∀ (W : WX) (pn : List (Addr × Obj)) (xe : Value → Shared → Prop), Takes (X.tr pn xe) W → PassesOwn (model X.prog X.w) X.A X.env xe → PSs (X.tr pn xe) body (tb W))
    (hh : HdL X (h₀ :: hds) l) : PS X (.Try body (h₀ :: hds) [] [] pos) (fun D σ H => tb (wL X.K Wout D l) D σ H) := by
  refine ⟨fun pins s σ H D I h => ?_⟩
  have ok := I.ok
  have hfr : X.A.frames = some (X.env :: X.outer) := by rw [ok.frames, hs]
  refine wpAny_Try_except ?_
  refine wpAny_mono ((hb (wL X.K Wout D l) (X.pn ++ pins) (fun e s₁ => wpAny (model X.prog X.w) X.A (noteFrame e X.env) (fun _ s₂ => wpAny (model X.prog X.w) X.A (setFlight e none) (fun _ s₃ =>
    wpAny (model X.prog X.w) X.A (handleBy e X.env (h₀ :: hds)) (SP X pins D) X.xe s₃) X.xe s₂) X.xe s₁) (fun u s' xx => ?_) PassesOwn.looking).run [] s σ H D (I.toTry _) h) (fun f s1 hsp => ?_) (fun e s1 he => he)
  · obtain ⟨a, B, sI, pins', σ', H', cls, d, rfl, J', nb, up, sky, na, os, ag, w⟩ := xx
    have J : Inv X pins σ' H' sI := J'.ofTry ok
    have sky' : Sky B (X.env :: X.outer) a (Zc cls d) X.env.locals s'.heap := by rw [← hs]; exact sky
    show wpAny (model X.prog X.w) X.A (noteFrame (.ref a) X.env) _ _ _
    refine Sky.land Zc.steady hfr hf sky' fun h3 fl3 up3 => ?_
    have J3 : Inv X pins σ' H' { s' with heap := h3 } := J.landed nb fl3.1 (up.trans up3) os ag
    obtain ⟨oe3, vs3, he3, hz3, hd3⟩ := fl3.there
    have notFr : ∀ {h : Heap} {o : Obj} {vs : Array Value}, h.FunFrames B (X.env :: X.outer) → h.get? a = some o → o.data = .fields vs → a ∉ frs (X.env :: X.outer) := fun {h o vs} ff e dd hm => by
      obtain ⟨_, o', e', hnf⟩ := ff.mem hm
      rw [e] at e'; cases e'
      exact hnf _ dd
    have nfr := notFr fl3.2.2.1 he3 hd3
    have nL : a ≠ X.env.locals := fun z => nfr (List.mem_filterMap.mpr ⟨X.env, List.mem_cons_self, by rw [hf, z]⟩)
    have nF : a ∉ X.fs := fun hm => by
      obtain ⟨e, he, q⟩ := List.mem_filterMap.mp hm
      exact nfr (List.mem_filterMap.mpr ⟨e, List.mem_cons_of_mem _ he, q⟩)
    have S3 := J3.suite he3 hd3 na nL nF
    have LT : PySem.W.Looks (model X.prog X.w) h3 (typeOf (.ref a)) cls := fun A Q E s k q => wpAny_typeOf_ref (k _ _ he3) (by rw [hz3.1]; exact q)
    have test : ∀ {x : Str} {c : Value} {np : Pos} {Q : Value → Shared → Prop} {E : Value → Shared → Prop}, Names X x c → Q c { s' with heap := h3 } → wpAny (model X.prog X.w) (X.A.mark (some (.ref a))) (eval (.Name x np) X.env) Q E { s' with heap := h3 } := fun {x c np Q E} hc q => by
      obtain ⟨hg, hdbg, hm | ⟨hm, hv, hnn⟩⟩ := hc
      · exact ld_glob (X := X.suite a ((a, oe3) :: (X.pn ++ pins))) S3 hg hm q hdbg
      · exact ld_blt (X := X.suite a ((a, oe3) :: (X.pn ++ pins))) S3 hg hm hv q hnn hdbg
    have go : ∀ {hds' : List ExceptHandler} {l' : List Clause}, HdL X hds' l' → wL X.K Wout D l' cls d σ' H' →
        wpAny (model X.prog X.w) X.A (handleBy (.ref a) X.env hds') (SP X pins D) X.xe { s' with heap := h3 } := by
      intro hds' l' hk
      induction hk with
      | nil =>
        intro w
        refine wpAny_handleBy_nil ?_
        obtain ⟨k1, k2, k3, oe, vs, T, oT, ts', he, hz, hd, h1, hr⟩ := id fl3
        unfold PySem.passOn
        refine wpAny_bind (wpAny_field he hd h1 ?_)
        rw [if_neg (show ¬ ((Value.ref T == Value.none) = true) from by simp)]
        have fin : wpAny (model X.prog X.w) X.A (setFlight (.ref a) X.env.frame) (fun _ s4 => wpAny (model X.prog X.w) X.A (throw (.ref a) : Sem Flow) (SP X pins D) X.xe s4) X.xe { s' with heap := h3 } := by
          rw [hf]
          refine HandSPX.setFlight_upZ fl3 fun h4 hh4 up4 => wpAny_throw (tk _ _ ?_)
          exact ⟨a, B, sI, pins, σ', H', cls, d, rfl, J, nb, (up.trans up3).trans up4, .inr (.inr (by rw [hs]; exact hh4)), na, os, ag, w⟩
        first
          | exact wpAny_bind (wpAny_pure (wpAny_bind fin))
          | exact wpAny_bind fin
      | @cons x c ts b₀ suite np pos' hds2 l2 hc hsu r ih =>
        intro w
        obtain ⟨b, hb1, hyes, hno⟩ := w
        refine wpAny_handleBy_cons (codeAny_handlers_test ?_) (by intro q; cases q)
        have LM := PySem.W.exm_one (M := model X.prog X.w) (J3.kIn) LT hb1
        refine test hc (LM.here ?_)
        cases b with
        | true =>
          refine codeAny_handlers_suite ?_
          refine HandSPX.lands_againZ fl3 fun h4 fl4 up4 => ?_
          have J4 : Inv X pins σ' H' { s' with heap := h4 } := J.landed nb fl4.1 ((up.trans up3).trans up4) os ag
          obtain ⟨oe4, vs4, he4, hz4, hd4⟩ := fl4.there
          have S4 := J4.suite he4 hd4 na nL nF
          refine wpAny_mono ((hsu a oe4 cls d (X.pn ++ pins) hz4 ⟨_, hd4⟩).run [] _ _ H' _ S4 (hyes rfl a na)) (fun f s6 hsp => ?_) (fun _ _ z => False.elim z)
          cases f with
          | next =>
            obtain ⟨σ6, H6, S6, q6⟩ := hsp
            exact ⟨_, _, S6.unsuite ok, q6⟩
          | brk =>
            obtain ⟨σ6, H6, S6, q6⟩ := hsp
            exact ⟨_, _, S6.unsuite ok, q6⟩
          | cont =>
            obtain ⟨σ6, H6, S6, q6⟩ := hsp
            exact ⟨_, _, S6.unsuite ok, q6⟩
          | ret u =>
            obtain ⟨v6, σ6, H6, S6, r6, q6⟩ := hsp
            exact ⟨_, _, _, S6.unsuite ok, r6, q6⟩
        | false =>
          show wpAny _ X.A (handleBy (.ref a) X.env hds2) _ _ _
          exact ih (hno rfl)
      | @as x n i c ts b₀ suite np pos' hds2 l2 hN hi hln hc hsu r ih =>
        intro w
        obtain ⟨b, hb1, hyes, hno⟩ := w
        have hloc : Loc X.env.scope n := .inl hln
        refine wpAny_handleBy_cons (codeAny_handlers_test ?_) (by intro q; cases q)
        have LM := PySem.W.exm_one (M := model X.prog X.w) (J3.kIn) LT hb1
        refine test hc (LM.here ?_)
        cases b with
        | true =>
          refine codeAny_handlers_suite_as ?_
          refine HandSPX.lands_againZ fl3 fun h4 fl4 up4 => ?_
          have J4 : Inv X pins σ' H' { s' with heap := h4 } := J.landed nb fl4.1 ((up.trans up3).trans up4) os ag
          obtain ⟨oe4, vs4, he4, hz4, hd4⟩ := fl4.there
          have S4 := J4.suite he4 hd4 na nL nF
          refine store_ok (X := X.suite a ((a, oe4) :: (X.pn ++ pins))) (v := .ref a) S4 hN hi hloc rfl (fun s5 S5 => ?_) (.inr hln)
          refine wpAny_mono ((hsu a oe4 cls d (X.pn ++ pins) hz4 ⟨_, hd4⟩).run [] s5 _ H' _ S5 (hyes rfl a na)) (fun f s6 hsp => ?_) (fun _ _ z => False.elim z)
          have end_ : ∀ {σ6 : L2.St} {H6 : Hp} {Q : Shared → Prop}, Inv (X.suite a ((a, oe4) :: (X.pn ++ pins))) [] σ6 H6 s6 → (∀ s7, Inv X pins (σ6.set i none) H6 s7 → Q s7) →
              wpAny (model X.prog X.w) X.A (do bindName X.env n .none; unbindBehindTheSuite X.env n pos') (fun _ s7 => Q s7) X.xe s6 := fun {σ6 H6 Q} S6 hq => gone_ok (S6.unsuite ok) hN hi hln hq
          cases f with
          | next =>
            obtain ⟨σ6, H6, S6, q6⟩ := hsp
            exact end_ S6 fun s7 J7 => ⟨_, _, J7, q6⟩
          | brk =>
            obtain ⟨σ6, H6, S6, q6⟩ := hsp
            exact end_ S6 fun s7 J7 => ⟨_, _, J7, q6⟩
          | cont =>
            obtain ⟨σ6, H6, S6, q6⟩ := hsp
            exact end_ S6 fun s7 J7 => ⟨_, _, J7, q6⟩
          | ret u =>
            obtain ⟨v6, σ6, H6, S6, r6, q6⟩ := hsp
            exact end_ S6 fun s7 J7 => ⟨_, _, _, J7, r6, q6⟩
        | false =>
          show wpAny _ X.A (handleBy (.ref a) X.env hds2) _ _ _
          exact ih (hno rfl)
    exact go hh w
  · cases f with
    | next =>
      obtain ⟨σ', H', J', q⟩ := hsp
      exact wpAny_execs_nil ⟨σ', H', J'.ofTry ok, q⟩
    | brk =>
      obtain ⟨σ', H', J', q⟩ := hsp
      exact ⟨σ', H', J'.ofTry ok, q⟩
    | cont =>
      obtain ⟨σ', H', J', q⟩ := hsp
      exact ⟨σ', H', J'.ofTry ok, q⟩
    | ret u =>
      obtain ⟨v, σ', H', J', r, q⟩ := hsp
      exact ⟨v, σ', H', J'.ofTry ok, r, q⟩
end
/-! ### defs that raise, by their names -/
section
variable (P : Program) (w : World) (K : PySem.W.Frag) (mg : Str → Option Value) (base : Heap)
structure DefX (k : Nat) (x : Str) (st : Stmt) (ps : List Str) (sp : Sp) : Prop where
  ex : ∃ (f : Addr) (fd : FuncData), FnOk P w K mg base (L2.CX P w) k f fd ps sp ∧ mg x = some (.ref f) ∧ PySem.W.keepIn K (.ref f) = true ∧ L2.Binds K fd ps [] ∧ Fun K x x st f fd
end
section
variable {X : Cx} {k : Nat} {x : Str} {st : Stmt} {ps : List Str} {sp : Sp} {p pos : Pos} {e : Expr} {es : List Expr} {t : TA} {W : WX}
theorem pe_defX (O : DefX X.prog X.w X.K X.mg X.base k x st ps sp) (tk : Takes X W) (hr : Room k X.A) (hg : Gl X x) (ha : PA X (e :: es) t) (hdb : (x == ("__debug__" : Str)) = false := by decide)
    (he : starEach (e :: es) X.env = (false, eval e X.env) :: starEach es X.env := by rfl) (hpl : (backTo pos (starEach es X.env)).any (·.1) = false := by rfl) :
    PE X (.Call (.Name x p) (e :: es) [] pos) (tCallS sp (WE W) t) := by
  obtain ⟨f, fd, F, hm, hk, hb, _⟩ := O.ex
  exact pe_callS F hr hg hm hk hb (fun σ => passAt tk σ) ha hdb he hpl
end
section
variable {P : Program} {w : World} {K : PySem.W.Frag} {mg : Str → Option Value} {base : Heap}
theorem Here.toDefX {x : Str} {st : Stmt} {k : Nat} {ps : List Str} {sp : Sp} (z : Here K mg x st) (ok : ∀ {f : Addr} {fd : FuncData}, Fun K x x st f fd → FnOk P w K mg base (L2.CX P w) k f fd ps sp)
    (b : ∀ (kV doc pm : Value) (an : Option Addr) (cdv ct : Value) (us : List Value), us.length = ps.length → bindArgs (PySem.W.fnOf x x (defArgs st) (defBody st) (defScope st) .none kV doc pm an cdv ct) ⟨us, []⟩ = pure (ps.zip us)) : DefX P w K mg base k x st ps sp := by
  obtain ⟨f, fd, hm, F⟩ := z
  exact ⟨f, fd, ok F, hm, F.kp, F.binds b, F⟩
end
section
variable {K : PySem.W.Frag}
/-- isinstance of the error that the suite holds -/
def rIsX (K : PySem.W.Frag) (cls : Value) (d : Option Addr) (a : Addr) : List V → Hp → VK → Prop := fun xs H Q => ∃ (D : Addr) (c : V) (cv : Value) (b : Bool), cls = .ref D ∧ d = none ∧ ExcC K D ∧ xs = [.ref a, c] ∧ (∀ u, RelV c u → u = cv) ∧ PySem.W.kitOne K (.ref D) cv = some b ∧ Q (.bl b) H
theorem call_isX {X : Cx} {a : Addr} {cls : Value} {d : Option Addr} {oe : Obj} {pn : List (Addr × Obj)} (hz : Zc cls d oe) (hf : ∃ vs, oe.data = .fields vs) : CallR (X.suite a ((a, oe) :: pn)) (.builtin "isinstance") (rIsX X.K cls d a) := by
  intro pins s σ H xs us Q I r h
  obtain ⟨D, c, cv, b, rfl, rfl, E, h⟩ := h
  exact call_isE E hz hf pins s σ H xs us Q I r ⟨c, cv, b, h⟩
end
end Ly

set_option Elab.async false
set_option linter.all false
set_option maxRecDepth 100000
set_option exponentiation.threshold 20000
set_option pp.deepTerms false
set_option pp.deepTerms.threshold 8
namespace K63
open PySem PySem.Spec PyProof.Rows L2 Ly Mt
theorem divInt_flip (t b : Int) : Rat.divInt (-t) (-b) = Rat.divInt t b := by
  rw [Rat.neg_divInt_neg]
section
variable {P : Program} {w : World} {K : PySem.W.Frag} {mg : Str → Option Value} {base : Heap}
abbrev s_made : Stmt := topS 24
theorem sc_made : FnScope ["top", "bottom", "common"] ["top", "bottom"] (defScope s_made) := ⟨rfl, rfl, rfl, by decide +kernel, rfl, by decide +kernel, by decide +kernel⟩
def sp_made : Sp := fun vs H Q _ => ∃ t b, vs = [.int t, .int b] ∧ b ≠ 0 ∧ b.natAbs < 2 ^ 9000 ∧ ∀ p, H p = none → Q (.ref p) (upd H p (.tup [.int (Rat.divInt t b).num, .int ((Rat.divInt t b).den : Int)]))
theorem ok_made {f : Addr} {fd : FuncData} {k : Nat} (F : Fun K "made" "made" s_made f fd) (T : Tx K mg) : FnOk P w K mg base CX0 (k + 1) f fd ["top", "bottom"] sp_made := by
  have nd := sc_made.nd
  refine F.ok sc_made (fun vs H Q E h => ?_) (fun cdv A outer s H vs Q E hr h => ?_)
  · obtain ⟨i, xs, rfl, _⟩ := h
    rfl
  · obtain ⟨t, b, rfl, hb, hs, q⟩ := h
    refine ⟨_, (C8.pss_cut (ps_if (pt_cmpR op_lt (pv 1) pe_int (nomark _))
        (pss_one (ps_par (i := 0) (j := 1) (by rfl) nd rfl rfl (by decide) rfl rfl (pa_cons (pe_un un_neg (pv 0)) (pa_cons (pe_un un_neg (pv 1)) pa_nil)) (by rfl)))
        pss_nil)
      (pss_cons (ps_set (i := 2) nd rfl (.inl rfl) (pe_callBfun cr_gcd (by rfl) T.g_gcd (pa_cons (pv 0) (pa_cons (pv 1) pa_nil))))
      (pss_one (ps_ret (pe_tup (pa_cons (pe_op op_fdivW (pv 0) (pv 2)) (pa_cons (pe_op op_fdivW (pv 1) (pv 2)) pa_nil))))))), ?_⟩
    refine ⟨fun σ' H' => H' = H ∧ ∃ t' b', σ' = [some (.int t'), some (.int b'), none] ∧ 0 < b' ∧ b'.natAbs < 2 ^ 9000 ∧ Rat.divInt t' b' = Rat.divInt t b, ?_, ?_⟩
    · refine ⟨.int b, rfl, _, _, rfl, rfl, _, rfl, ?_⟩
      by_cases h0 : b < 0
      · rw [decide_eq_true h0]
        exact iteT ⟨.int t, rfl, t, rfl, .int b, rfl, b, rfl, _, _, rfl, rfl, -t, -b, rfl, by omega, by rw [Int.natAbs_neg]; exact hs, divInt_flip t b⟩
      · rw [decide_eq_false h0]
        exact iteF ⟨rfl, t, b, rfl, by omega, hs, rfl⟩
    · rintro σ' H' ⟨rfl, t', b', rfl, hb', hs', e⟩
      refine ⟨.int t', rfl, .int b', rfl, t', b', rfl, ?_⟩
      have c := wide_div (i := t') (gcd_pos (t := t') hb') (Nat.lt_of_le_of_lt (gcd_le hb') hs') (by decide) (Nat.le_refl _)
      have c' := wide_div (i := b') (gcd_pos (t := t') hb') (Nat.lt_of_le_of_lt (gcd_le hb') hs') (by decide) (Nat.le_refl _)
      refine ⟨.int t', rfl, .int _, rfl, _, _, rfl, rfl, c, .int b', rfl, .int _, rfl, _, _, rfl, rfl, c', by show 2 ≤ sizeLine; decide, fun p hp => ?_⟩
      have z := q p hp
      rw [← e, ← made_num hb', ← made_den hb'] at z
      exact z
abbrev s_plus : Stmt := topS 26
theorem sc_plus : FnScope ["one", "other"] ["one", "other"] (defScope s_plus) := ⟨rfl, rfl, rfl, by decide +kernel, rfl, by decide +kernel, by decide +kernel⟩
def sp_plus (K : PySem.W.Frag) : Sp := fun vs H Q _ => ∃ v u x y, vs = [v, u] ∧ Im K H v (rD x) ∧ Im K H u (rD y) ∧ Bd 2900 2900 x ∧ Bd 5800 5800 y ∧ ∀ p H', Same H H' → H p = none → Im K H' (.ref p) (rD (x + y)) → Q (.ref p) H'
theorem ok_plus {f : Addr} {fd : FuncData} {k : Nat} (F : Fun K "plus" "plus" s_plus f fd) (T : Tx K mg){ki : Nat} (D_made : Def P w K mg base ki "made" s_made ["top", "bottom"] sp_made) (hk : ki ≤ k) : FnOk P w K mg base CX0 (k + 1) f fd ["one", "other"] (sp_plus K) := by
  have nd := sc_plus.nd
  refine F.ok sc_plus (fun vs H Q E h => ?_) (fun cdv A outer s H vs Q E hr h => ?_)
  · obtain ⟨i, xs, _, _, rfl, _⟩ := h
    rfl
  · obtain ⟨v, u, x, y, rfl, hv, hu, bx, bw, q⟩ := h
    obtain ⟨a, rfl, ha⟩ := rat_inv hv
    obtain ⟨b, rfl, hb⟩ := rat_inv hu
    refine ⟨_, (pss_one (ps_ret (pe_def D_made (hr.mono (by omega)) rfl (pa_cons (pe_op op_add (pe_op op_mulW (pe_ix (kix_tup K) (pv 0) pe_int (fun _ _ => rfl)) (pe_ix (kix_tup K) (pv 1) pe_int (fun _ _ => rfl))) (pe_op op_mulW (pe_ix (kix_tup K) (pv 1) pe_int (fun _ _ => rfl)) (pe_ix (kix_tup K) (pv 0) pe_int (fun _ _ => rfl)))) (pa_cons (pe_op op_mulW (pe_ix (kix_tup K) (pv 0) pe_int (fun _ _ => rfl)) (pe_ix (kix_tup K) (pv 1) pe_int (fun _ _ => rfl))) pa_nil))))), ?_⟩
    refine ⟨.ref a, rfl, a, _, 0, _, rfl, rfl, ha.sq, atI_nat (j := 0) rfl, .ref b, rfl, b, _, 1, _, rfl, rfl, hb.sq, atI_nat (j := 1) rfl, _, _, rfl, rfl, wide_mul bx.1 bw.2 (by decide) (by decide) (by decide), ?_⟩
    refine ⟨.ref b, rfl, b, _, 0, _, rfl, rfl, hb.sq, atI_nat (j := 0) rfl, .ref a, rfl, a, _, 1, _, rfl, rfl, ha.sq, atI_nat (j := 1) rfl, _, _, rfl, rfl, wide_mul bw.1 bx.2 (by decide) (by decide) (by decide), ?_⟩
    refine ⟨_, _, rfl, rfl, ?_⟩
    refine ⟨.ref a, rfl, a, _, 1, _, rfl, rfl, ha.sq, atI_nat (j := 1) rfl, .ref b, rfl, b, _, 1, _, rfl, rfl, hb.sq, atI_nat (j := 1) rfl, _, _, rfl, rfl, wide_mul bx.2 bw.2 (by decide) (by decide) (by decide), ?_⟩
    refine ⟨_, _, rfl, Int.ne_of_gt (Int.mul_pos (den_pos x) (den_pos y)), lt_up (lt_mul bx.2 bw.2) (by decide), fun p hp => ?_⟩
    rw [add_as]
    exact q p _ (same_new hp) hp (rat_mk (.inl upd_same))
abbrev s_times : Stmt := topS 27
theorem sc_times : FnScope ["one", "other"] ["one", "other"] (defScope s_times) := ⟨rfl, rfl, rfl, by decide +kernel, rfl, by decide +kernel, by decide +kernel⟩
def sp_times (K : PySem.W.Frag) : Sp := fun vs H Q _ => ∃ v u x y, vs = [v, u] ∧ Im K H v (rD x) ∧ Im K H u (rD y) ∧ Bd 4400 4400 x ∧ Bd 4400 4400 y ∧ ∀ p H', Same H H' → H p = none → Im K H' (.ref p) (rD (x * y)) → Q (.ref p) H'
theorem ok_times {f : Addr} {fd : FuncData} {k : Nat} (F : Fun K "times" "times" s_times f fd) (T : Tx K mg){ki : Nat} (D_made : Def P w K mg base ki "made" s_made ["top", "bottom"] sp_made) (hk : ki ≤ k) : FnOk P w K mg base CX0 (k + 1) f fd ["one", "other"] (sp_times K) := by
  have nd := sc_times.nd
  refine F.ok sc_times (fun vs H Q E h => ?_) (fun cdv A outer s H vs Q E hr h => ?_)
  · obtain ⟨i, xs, _, _, rfl, _⟩ := h
    rfl
  · obtain ⟨v, u, x, y, rfl, hv, hu, bx, bw, q⟩ := h
    obtain ⟨a, rfl, ha⟩ := rat_inv hv
    obtain ⟨b, rfl, hb⟩ := rat_inv hu
    refine ⟨_, (pss_one (ps_ret (pe_def D_made (hr.mono (by omega)) rfl (pa_cons (pe_op op_mulW (pe_ix (kix_tup K) (pv 0) pe_int (fun _ _ => rfl)) (pe_ix (kix_tup K) (pv 1) pe_int (fun _ _ => rfl))) (pa_cons (pe_op op_mulW (pe_ix (kix_tup K) (pv 0) pe_int (fun _ _ => rfl)) (pe_ix (kix_tup K) (pv 1) pe_int (fun _ _ => rfl))) pa_nil))))), ?_⟩
    refine ⟨.ref a, rfl, a, _, 0, _, rfl, rfl, ha.sq, atI_nat (j := 0) rfl, .ref b, rfl, b, _, 0, _, rfl, rfl, hb.sq, atI_nat (j := 0) rfl, _, _, rfl, rfl, wide_mul bx.1 bw.1 (by decide) (by decide) (by decide), ?_⟩
    refine ⟨.ref a, rfl, a, _, 1, _, rfl, rfl, ha.sq, atI_nat (j := 1) rfl, .ref b, rfl, b, _, 1, _, rfl, rfl, hb.sq, atI_nat (j := 1) rfl, _, _, rfl, rfl, wide_mul bx.2 bw.2 (by decide) (by decide) (by decide), ?_⟩
    refine ⟨_, _, rfl, Int.ne_of_gt (Int.mul_pos (den_pos x) (den_pos y)), lt_up (lt_mul bx.2 bw.2) (by decide), fun p hp => ?_⟩
    rw [mul_as]
    exact q p _ (same_new hp) hp (rat_mk (.inl upd_same))
abbrev s_opposite : Stmt := topS 28
theorem sc_opposite : FnScope ["one"] ["one"] (defScope s_opposite) := ⟨rfl, rfl, rfl, by decide +kernel, rfl, by decide +kernel, by decide +kernel⟩
def sp_opposite (K : PySem.W.Frag) : Sp := fun vs H Q _ => ∃ v x, vs = [v] ∧ Im K H v (rD x) ∧ ∀ p H', Same H H' → H p = none → Im K H' (.ref p) (rD (-x)) → Q (.ref p) H'
theorem ok_opposite {f : Addr} {fd : FuncData} {k : Nat} (F : Fun K "opposite" "opposite" s_opposite f fd) (T : Tx K mg) : FnOk P w K mg base CX0 (k + 1) f fd ["one"] (sp_opposite K) := by
  have nd := sc_opposite.nd
  refine F.ok sc_opposite (fun vs H Q E h => ?_) (fun cdv A outer s H vs Q E hr h => ?_)
  · obtain ⟨i, xs, rfl, _⟩ := h
    rfl
  · obtain ⟨v, x, rfl, hv, q⟩ := h
    obtain ⟨a, rfl, ha⟩ := rat_inv hv
    refine ⟨_, (pss_one (ps_ret (pe_tup (pa_cons (pe_un un_neg (pe_ix (kix_tup K) (pv 0) pe_int (fun _ _ => rfl))) (pa_cons (pe_ix (kix_tup K) (pv 0) pe_int (fun _ _ => rfl)) pa_nil))))), ?_⟩
    refine ⟨.ref a, rfl, a, _, 0, _, rfl, rfl, ha.sq, atI_nat (j := 0) rfl, _, rfl, .ref a, rfl, a, _, 1, _, rfl, rfl, ha.sq, atI_nat (j := 1) rfl, by show 2 ≤ sizeLine; decide, fun p hp => q p _ (same_new hp) hp (rat_mk ?_)⟩
    rw [Rat.neg_num, Rat.neg_den]
    exact .inl upd_same

abbrev s_whole : Stmt := topS 25
theorem sc_whole : FnScope ["number"] ["number"] (defScope s_whole) := ⟨rfl, rfl, rfl, by decide +kernel, rfl, by decide +kernel, by decide +kernel⟩
def sp_whole (K : PySem.W.Frag) : Sp := fun vs H Q _ => ∃ (i : Int), vs = [.int i] ∧ ∀ p H', Same H H' → H p = none → Im K H' (.ref p) (rD (i : Rat)) → Q (.ref p) H'
theorem ok_whole {f : Addr} {fd : FuncData} {k : Nat} (F : Fun K "whole" "whole" s_whole f fd) (T : Tx K mg) : FnOk P w K mg base CX0 (k + 1) f fd ["number"] (sp_whole K) := by
  have nd := sc_whole.nd
  refine F.ok sc_whole (fun vs H Q E h => ?_) (fun cdv A outer s H vs Q E hr h => ?_)
  · obtain ⟨i, rfl, _⟩ := h
    rfl
  · obtain ⟨i, rfl, q⟩ := h
    refine ⟨_, (pss_one (ps_ret (pe_tup (pa_cons (pv 0) (pa_cons pe_int pa_nil))))), ?_⟩
    exact ⟨.int i, rfl, by show 2 ≤ sizeLine; decide, fun p hp => q p _ (same_new hp) hp (rat_mk (q := (i : Rat)) (.inl upd_same))⟩
end
end K63

set_option Elab.async false
set_option linter.all false
set_option maxRecDepth 100000
set_option exponentiation.threshold 20000
set_option pp.deepTerms false
set_option pp.deepTerms.threshold 8
namespace K63
open PySem PySem.Spec PyProof.Rows L2 Ly Mt
/-! ### forms as data -/
abbrev Tm := Nat × List Nat × Rat
abbrev Rd := Str × Str × List Rat
def nD (n : Nat) : PyData := .int (n : Int)
def nsD (ns : List Nat) : PyData := .tuple (ns.map nD)
def tmD (t : Tm) : PyData := .tuple [nD t.1, nsD t.2.1, rD t.2.2]
def tsD (ts : List Tm) : PyData := .tuple (ts.map tmD)
def mrD (r : List (List Tm)) : PyData := .tuple (r.map tsD)
def mpD (m : List (List (List Tm))) : PyData := .tuple (m.map mrD)
def rdD (r : Rd) : PyData := .tuple [.str r.1, .str r.2.1, vD r.2.2]
def rdsD (rs : List Rd) : PyData := .tuple (rs.map rdD)
structure Form where
  ks : List Kd
  dims : List Nat
  maps : List (List (List Tm))
  rds : List Rd
def fmD (F : Form) : PyData := .tuple [ksD F.ks, nsD F.dims, mpD F.maps, rdsD F.rds]
/-- the width of a field -/
def wd (ns : List Str) (dims : List Nat) (f : Str) : Nat := if f ∈ ns then dims.getD (ns.idxOf f) 0 else 2
def keyT (t : Tm) : PyData := .tuple [nD t.1, nsD t.2.1]
structure TermOk (dim : Nat) (ws : List Nat) (t : Tm) : Prop where
  row : t.1 < dim
  len : t.2.1.length = ws.length
  cols : ∀ (i c w : Nat), t.2.1[i]? = some c → ws[i]? = some w → c < w
  nz : t.2.2 ≠ 0
structure TermsOk (dim : Nat) (ws : List Nat) (most : Nat) (ts : List Tm) : Prop where
  few : ts.length ≤ most
  each : ∀ t ∈ ts, TermOk dim ws t
  asc : ∀ (i : Nat) a b, ts[i]? = some a → ts[i + 1]? = some b → PySem.W.dataLt (keyT a) (keyT b) = true
structure ReadsOk (ns : List Str) (dims : List Nat) (rs : List Rd) : Prop where
  few : rs.length ≤ 60
  low : ∀ r ∈ rs, NameOk r.1 ∧ ∃ c, r.1.cps[0]? = some c ∧ lowC c = true
  nd : (rs.map (·.1)).Nodup
  kind : ∀ r ∈ rs, r.2.1 ∈ ns ∧ r.2.2.length = dims.getD (ns.idxOf r.2.1) 0
structure FormOk (wide : Nat) (F : Form) : Prop where
  wid : wide ≤ 2
  kinds : KindsOk F.ks
  ld : F.dims.length = F.ks.length
  hd : ∀ d ∈ F.dims, d ≤ 16 * wide
  sd : F.dims.sum ≤ 32 * wide
  lm : F.maps.length = F.ks.length
  lr : ∀ (i : Nat) kd row, F.ks[i]? = some kd → F.maps[i]? = some row → row.length = kd.2.length
  tm : ∀ (i : Nat) kd row, F.ks[i]? = some kd → F.maps[i]? = some row → ∀ (j : Nat) m ts, kd.2[j]? = some m → row[j]? = some ts → TermsOk (F.dims.getD i 0) (m.2.map (wd (F.ks.map (·.1)) F.dims)) (4000 * wide) ts
  rd : ReadsOk (F.ks.map (·.1)) F.dims F.rds
theorem im_nats {K : PySem.W.Frag} {H : Hp} : ∀ {xs : List V} {ns : List Nat}, ImAll K H xs (ns.map nD) → xs = ns.map (fun n => V.int (n : Nat))
  | _, [], h => by obtain rfl := h.nil_inv; rfl
  | _, n :: ns, h => by
    obtain ⟨x, r, rfl, i1, hr⟩ := h.cons_inv
    rw [i1.int_inv, im_nats hr]; rfl
theorem nats_im {K : PySem.W.Frag} {H : Hp} : ∀ (ns : List Nat), ImAll K H (ns.map (fun n => V.int (n : Nat))) (ns.map nD)
  | [] => .nil
  | n :: ns => .cons (.int _) (nats_im ns)
theorem im_ints {K : PySem.W.Frag} {H : Hp} : ∀ {xs : List V} {ns : List Int}, ImAll K H xs (ns.map .int) → xs = ns.map V.int
  | _, [], h => by obtain rfl := h.nil_inv; rfl
  | _, n :: ns, h => by
    obtain ⟨x, r, rfl, i1, hr⟩ := h.cons_inv
    rw [i1.int_inv, im_ints hr]; rfl
theorem nats_sum : ∀ ns : List Nat, (ns.map (fun n : Nat => (n : Int))).sum = (ns.sum : Nat)
  | [] => rfl
  | n :: ns => by rw [List.map_cons, List.sum_cons, List.sum_cons, nats_sum ns]; omega
theorem jRatio_rD (q : Rat) : jRatio (rD q) = true := by
  show (decide (1 ≤ (q.den : Int)) && decide (Nat.gcd q.num.natAbs ((q.den : Int)).natAbs = 1)) = true
  rw [decide_eq_true (show 1 ≤ (q.den : Int) from den_pos q), decide_eq_true (cop q)]; rfl
theorem rep_all (n : Nat) : (List.replicate n true).all id = true := by simp
/-- a comprehension of which each turn gives True -/
theorem lc_yes {J : It} {n : Nat} {G : Hp → Prop} {Y : Nat → Hp → V → Hp → Prop} (w : Walk J n G Y) {g : TG} {te : TE} {vs : List Nat} {σ : L2.St} {H : Hp} {D : Addr} {Qd : Hp → Prop} (hD : H D = none) (hn : n < sizeLine) (hG : ∀ H', Same H H' → G H')
    (hs : ∀ i x H2 H3 (R : VK), i < n → Same H H2 → Y i H2 x H3 → (∀ H5, Same H2 H5 → R (.bl true) H5) → g x (wipe σ vs) H3 fun σ2 H4 => wipe σ2 vs = wipe σ vs ∧ te σ2 H4 R)
    (hd : ∀ H', Same H H' → H' D = some (.lst ((List.replicate n true).map V.bl)) → Qd H') :
    ∃ W : Nat → Nat → Hp → Prop, (∃ m, W 0 m (upd H D (.lst []))) ∧ ∀ i m H, W i m H →
      (J.stop i H ∧ Qd H) ∨ (J.go i H ∧ ∃ Nx : Hp → Prop, (∀ H', Nx H' → ∃ m', m' < m ∧ W (i + 1) m' H') ∧ ∀ x H', J.yld i H x H' → g x (wipe σ vs) H' fun σ2 H2 => wipe σ2 vs = wipe σ vs ∧ tYes σ2 H2 fun b H3 =>
        if b = true then te σ2 H3 fun y H4 => ∃ acc, H4 D = some (.lst acc) ∧ acc.length < sizeLine ∧ Nx (upd H4 D (.lst (acc ++ [y]))) else Nx H3) := by
  refine lc_all w (fun i H2 => Same H H2 ∧ H2 D = some (.lst ((List.replicate i true).map V.bl))) ⟨same_new hD, upd_same⟩ (fun i H2 _ z => hG H2 z.1) (fun i x H2 H3 hi z y => ?_) (fun H2 z => hd H2 z.1 z.2)
  obtain ⟨s2, e2⟩ := z
  refine hs i x H2 H3 _ hi s2 y fun H5 s5 => ?_
  refine ⟨_, s5 _ _ e2, ?_, fun b o e => ?_, ?_⟩
  · rw [List.length_map, List.length_replicate]; omega
  · rw [upd_ne (ne_of_none e hD)]; exact s5 _ _ (s2 _ _ e)
  · rw [upd_same, List.replicate_succ', List.map_append]; rfl
section
variable {P : Program} {w : World} {K : PySem.W.Frag} {mg : Str → Option Value} {base : Heap}
abbrev s_is_vector_of : Stmt := topS 42
theorem sc_is_vector_of : FnScope ["thing", "size", "entry"] ["thing", "size"] (defScope s_is_vector_of) := ⟨rfl, rfl, rfl, by decide +kernel, rfl, by decide +kernel, by decide +kernel⟩
def sp_vec_of (K : PySem.W.Frag) : Sp := fun vs H Q _ => ∃ v r, vs = [v, .int (r.length : Nat)] ∧ Im K H v (vD r) ∧ r.length ≤ 1000 ∧ ∀ H', Same H H' → Q (.bl true) H'
theorem ok_is_vector_of {f : Addr} {fd : FuncData} {k : Nat} (F : Fun K "is_vector_of" "is_vector_of" s_is_vector_of f fd) (T : Tx K mg){k1 : Nat} (D_is_row : Def P w K mg base k1 "is_row" s_is_row ["thing", "low", "high"] (sp_is_row K)) {k2 : Nat} (D_is_ratio : Def P w K mg base k2 "is_ratio" s_is_ratio ["thing"] (sp_is_ratio K)) (e1 : k1 ≤ k) (e2 : k2 ≤ k) : FnOk P w K mg base CX0 (k + 1) f fd ["thing", "size"] (sp_vec_of K) := by
  have nd := sc_is_vector_of.nd
  refine F.ok sc_is_vector_of (fun vs H Q E h => ?_) (fun cdv A outer s H vs Q E hr h => ?_)
  · obtain ⟨_, _, rfl, _⟩ := h
    rfl
  · obtain ⟨v, r, rfl, iv, few, q⟩ := h
    obtain ⟨a, xs, rfl, ha, hx⟩ := vec_inv iv
    have lx := all_len hx
    refine ⟨_, (pss_one (ps_ret (pe_and (pe_def D_is_row (hr.mono (by omega)) rfl (pa_cons (pv 0) (pa_cons (pv 1) (pa_cons (pv 1) pa_nil)))) (pe_one (pe_callB (kcr_all K) (by rfl) T.m_all (by decide +kernel) (pa_cons (pe_lc (own := [("entry", 2)]) (g := gName 2) (tt := tYes) rfl nd (kpi_tup K (pv 0)) (blkOk_by (by rfl)) (fun _ _ _ _ _ => (pg_name (i := 2) nd rfl (.inl rfl))) (fun _ _ _ _ _ => pts_nil) (fun _ _ _ _ _ => (pe_def D_is_ratio (hr.mono (by omega)) rfl (pa_cons (pv 2) pa_nil)))) pa_nil)))))), ?_⟩
    refine ⟨.ref a, rfl, .int (r.length : Nat), rfl, .int (r.length : Nat), rfl, a, xs, _, _, rfl, ha, by omega, by omega, true, rfl, iteT ⟨.ref a, rfl, a, rfl, ⟨_, ha.sq⟩, fun D hD => ?_⟩⟩
    refine lc_yes (walk_tup (xs := xs)) hD (small1000 (by omega)) (fun H' s => (ha.mono (tk_same s)).sq) (fun i x H2 H3 R hi s2 y yes => ?_) (fun H2 s2 e2 => ⟨D, _, rfl, .of e2, ?_⟩)
    · obtain ⟨rfl, hxi⟩ := y
      obtain ⟨q', hq, iq⟩ := all_get (ImAll.mono (tk_same s2) _ hx) hxi
      refine ⟨rfl, x, rfl, x, rD q', rfl, Im.dp _ iq, ?_⟩
      rw [jRatio_rD]
      exact yes _ (Same.refl _)
    · rw [rep_all]
      exact q _ s2
abbrev s_widths_of : Stmt := topS 49
theorem sc_widths_of : FnScope ["fields", "dims", "field"] ["fields", "dims"] (defScope s_widths_of) := ⟨rfl, rfl, rfl, by decide +kernel, rfl, by decide +kernel, by decide +kernel⟩
/-- the width of a field by its place -/
def wdI (dims : List Nat) (f : Int) : Nat := if f = -1 then 2 else dims.getD f.toNat 0
def sp_widths (K : PySem.W.Frag) : Sp := fun vs H Q _ => ∃ (v u : V) (fs : List Int) (dims : List Nat), vs = [v, u] ∧ Im K H v (.tuple (fs.map .int)) ∧ Im K H u (nsD dims) ∧ fs.length ≤ 1000 ∧ (∀ f ∈ fs, f = -1 ∨ 0 ≤ f ∧ f.toNat < dims.length) ∧ ∀ D H', Same H H' → H D = none → H' D = some (.lst ((fs.map (wdI dims)).map (fun n => V.int (n : Nat)))) → Q (.ref D) H'
theorem ok_widths_of {f : Addr} {fd : FuncData} {k : Nat} (F : Fun K "widths_of" "widths_of" s_widths_of f fd) (T : Tx K mg) : FnOk P w K mg base CX0 (k + 1) f fd ["fields", "dims"] (sp_widths K) := by
  have nd := sc_widths_of.nd
  refine F.ok sc_widths_of (fun vs H Q E h => ?_) (fun cdv A outer s H vs Q E hr h => ?_)
  · obtain ⟨_, _, _, _, rfl, _⟩ := h
    rfl
  · obtain ⟨v, u, fs, dims, rfl, iv, iu, few, hf, q⟩ := h
    obtain ⟨a, xs, rfl, ha, hx⟩ := iv.tuple_inv
    obtain rfl := im_ints hx
    obtain ⟨b, ys, rfl, hb, hy⟩ := iu.tuple_inv
    obtain rfl := im_nats hy
    refine ⟨_, (pss_one (ps_ret (pe_lc (own := [("field", 2)]) (g := gName 2) (tt := tYes) rfl nd (kpi_tup K (pv 0)) (blkOk_by (by rfl)) (fun _ _ _ _ _ => (pg_name (i := 2) nd rfl (.inl rfl))) (fun _ _ _ _ _ => pts_nil) (fun _ _ _ _ _ => (pe_ifExp (pt_cmpR op_eq (pv 2) (pe_gv rfl T.g_NUMBER) (nomark _)) pe_int (pe_ix (kix_tup K) (pv 1) (pv 2) (fun _ _ => rfl))))))), ?_⟩
    refine ⟨.ref a, rfl, a, rfl, ⟨_, ha.sq⟩, fun D hD => ?_⟩
    refine lc_all (walk_tup (xs := fs.map V.int)) (fun i Hx => Same H Hx ∧ Hx D = some (.lst (((fs.take i).map (wdI dims)).map (fun n => V.int (n : Nat))))) ⟨same_new hD, upd_same⟩ (fun i Hx _ z => (ha.mono (tk_same z.1)).sq) (fun i x Hx Hy hi z y => ?_) (fun Hx z => ?_)
    · obtain ⟨sm, eD⟩ := z
      obtain ⟨rfl, hxi⟩ := y
      rw [List.getElem?_map] at hxi
      obtain ⟨f, hfi, rfl⟩ := Option.map_eq_some_iff.mp hxi
      rw [List.length_map] at hi
      have hlen : (((fs.take i).map (wdI dims)).map (fun n => V.int (n : Nat))).length < sizeLine := by
        rw [List.length_map, List.length_map, List.length_take]; exact small1000 (by omega)
      have fin : ∀ n : Nat, n = wdI dims f → ∃ acc, Hy D = some (.lst acc) ∧ acc.length < sizeLine ∧ Same H (upd Hy D (.lst (acc ++ [V.int (n : Nat)]))) ∧ (upd Hy D (.lst (acc ++ [V.int (n : Nat)]))) D = some (.lst (((fs.take (i + 1)).map (wdI dims)).map (fun n => V.int (n : Nat)))) := fun n en => by
        refine ⟨_, eD, hlen, fun b o e => ?_, ?_⟩
        · rw [upd_ne (ne_of_none e hD)]; exact sm _ _ e
        · rw [upd_same, List.take_add_one, hfi, List.map_append, List.map_append, en]; rfl
      refine ⟨rfl, .int f, rfl, rfl, _, rfl, ?_⟩
      by_cases h1 : f = -1
      · rw [decide_eq_true (by rw [h1])]
        exact iteT (fin 2 (by rw [wdI, if_pos h1]))
      · rw [decide_eq_false (fun z => h1 (V.int.inj z))]
        obtain ⟨p0, p1⟩ := (hf f (List.mem_of_getElem? hfi)).resolve_left h1
        refine iteF ⟨.ref b, rfl, .int f, rfl, b, _, f, V.int ((dims[f.toNat] : Nat) : Int), rfl, rfl, (hb.mono (tk_same sm)).sq, ?_, ?_⟩
        · obtain ⟨n, rfl⟩ : ∃ n : Nat, f = n := ⟨f.toNat, by omega⟩
          refine atI_nat (j := n) ?_
          rw [List.getElem?_map]
          have p2 : n < dims.length := p1
          show Option.map _ dims[n]? = _
          rw [List.getElem?_eq_getElem p2]; rfl
        · refine fin _ ?_
          rw [wdI, if_neg h1, List.getD_eq_getElem?_getD, List.getElem?_eq_getElem p1]; rfl
    · obtain ⟨sm, eD⟩ := z
      rw [List.length_map, List.take_of_length_le (Nat.le_refl _)] at eD
      exact q D Hx sm hD eD
abbrev s_are_dims : Stmt := topS 43
theorem sc_are_dims : FnScope ["thing", "size", "wide", "dim"] ["thing", "size", "wide"] (defScope s_are_dims) := ⟨rfl, rfl, rfl, by decide +kernel, rfl, by decide +kernel, by decide +kernel⟩
def sp_dims (K : PySem.W.Frag) : Sp := fun vs H Q _ => ∃ v dims wide, vs = [v, .int (dims.length : Nat), .int (wide : Nat)] ∧ Im K H v (nsD dims) ∧ dims.length ≤ 1000 ∧ wide ≤ 2 ∧ (∀ d ∈ dims, d ≤ 16 * wide) ∧ dims.sum ≤ 32 * wide ∧ ∀ H', Same H H' → Q (.bl true) H'
theorem ok_are_dims {f : Addr} {fd : FuncData} {k : Nat} (F : Fun K "are_dims" "are_dims" s_are_dims f fd) (T : Tx K mg){k1 : Nat} (D_is_row : Def P w K mg base k1 "is_row" s_is_row ["thing", "low", "high"] (sp_is_row K)) {k2 : Nat} (D_within : Def P w K mg base k2 "within" s_within ["thing", "low", "high"] (sp_within K)) (e1 : k1 ≤ k) (e2 : k2 ≤ k) : FnOk P w K mg base CX0 (k + 1) f fd ["thing", "size", "wide"] (sp_dims K) := by
  have nd := sc_are_dims.nd
  refine F.ok sc_are_dims (fun vs H Q E h => ?_) (fun cdv A outer s H vs Q E hr h => ?_)
  · obtain ⟨_, _, _, rfl, _⟩ := h
    rfl
  · obtain ⟨v, dims, wide, rfl, iv, few, wid, hd, hsum, q⟩ := h
    obtain ⟨a, xs, rfl, ha, hx⟩ := iv.tuple_inv
    obtain rfl := im_nats hx
    have wm : ∀ x : Int, x.natAbs < 2 ^ 6 → CMulW x ((wide : Nat) : Int) := fun x hx => wide_mul hx (show ((wide : Nat) : Int).natAbs < 2 ^ 2 by omega) (by decide) (by decide) (by decide)
    refine ⟨_, (pss_cons (ps_if (PW.pt (pw_or (pt_not (pt_val (pe_def D_is_row (hr.mono (by omega)) rfl (pa_cons (pv 0) (pa_cons (pv 1) (pa_cons (pv 1) pa_nil)))))) (pw_or1 (pt_not (pt_val (pe_callB (kcr_all K) (by rfl) T.m_all (by decide +kernel) (pa_cons (pe_lc (own := [("dim", 3)]) (g := gName 3) (tt := tYes) rfl nd (kpi_tup K (pv 0)) (blkOk_by (by rfl)) (fun _ _ _ _ _ => (pg_name (i := 3) nd rfl (.inl rfl))) (fun _ _ _ _ _ => pts_nil) (fun _ _ _ _ _ => (pe_def D_within (hr.mono (by omega)) rfl (pa_cons (pv 3) (pa_cons pe_int (pa_cons (pe_op op_mulW (pe_gv rfl T.g_MOST_DIM) (pv 2)) pa_nil)))))) pa_nil)))))))
        (pss_one (ps_ret pe_bl))
        pss_nil)
      (pss_one (ps_ret (pe_cmpR op_le (pe_callB (cr_sumT K) (by rfl) T.m_sum (by decide +kernel) (pa_cons (pv 0) pa_nil)) (pe_op op_mulW (pe_gv rfl T.g_MOST_DIMS) (pv 2)) (nomark _))))), ?_⟩
    refine ⟨.ref a, rfl, .int _, rfl, .int _, rfl, a, _, _, _, rfl, ha, by rw [List.length_map]; omega, by rw [List.length_map]; omega, true, rfl, iteF ⟨.ref a, rfl, a, rfl, ⟨_, ha.sq⟩, fun D hD => ?_⟩⟩
    refine lc_yes (walk_tup (xs := dims.map (fun n => V.int (n : Nat)))) hD (small1000 (by rw [List.length_map]; omega)) (fun H' s => (ha.mono (tk_same s)).sq) (fun i x H2 H3 R hi s2 y yes => ?_) (fun H2 s2 e2 => ⟨D, _, rfl, .of e2, ?_⟩)
    · obtain ⟨rfl, hxi⟩ := y
      rw [List.getElem?_map] at hxi
      obtain ⟨d, hdi, rfl⟩ := Option.map_eq_some_iff.mp hxi
      have hd1 := hd d (List.mem_of_getElem? hdi)
      exact ⟨rfl, .int d, rfl, .int wide, rfl, _, _, rfl, rfl, wm _ (by decide), d, 0, _, rfl, by omega, by omega, yes _ (Same.refl _)⟩
    · rw [rep_all]
      refine ⟨true, rfl, iteF ⟨.ref a, rfl, a, dims.map (fun n : Nat => (n : Int)), rfl, ?_, .int wide, rfl, _, _, rfl, rfl, wm _ (by decide), _, _, rfl, rfl, ?_⟩⟩
      · rw [List.map_map]; exact (ha.mono (tk_same s2)).sq
      · rw [nats_sum]
        dsimp only
        rw [decide_eq_true (by omega)]
        exact q _ s2
end
end K63

set_option Elab.async false
set_option linter.all false
set_option maxRecDepth 100000
set_option exponentiation.threshold 20000
set_option pp.deepTerms false
set_option pp.deepTerms.threshold 8
namespace K63
open PySem PySem.Spec PyProof.Rows L2 Ly Mt
theorem alike_nats : ∀ (a b : List Nat), PySem.W.alikeAll (a.map nD) (b.map nD) = true
  | [], b => by cases b <;> rfl
  | _ :: _, [] => rfl
  | x :: a, y :: b => by
    show (PySem.W.alike (nD x) (nD y) && PySem.W.alikeAll (a.map nD) (b.map nD)) = true
    rw [alike_nats a b]; rfl
theorem alike_keyT (a b : Tm) : PySem.W.alike (keyT a) (keyT b) = true := by
  show (PySem.W.alike (nD a.1) (nD b.1) && (PySem.W.alike (nsD a.2.1) (nsD b.2.1) && true)) = true
  rw [show PySem.W.alike (nsD a.2.1) (nsD b.2.1) = true from alike_nats _ _]; rfl
theorem depth_nats : ∀ a : List Nat, PyData.depthAll (a.map nD) ≤ 0
  | [] => by decide
  | x :: a => by
    have := depth_nats a
    show max 0 (PyData.depthAll (a.map nD)) ≤ 0
    omega
theorem keyT_depth (a : Tm) : (keyT a).depth ≤ 64 := by
  have := depth_nats a.2.1
  show max 0 (max (PyData.depthAll (a.2.1.map nD) + 1) 0) + 1 ≤ 64
  omega
theorem cut_drop {ws : List V} {n : Nat} (h : n ≤ ws.length) : cutV ws (some (n : Int)) none = ws.drop n := by
  unfold cutV
  rw [HT.sIx_nat, HT.sIx_none, Nat.min_eq_left h, List.take_of_length_le (by rw [List.length_drop]; omega)]
theorem all_drop {K : PySem.W.Frag} {H : Hp} {α : Type} {f : α → PyData} : ∀ {xs : List V} {l : List α} {n : Nat}, ImAll K H xs (l.map f) → ImAll K H (xs.drop n) ((l.drop n).map f)
  | xs, l, 0, h => h
  | [], [], n + 1, _ => .nil
  | x :: xs, [], n + 1, h => by cases h
  | [], a :: l, n + 1, h => by cases h
  | x :: xs, a :: l, n + 1, h => by
    cases h with | cons _ r => exact all_drop (xs := xs) (l := l) (n := n) r
theorem cut_take {ws : List V} {n : Nat} (h : n ≤ ws.length) : cutV ws none (some (n : Int)) = ws.take n := by
  unfold cutV
  rw [HT.sIx_none, HT.sIx_nat, Nat.min_eq_left h]
  rfl
theorem all_take {K : PySem.W.Frag} {H : Hp} {α : Type} {f : α → PyData} : ∀ {xs : List V} {l : List α} {n : Nat}, ImAll K H xs (l.map f) → ImAll K H (xs.take n) ((l.take n).map f)
  | [], [], n, _ => by rw [List.take_nil, List.take_nil]; exact .nil
  | x :: xs, a :: l, 0, _ => .nil
  | x :: xs, a :: l, n + 1, .cons h r => .cons h (all_take r)
section
variable {K : PySem.W.Frag}
theorem cut_whole {xs : List V} {lo hi : Option Int} (h : HT.sIx xs.length 0 lo = 0 ∧ HT.sIx xs.length xs.length hi = xs.length) : cutV xs lo hi = xs := by
  unfold cutV
  rw [h.1, h.2]; simp
theorem sl_any {a : Addr} {xs : List V} {lo hi : Option Int} {H : Hp} {Q : VK} (h : ITup K H a xs) (q : ∀ p H', Same H H' → ITup K H' p (cutV xs lo hi) → Q (.ref p) H') : rSlA K (.ref a) lo hi H Q :=
  ⟨a, xs, rfl, h.sq, fun w => q a H (Same.refl H) (by rw [cut_whole w]; exact h), fun _ p hp => q p _ (same_new hp) (.inl upd_same)⟩
theorem cat_any {a b : Addr} {xs ys : List V} {H : Hp} {Q : VK} (h : ITup K H a xs) (h2 : ITup K H b ys) (hz : xs.length + ys.length ≤ 1000) (q : ∀ p H', Same H H' → ITup K H' p (xs ++ ys) → Q (.ref p) H') : rCatA K (.ref a) (.ref b) H Q := by
  refine ⟨a, b, xs, ys, rfl, rfl, h.sq, h2.sq, Nat.le_of_lt (small1000 hz), fun e => q b H (Same.refl H) (by rw [e]; exact h2), fun _ e => q a H (Same.refl H) (by rw [e, List.append_nil]; exact h), fun _ _ p hp => q p _ (same_new hp) (.inl upd_same)⟩
theorem rep_any {l : Addr} {x : V} {H : Hp} {n : Nat} {Q : VK} (h : ITup K H l [x]) (hn : n ≤ 1000) (q : ∀ p H', Same H H' → ITup K H' p (List.replicate n x) → Q (.ref p) H') : rRepTA K (.ref l) (.int n) H Q := by
  refine ⟨l, n, [x], rfl, rfl, h.sq, by simp, by omega, by omega, by show 1 ≤ 1000; decide, fun e => ?_, fun _ p hp => q p _ (same_new hp) (.inl ?_)⟩
  · have e1 : n = 1 := by omega
    subst e1
    exact q l H (Same.refl H) h
  · show (upd H p (.tup (List.replicate n [x]).flatten)) p = _
    rw [flat1]
    exact upd_same
end
section
variable {P : Program} {w : World} {K : PySem.W.Frag} {mg : Str → Option Value} {base : Heap}
abbrev s_is_term : Stmt := topS 44
theorem sc_is_term : FnScope ["thing", "dim", "widths", "col", "width"] ["thing", "dim", "widths"] (defScope s_is_term) := ⟨rfl, rfl, rfl, by decide +kernel, rfl, by decide +kernel, by decide +kernel⟩
def sp_term (K : PySem.W.Frag) : Sp := fun vs H Q _ => ∃ v l t dim ws, vs = [v, .int (dim : Nat), .ref l] ∧ Im K H v (tmD t) ∧ H l = some (.lst (ws.map (fun n : Nat => V.int (n : Nat)))) ∧ ws.length ≤ 1000 ∧ TermOk dim ws t ∧ ∀ H', Same H H' → Q (.bl true) H'
theorem ok_is_term {f : Addr} {fd : FuncData} {k : Nat} (F : Fun K "is_term" "is_term" s_is_term f fd) (T : Tx K mg){k1 : Nat} (D_is_row : Def P w K mg base k1 "is_row" s_is_row ["thing", "low", "high"] (sp_is_row K)) {k2 : Nat} (D_within : Def P w K mg base k2 "within" s_within ["thing", "low", "high"] (sp_within K)) {k3 : Nat} (D_is_ratio : Def P w K mg base k3 "is_ratio" s_is_ratio ["thing"] (sp_is_ratio K)) (e1 : k1 ≤ k) (e2 : k2 ≤ k) (e3 : k3 ≤ k) : FnOk P w K mg base CX0 (k + 1) f fd ["thing", "dim", "widths"] (sp_term K) := by
  have nd := sc_is_term.nd
  obtain ⟨az, g_ZERO0, iz⟩ := T.zero
  have g_ZERO : ∃ u, mg "ZERO" = some u ∧ L2.RelV (.ref az) u := ⟨_, g_ZERO0, rfl⟩
  refine F.ok sc_is_term (fun vs H Q E h => ?_) (fun cdv A outer s H vs Q E hr h => ?_)
  · obtain ⟨_, _, _, _, _, rfl, _⟩ := h
    rfl
  · obtain ⟨v, l, t, dim, ws, rfl, iv, hl, few, ok, q⟩ := h
    obtain ⟨a, x, y, z, rfl, ha, ix, iy, iz'⟩ := im_trip iv
    obtain rfl := ix.int_inv
    obtain ⟨b, ys, rfl, hb, hy⟩ := iy.tuple_inv
    obtain rfl := im_nats hy
    have hrow := ok.row
    have hlen := ok.len
    refine ⟨_, (pss_cons (ps_if (PW.pt (pw_or (pt_not (pt_val (pe_def D_is_row (hr.mono (by omega)) rfl (pa_cons (pv 0) (pa_cons pe_int (pa_cons pe_int pa_nil)))))) (pw_or (pt_not (pt_val (pe_def D_within (hr.mono (by omega)) rfl (pa_cons (pe_ix (kix_tup K) (pv 0) pe_int (fun _ _ => rfl)) (pa_cons pe_int (pa_cons (pe_op op_sub (pv 1) pe_int) pa_nil)))))) (pw_or1 (pt_not (pt_val (pe_def D_is_row (hr.mono (by omega)) rfl (pa_cons (pe_ix (kix_tup K) (pv 0) pe_int (fun _ _ => rfl)) (pa_cons (pe_callB (kcall_len K) (by rfl) T.m_len PySem.boot_len (pa_cons (pv 2) pa_nil)) (pa_cons (pe_callB (kcall_len K) (by rfl) T.m_len PySem.boot_len (pa_cons (pv 2) pa_nil)) pa_nil))))))))))
        (pss_one (ps_ret pe_bl))
        pss_nil)
      (pss_cons (ps_if (pt_not (pt_val (pe_callB (kcr_all K) (by rfl) T.m_all (by decide +kernel) (pa_cons (pe_lc (own := [("col", 3), ("width", 4)]) (g := _) (tt := tYes) rfl nd (kpi_zipN K (by rfl) T.m_zip (pa_cons (pe_ix (kix_tup K) (pv 0) pe_int (fun _ _ => rfl)) (pa_cons (pv 2) pa_nil))) (blkOk_by (by rfl)) (fun _ _ _ _ _ => (kpg_tup K (n := 2) rfl (pgs_cons (pg_name (i := 3) nd rfl (.inl rfl)) (pgs_cons (pg_name (i := 4) nd rfl (.inl rfl)) pgs_nil)))) (fun _ _ _ _ _ => pts_nil) (fun _ _ _ _ _ => (pe_def D_within (hr.mono (by omega)) rfl (pa_cons (pv 3) (pa_cons pe_int (pa_cons (pe_op op_sub (pv 4) pe_int) pa_nil)))))) pa_nil))))
        (pss_one (ps_ret pe_bl))
        pss_nil)
      (pss_one (ps_ret (pe_and (pe_def D_is_ratio (hr.mono (by omega)) rfl (pa_cons (pe_ix (kix_tup K) (pv 0) pe_int (fun _ _ => rfl)) pa_nil)) (pe_one (pe_cmpR (kop_neD K hr.units) (pe_ix (kix_tup K) (pv 0) pe_int (fun _ _ => rfl)) (pe_gv rfl g_ZERO) (nomark _)))))))), ?_⟩
    refine ⟨.ref a, rfl, a, _, 3, 3, rfl, ha, (by show (3 : Int) ≤ 3; decide), (by show (3 : Int) ≤ 3; decide), true, rfl, iteF ?_⟩
    refine ⟨.ref a, rfl, a, _, 0, _, rfl, rfl, ha.sq, atI_nat (j := 0) rfl, .int dim, rfl, _, _, rfl, rfl, t.1, 0, _, rfl, by omega, by omega, true, rfl, iteF ?_⟩
    refine ⟨.ref a, rfl, a, _, 1, _, rfl, rfl, ha.sq, atI_nat (j := 1) rfl, .ref l, rfl, l, _, rfl, .inl (.of hl), .ref l, rfl, l, _, rfl, .inl (.of hl), b, _, _, _, rfl, hb, by rw [List.length_map, List.length_map]; omega, by rw [List.length_map, List.length_map]; omega, true, rfl, iteF ?_⟩
    refine ⟨.ref a, rfl, a, _, 1, _, rfl, rfl, ha.sq, atI_nat (j := 1) rfl, .ref l, rfl, b, l, _, _, rfl, hb.sq, .of hl, fun D hD => ?_⟩
    refine lc_yes (walk_zipN (xs := t.2.1.map (fun n : Nat => V.int (n : Nat))) (ys := ws.map (fun n : Nat => V.int (n : Nat))) (by rw [List.length_map, List.length_map]; exact hlen)) hD (small1000 (by rw [List.length_map]; omega)) (fun H' s => ⟨(hb.mono (tk_same s)).sq, .of (s _ _ hl)⟩) (fun i x H2 H3 R hi s2 y yes => ?_) (fun H2 s2 e2 => ⟨D, _, rfl, .of e2, ?_⟩)
    · obtain ⟨T, x1, x2, rfl, hT, rfl, e1, e2⟩ := y
      simp only [List.getElem?_map] at e1 e2
      obtain ⟨c, hc, rfl⟩ := Option.map_eq_some_iff.mp e1
      obtain ⟨w', hw, rfl⟩ := Option.map_eq_some_iff.mp e2
      have lt := ok.cols i c w' hc hw
      exact ⟨T, _, rfl, .of upd_same, rfl, .int c, _, rfl, .int w', _, rfl, rfl, rfl, .int c, rfl, .int w', rfl, _, _, rfl, rfl, c, 0, _, rfl, by omega, by omega, yes _ (same_new hT)⟩
    · rw [rep_all]
      have ha2 := ha.mono (tk_same s2)
      have iz2 := Im.mono (tk_same s2) _ iz'
      refine ⟨true, rfl, iteF ⟨.ref a, rfl, a, _, 2, _, rfl, rfl, ha2.sq, atI_nat (j := 2) rfl, z, _, rfl, Im.dp _ iz2, jRatio (rD t.2.2), rfl, ?_⟩⟩
      rw [jRatio_rD]
      refine iteT ⟨.ref a, rfl, a, _, 2, _, rfl, rfl, ha2.sq, atI_nat (j := 2) rfl, rD t.2.2, .tuple [.int 0, .int 1], Im.dp _ iz2, .tup (iz H2).sq (.cons (.int 0) (.cons (.int 1) .nil)), rfl, rfl, ?_⟩
      have e : PyData.eqv (rD t.2.2) (.tuple [.int 0, .int 1]) = false := by
        show ((t.2.2.num == 0) && (((t.2.2.den : Int) == 1) && true)) = false
        have : ¬ t.2.2.num = 0 := fun h => ok.nz (num_zero h)
        rw [beq_eq_false_iff_ne.mpr this]; rfl
      rw [e]
      exact q _ s2
abbrev s_are_terms : Stmt := topS 45
theorem sc_are_terms : FnScope ["thing", "dim", "widths", "most", "term", "at"] ["thing", "dim", "widths", "most"] (defScope s_are_terms) := ⟨rfl, rfl, rfl, by decide +kernel, rfl, by decide +kernel, by decide +kernel⟩
def sp_terms (K : PySem.W.Frag) : Sp := fun vs H Q _ => ∃ v l ts dim ws most, vs = [v, .int (dim : Nat), .ref l, .int (most : Nat)] ∧ Im K H v (tsD ts) ∧ H l = some (.lst (ws.map (fun n : Nat => V.int (n : Nat)))) ∧ ws.length ≤ 1000 ∧ most ≤ 8000 ∧ TermsOk dim ws most ts ∧ ∀ H', Same H H' → Q (.bl true) H'
theorem ok_are_terms {f : Addr} {fd : FuncData} {k : Nat} (F : Fun K "are_terms" "are_terms" s_are_terms f fd) (T : Tx K mg){k1 : Nat} (D_is_row : Def P w K mg base k1 "is_row" s_is_row ["thing", "low", "high"] (sp_is_row K)) {k2 : Nat} (D_is_term : Def P w K mg base k2 "is_term" s_is_term ["thing", "dim", "widths"] (sp_term K)) (e1 : k1 ≤ k) (e2 : k2 ≤ k) : FnOk P w K mg base CX0 (k + 1) f fd ["thing", "dim", "widths", "most"] (sp_terms K) := by
  have nd := sc_are_terms.nd
  refine F.ok sc_are_terms (fun vs H Q E h => ?_) (fun cdv A outer s H vs Q E hr h => ?_)
  · obtain ⟨_, _, _, _, _, _, rfl, _⟩ := h
    rfl
  · obtain ⟨v, l, ts, dim, ws, most, rfl, iv, hl, few, hmost, ok, q⟩ := h
    obtain ⟨a, xs, rfl, ha, hx⟩ := iv.tuple_inv
    have lx := all_len hx
    have lts := ok.few
    refine ⟨_, (pss_cons (ps_if (PW.pt (pw_or (pt_not (pt_val (pe_def D_is_row (hr.mono (by omega)) rfl (pa_cons (pv 0) (pa_cons pe_int (pa_cons (pv 3) pa_nil)))))) (pw_or1 (pt_not (pt_val (pe_callB (kcr_all K) (by rfl) T.m_all (by decide +kernel) (pa_cons (pe_lc (own := [("term", 4)]) (g := gName 4) (tt := tYes) rfl nd (kpi_tup K (pv 0)) (blkOk_by (by rfl)) (fun _ _ _ _ _ => (pg_name (i := 4) nd rfl (.inl rfl))) (fun _ _ _ _ _ => pts_nil) (fun _ _ _ _ _ => (pe_def D_is_term (hr.mono (by omega)) rfl (pa_cons (pv 4) (pa_cons (pv 1) (pa_cons (pv 2) pa_nil)))))) pa_nil)))))))
        (pss_one (ps_ret pe_bl))
        pss_nil)
      (pss_one (ps_ret (pe_callB (kcr_all K) (by rfl) T.m_all (by decide +kernel) (pa_cons (pe_lc (own := [("at", 5)]) (g := gName 5) (tt := tYes) rfl nd (pi_range2 rfl T.m_range (pa_cons pe_int (pa_cons (pe_callB (kcall_len K) (by rfl) T.m_len PySem.boot_len (pa_cons (pv 0) pa_nil)) pa_nil))) (blkOk_by (by rfl)) (fun _ _ _ _ _ => (pg_name (i := 5) nd rfl (.inl rfl))) (fun _ _ _ _ _ => pts_nil) (fun _ _ _ _ _ => (pe_cmpR (op_ltD K hr.units) (pe_slice (ksl_tupA K) (pe_ix (kix_tup K) (pv 0) (pe_op op_sub (pv 5) pe_int) (fun _ _ => rfl)) po_none (po_some pe_int)) (pe_slice (ksl_tupA K) (pe_ix (kix_tup K) (pv 0) (pv 5) (fun _ _ => rfl)) po_none (po_some pe_int)) (nomark _)))) pa_nil))))), ?_⟩
    refine ⟨.ref a, rfl, .int most, rfl, a, _, 0, _, rfl, ha, by omega, by omega, true, rfl, iteF ⟨.ref a, rfl, a, rfl, ⟨_, ha.sq⟩, fun D hD => ?_⟩⟩
    have sz : ts.length < sizeLine := Nat.lt_of_le_of_lt (show ts.length ≤ 8000 by omega) (by decide)
    refine lc_yes (walk_tup (xs := xs)) hD (by omega) (fun H' s => (ha.mono (tk_same s)).sq) (fun i x H2 H3 R hi s2 y yes => ?_) (fun H2 s2 e2 => ⟨D, _, rfl, .of e2, ?_⟩)
    · obtain ⟨rfl, hxi⟩ := y
      obtain ⟨t, ht, it⟩ := all_get (ImAll.mono (tk_same s2) _ hx) hxi
      exact ⟨rfl, x, rfl, .int dim, rfl, .ref l, rfl, x, l, t, dim, ws, rfl, it, s2 _ _ hl, few, ok.each t (List.mem_of_getElem? ht), fun H5 s5 => yes H5 s5⟩
    · rw [rep_all]
      refine ⟨true, rfl, iteF ?_⟩
      have ha2 := ha.mono (tk_same s2)
      have hx2 := ImAll.mono (tk_same s2) _ hx
      refine ⟨.ref a, rfl, a, xs, rfl, .inr ha2.sq, 1, (xs.length : Nat), rfl, ⟨by omega, by omega, by omega, by omega⟩, fun D2 hD2 => ?_⟩
      refine lc_yes walk_range hD2 (by omega) (fun H' s => trivial) (fun i x H3 H4 R hi s3 y yes => ?_) (fun H3 s3 e3 => ⟨D2, _, rfl, .of e3, ?_⟩)
      · obtain ⟨rfl, rfl⟩ := y
        have ha3 := ha2.mono (tk_same s3)
        have hx3 := ImAll.mono (tk_same s3) _ hx2
        have i1 : i < ts.length := by omega
        have i2 : i + 1 < ts.length := by omega
        obtain ⟨x, ex, ix⟩ := all_at hx3 (List.getElem?_eq_getElem i1)
        obtain ⟨y, ey, iy⟩ := all_at hx3 (List.getElem?_eq_getElem i2)
        have lt := ok.asc i _ _ (List.getElem?_eq_getElem i1) (List.getElem?_eq_getElem i2)
        generalize ts[i] = t1 at *
        generalize ts[i + 1] = t2 at *
        obtain ⟨pa, a1, a2, a3, rfl, hpa, ja1, ja2, ja3⟩ := im_trip ix
        obtain ⟨pb, b1, b2, b3, rfl, hpb, jb1, jb2, jb3⟩ := im_trip iy
        refine ⟨rfl, .ref a, rfl, .int (1 + (i : Int)), rfl, _, _, rfl, rfl, a, _, (1 + (i : Int)) - 1, .ref pa, rfl, rfl, ha3.sq, (by rw [show (1 + (i : Int)) - 1 = (i : Nat) by omega]; exact atI_nat ex), 2, rfl, sl_any hpa fun p1 H5 s5 hp1 => ?_⟩
        refine ⟨.ref a, rfl, .int (1 + (i : Int)), rfl, a, _, (1 + (i : Int)), .ref pb, rfl, rfl, (ha3.mono (tk_same s5)).sq, (by rw [show (1 + (i : Int)) = ((i + 1 : Nat) : Int) by omega]; exact atI_nat ey), 2, rfl, sl_any (hpb.mono (tk_same s5)) fun p2 H6 s6 hp2 => ?_⟩
        have c1 : cutV [a1, a2, a3] none (some 2) = [a1, a2] := cut_take (n := 2) (by show 2 ≤ 3; decide)
        have c2 : cutV [b1, b2, b3] none (some 2) = [b1, b2] := cut_take (n := 2) (by show 2 ≤ 3; decide)
        rw [c1] at hp1
        rw [c2] at hp2
        have t56 := (tk_same s5).trans (tk_same s6)
        refine ⟨keyT t1, keyT t2, ?_, ?_, alike_keyT _ _, by simp [keyT], keyT_depth _, ?_⟩
        · exact .tup (hp1.mono (tk_same s6)).sq (.cons (Im.dp _ (Im.mono t56 _ ja1)) (.cons (Im.dp _ (Im.mono t56 _ ja2)) .nil))
        · exact .tup hp2.sq (.cons (Im.dp _ (Im.mono t56 _ jb1)) (.cons (Im.dp _ (Im.mono t56 _ jb2)) .nil))
        · rw [lt]
          exact yes _ (s5.trans s6)
      · rw [rep_all]
        exact q _ (s2.trans s3)
end
end K63

set_option Elab.async false
set_option linter.all false
set_option maxRecDepth 100000
namespace Ly
open PySem PySem.Spec PyProof.Rows L2
section
variable {X : Cx}
theorem sw_trueD {kx vx : Expr} {gs : List Comprehension} {scope : Scope} {pos py : Pos} {y : Str} {l : Nat} {env : Env} (hk : env.scope.kind = .function) (hy : env.scope.names.lookup y = some .local) (hl : (py.line == pos.line) = true)
    (ha : (scope.names.any fun (n, k) => n == y && (k == .local || k == .cell)) = false) : swapsWith (.DictComp kx vx gs scope pos) (some (.Name y py)) l env = pure true := by
  have ky : env.kindOf y = some .local := hy
  have hb : env.blockKind = .function := by unfold Env.blockKind; rw [hk]; rfl
  unfold swapsWith
  simp only [hb, ky, ha, Expr.pos, hl]
  rfl
/-- name = {k: v ..} on one line, the name a local -/
theorem ps_setDc {i : Nat} {y : Str} {py : Pos} {kx vx tg iter : Expr} {ifs : List Expr} {scope : Scope} {own : List (Str × Nat)} {pos spos : Pos} {wi : TI} {g : TG} {tt : TT} {tk tv : TE} (hc : X.calm = true) (hN : X.N.Nodup) (hy : X.N[i]? = some y) (hyl : X.env.scope.names.lookup y = some .local)
    (hsw : swapsWith (.DictComp kx vx [⟨tg, iter, ifs, 0⟩] scope pos) (some (.Name y py)) spos.line X.env = pure true) (hi : PI X tg iter wi) (ok : BlkOk X.N X.env.scope scope own)
    (hg : ∀ (s : Shared) (H : Hp) (C : Addr) (cl : List (Str × Addr)) (fp : List Addr), PG (X.blk s H scope (compEnvC scope cl C X.env) fp) tg g) (ht : ∀ (s : Shared) (H : Hp) (C : Addr) (cl : List (Str × Addr)) (fp : List Addr), PTs (X.blk s H scope (compEnvC scope cl C X.env) fp) ifs tt)
    (hk : ∀ (s : Shared) (H : Hp) (C : Addr) (cl : List (Str × Addr)) (fp : List Addr), PE (X.blk s H scope (compEnvC scope cl C X.env) fp) kx tk)
    (he : ∀ (s : Shared) (H : Hp) (C : Addr) (cl : List (Str × Addr)) (fp : List Addr), PE (X.blk s H scope (compEnvC scope cl C X.env) fp) vx tv) (hs : ∀ x, foldedSetIterable iter X.env x = pure x := by intro _; rfl) :
    PS X (.Assign [.Name y py] (.DictComp kx vx [⟨tg, iter, ifs, 0⟩] scope pos) spos) (tAsg (tDc wi g tt tk tv (own.map (·.2))) (gName i)) := by
  refine ⟨fun pins s σ H D I h => ?_⟩
  rw [exec_Assign_Name_used _ _ _ _ hsw]
  refine wpAny_bind (wpAny_standAt (wpAny_bind ?_))
  show wpAny _ X.A (do let _ ← comprehension (.DictComp kx vx [⟨tg, iter, ifs, 0⟩] scope pos) scope X.env (firstIterPos [⟨tg, iter, ifs, 0⟩] pos) newDict false (eval iter X.env) (some (assign (.Name y py) X.env))) _ _ s
  have h : tDc wi g tt tk tv (own.map (·.2)) σ H (fun x H1 => gName i x σ H1 D.nx) := h
  refine wpAny_bind (thn (dc_core (Qf := fun _ s' => SP X pins D .next s') hc hN I hi ok hg ht hk he hs h fun L C s' m H' I' q hn f => ?_) fun _ s' hq => wpAny_pure (wpAny_pure hq))
  show wpAny _ _ (assign (.Name y py) X.env (.ref L)) _ _ _
  refine wpAny_assign_Name (store_ok2 (v := V.ref L) I' hN hy (.inl hyl) rfl (fun s2 I2 ⟨a, sb, ha⟩ => ?_) (.inr hyl))
  obtain ⟨f0, f1, f2, f3, f4, f5⟩ := f
  have haC : C ≠ a := by
    rcases ha with z | z
    · rw [z]; exact f1
    · exact fun e => f4 y a z e.symm
  refine ⟨m, hn.sameBut sb haC, fun h3 sb3 => ?_⟩
  exact ⟨_, H', I2.turned (t' := s2.toks) (fun b o hb e => (sb3.2 b hb).trans e) f0 f1 f3 f4 f5, q⟩
end
end Ly

set_option Elab.async false
set_option linter.all false
set_option maxRecDepth 100000
set_option exponentiation.threshold 20000
set_option pp.deepTerms false
set_option pp.deepTerms.threshold 8
namespace K63
open PySem PySem.Spec PyProof.Rows L2 Ly Mt
/-! ### a dict by the kinds' names -/
def tabV (ns : List Str) (g : Nat → V) (n : Nat) : List (Key × V) := (List.range n).map fun i => (Sum.inr (ns.getD i noS), g i)
theorem tabV_succ (ns : List Str) (g : Nat → V) (n : Nat) : tabV ns g (n + 1) = tabV ns g n ++ [(Sum.inr (ns.getD n noS), g n)] := by
  unfold tabV
  rw [List.range_succ, List.map_append]; rfl
theorem tab_new {ns : List Str} {g : Nat → V} (nd : ns.Nodup) {n : Nat} (h : n < ns.length) : valV (tabV ns g n) (Sum.inr (ns.getD n noS)) = none := valV_none fun z => by
  obtain ⟨p, hp, e⟩ := List.mem_map.mp z
  obtain ⟨i, hi, rfl⟩ := List.mem_map.mp hp
  have hi' := List.mem_range.mp hi
  have := getD_inj nd (by omega) h (Sum.inr.inj e)
  omega
theorem tab_at {ns : List Str} {g : Nat → V} (nd : ns.Nodup) : ∀ n, n ≤ ns.length → ∀ i, i < n → valV (tabV ns g n) (Sum.inr (ns.getD i noS)) = some (g i)
  | 0, _, i, h => by omega
  | n + 1, hn, i, h => by
    rw [tabV_succ, valV_snoc _ _ _ _ (tab_new nd (by omega))]
    by_cases e : i = n
    · subst e; rw [if_pos rfl]
    · rw [if_neg (fun z => e (getD_inj nd (by omega) (by omega) (Sum.inr.inj z)))]
      exact tab_at nd n (by omega) i (by omega)
theorem tab_get {ns : List Str} {g : Nat → V} (nd : ns.Nodup) {f : Str} (h : f ∈ ns) : valV (tabV ns g ns.length) (Sum.inr f) = some (g (ns.idxOf f)) := by
  have hi := List.idxOf_lt_length_of_mem h
  have e : ns.getD (ns.idxOf f) noS = f := by
    rw [List.getD_eq_getElem?_getD, List.getElem?_eq_getElem hi]
    exact List.getElem_idxOf hi
  have := tab_at (g := g) nd _ (Nat.le_refl _) _ hi
  rw [e] at this
  exact this
/-! ### the table's rows -/
theorem row_mem {ks : List Kd} {i j : Nat} {kd : Kd} {m : Mk} (hk : ks[i]? = some kd) (hm : kd.2[j]? = some m) : mkRow (ks.map (·.1)) i j m ∈ rowsOf ks ks.length := by
  have hi := (List.getElem?_eq_some_iff.mp hk).1
  have e1 : ks.getD i (noS, []) = kd := by rw [List.getD_eq_getElem?_getD, hk]; rfl
  unfold rowsOf
  refine List.mem_flatMap.mpr ⟨i, List.mem_range.mpr hi, ?_⟩
  rw [e1]
  exact List.mem_of_getElem? (kindRows_at hm)
theorem tb_get {K : PySem.W.Frag} {H : Hp} {d : Addr} {ks : List Kd} (tb : TableAt K H d (rowsOf ks ks.length)) (ok : KindsOk ks) {i j : Nat} {kd : Kd} {m : Mk} (hk : ks[i]? = some kd) (hm : kd.2[j]? = some m) : ∃ v, DGet H d (.str m.1) (some v) ∧ Im K H v (rowD (mkRow (ks.map (·.1)) i j m)) := by
  obtain ⟨n, hn⟩ := List.getElem?_of_mem (row_mem hk hm)
  have nd : ((rowsOf ks ks.length).map (·.1)).Nodup := by rw [rows_names]; exact ok.ndm
  obtain ⟨kvs, v, e, hv, iv⟩ := tb.get nd hn
  refine ⟨v, ?_, iv⟩
  have g : DGet H d (kV (Sum.inr m.1)) (valV kvs (Sum.inr m.1)) := .k e
  have hv' : valV kvs (Sum.inr m.1) = some v := hv
  rw [hv'] at g
  exact g
theorem wdI_place {ns : List Str} {dims : List Nat} (f : Str) : wdI dims (placeOf ns f) = wd ns dims f := by
  unfold wdI placeOf wd
  by_cases h : f ∈ ns
  · rw [if_pos h, if_pos h, if_neg (by omega), Int.toNat_natCast]
  · rw [if_neg h, if_neg h, if_pos rfl]
theorem place_in {ns : List Str} (f : Str) : placeOf ns f = -1 ∨ 0 ≤ placeOf ns f ∧ (placeOf ns f).toNat < ns.length := by
  unfold placeOf
  by_cases h : f ∈ ns
  · rw [if_pos h]
    have := List.idxOf_lt_length_of_mem h
    exact .inr ⟨by omega, by rw [Int.toNat_natCast]; exact this⟩
  · rw [if_neg h]; exact .inl rfl
section
variable {P : Program} {w : World} {K : PySem.W.Frag} {mg : Str → Option Value} {base : Heap}
abbrev s_are_reads : Stmt := topS 46
theorem sc_are_reads : FnScope ["thing", "kinds", "dims", "sizes", "_", "kind", "vector", "read", "dim"] ["thing", "kinds", "dims"] (defScope s_are_reads) := ⟨rfl, rfl, rfl, by decide +kernel, rfl, by decide +kernel, by decide +kernel⟩
def sp_reads (K : PySem.W.Frag) : Sp := fun vs H Q _ => ∃ v u z rs ks dims, vs = [v, u, z] ∧ Im K H v (rdsD rs) ∧ Im K H u (ksD ks) ∧ Im K H z (nsD dims) ∧ KindsOk ks ∧ dims.length = ks.length ∧ (∀ d ∈ dims, d ≤ 32) ∧ ReadsOk (ks.map (·.1)) dims rs ∧ ∀ H', Same H H' → Q (.bl true) H'
set_option maxHeartbeats 1000000 in
theorem ok_are_reads {f : Addr} {fd : FuncData} {k : Nat} (F : Fun K "are_reads" "are_reads" s_are_reads f fd) (T : Tx K mg){k1 : Nat} (D_is_row : Def P w K mg base k1 "is_row" s_is_row ["thing", "low", "high"] (sp_is_row K)) {k2 : Nat} (D_is_vector_of : Def P w K mg base k2 "is_vector_of" s_is_vector_of ["thing", "size"] (sp_vec_of K)) {k3 : Nat} (D_is_low : Def P w K mg base k3 "is_low" s_is_low ["thing"] sp_is_low) {k4 : Nat} (D_all_unlike : Def P w K mg base k4 "all_unlike" s_all_unlike ["names"] (sp_unlike K)) (e1 : k1 ≤ k) (e2 : k2 ≤ k) (e3 : k3 ≤ k) (e4 : k4 ≤ k) : FnOk P w K mg base CX0 (k + 1) f fd ["thing", "kinds", "dims"] (sp_reads K) := by
  have nd := sc_are_reads.nd
  refine F.ok sc_are_reads (fun vs H Q E h => ?_) (fun cdv A outer s H vs Q E hr h => ?_)
  · obtain ⟨_, _, _, _, _, _, rfl, _⟩ := h
    rfl
  · obtain ⟨v, u, z, rs, ks, dims, rfl, iv, iu, iz, ok, ld, d32, ro, q⟩ := h
    obtain ⟨a, xs, rfl, ha, hx⟩ := iv.tuple_inv
    obtain ⟨b, ys, rfl, hb, hy⟩ := iu.tuple_inv
    obtain ⟨c, zs, rfl, hc, hz⟩ := iz.tuple_inv
    obtain rfl := im_nats hz
    have lx := all_len hx
    have ly := all_len hy
    have few := ro.few
    have kf := ok.few
    refine ⟨_, (pss_cons (ps_if (PW.pt (pw_or (pt_not (pt_val (pe_def D_is_row (hr.mono (by omega)) rfl (pa_cons (pv 0) (pa_cons pe_int (pa_cons (pe_gv rfl T.g_MOST_READS) pa_nil)))))) (pw_or1 (pt_not (pt_val (pe_callB (kcr_all K) (by rfl) T.m_all (by decide +kernel) (pa_cons (pe_lc (own := [("read", 7)]) (g := gName 7) (tt := tYes) rfl nd (kpi_tup K (pv 0)) (blkOk_by (by rfl)) (fun _ _ _ _ _ => (pg_name (i := 7) nd rfl (.inl rfl))) (fun _ _ _ _ _ => pts_nil) (fun _ _ _ _ _ => (pe_and (pe_def D_is_row (hr.mono (by omega)) rfl (pa_cons (pv 7) (pa_cons pe_int (pa_cons pe_int pa_nil)))) (pe_one (pe_def D_is_low (hr.mono (by omega)) rfl (pa_cons (pe_ix (kix_tup K) (pv 7) pe_int (fun _ _ => rfl)) pa_nil)))))) pa_nil)))))))
        (pss_one (ps_ret pe_bl))
        pss_nil)
      (pss_cons (ps_setDc (i := 3) (own := [("kind", 5), ("dim", 8)]) (g := _) (tt := tYes) rfl nd rfl rfl (sw_trueD rfl rfl rfl (by decide +kernel)) (kpi_zip K (by rfl) T.m_zip (pa_cons (pv 1) (pa_cons (pv 2) pa_nil))) (blkOk_by (by rfl)) (fun _ _ _ _ _ => (kpg_tup K (n := 2) rfl (pgs_cons (pg_name (i := 5) nd rfl (.inl rfl)) (pgs_cons (pg_name (i := 8) nd rfl (.inl rfl)) pgs_nil)))) (fun _ _ _ _ _ => pts_nil) (fun _ _ _ _ _ => (pe_ix (kix_tup K) (pv 5) pe_int (fun _ _ => rfl))) (fun _ _ _ _ _ => (pv 8)))
      (pss_cons (ps_for PassesOwn.never rfl (kpi_tup K (pv 0)) (kpg_tup K (n := 3) rfl (pgs_cons (pg_name (i := 4) nd rfl (.inl rfl)) (pgs_cons (pg_name (i := 5) nd rfl (.inl rfl)) (pgs_cons (pg_name (i := 6) nd rfl (.inl rfl)) pgs_nil))))
        (pss_one (ps_if (PW.pt (pw_or (pt_not (pt_val (pe_callB (kcall_isi K) (by rfl) T.m_isinstance (by decide +kernel) (pa_cons (pv 5) (pa_cons (pe_bltn (v := .ty "str") (u := .type "str") (by rfl) T.m_str (by decide +kernel) rfl) pa_nil))))) (pw_or (pt_cmp (pc_dnotin (hu_of hr) (pv 5) (pv 3))) (pw_or1 (pt_not (pt_val (pe_def D_is_vector_of (hr.mono (by omega)) rfl (pa_cons (pv 6) (pa_cons (pe_dget (hu_of hr) (pv 3) (pv 5) (fun _ _ => rfl)) pa_nil)))))))))
          (pss_one (ps_ret pe_bl))
          pss_nil)))
      (pss_one (ps_ret (pe_def D_all_unlike (hr.mono (by omega)) rfl (pa_cons (pe_lc (own := [("read", 7)]) (g := gName 7) (tt := tYes) rfl nd (kpi_tup K (pv 0)) (blkOk_by (by rfl)) (fun _ _ _ _ _ => (pg_name (i := 7) nd rfl (.inl rfl))) (fun _ _ _ _ _ => pts_nil) (fun _ _ _ _ _ => (pe_ix (kix_tup K) (pv 7) pe_int (fun _ _ => rfl)))) pa_nil))))))), ?_⟩
    refine ⟨.ref a, rfl, a, xs, 0, 60, rfl, ha, by omega, by omega, true, rfl, iteF ⟨.ref a, rfl, a, rfl, ⟨_, ha.sq⟩, fun D hD => ?_⟩⟩
    refine lc_yes (walk_tup (xs := xs)) hD (small1000 (by omega)) (fun H' s => (ha.mono (tk_same s)).sq) (fun i x H2 H3 R hi s2 y yes => ?_) (fun H2 s2 e2 => ⟨D, _, rfl, .of e2, ?_⟩)
    · obtain ⟨rfl, hxi⟩ := y
      obtain ⟨r, hr', ir⟩ := all_get (ImAll.mono (tk_same s2) _ hx) hxi
      obtain ⟨p, x1, x2, x3, rfl, hp, i1, i2, i3⟩ := im_trip ir
      obtain rfl := i1.str_inv
      obtain ⟨nok, lo⟩ := ro.low r (List.mem_of_getElem? hr')
      exact ⟨rfl, .ref p, rfl, p, _, 3, 3, rfl, hp, (by show (3 : Int) ≤ 3; decide), (by show (3 : Int) ≤ 3; decide), true, rfl, iteT ⟨.ref p, rfl, p, _, 0, _, rfl, rfl, hp.sq, atI_nat (j := 0) rfl, r.1, rfl, nok, lo, fun H5 s5 => yes H5 s5⟩⟩
    · rw [rep_all]
      refine ⟨true, rfl, iteF ?_⟩
      refine ⟨.ref b, rfl, .ref c, rfl, b, c, _, _, rfl, .inr ⟨(hb.mono (tk_same s2)).sq, (hc.mono (tk_same s2)).sq, fun d0 hd0 => ?_⟩⟩
      have lz : ys.length = (dims.map fun n : Nat => V.int (n : Nat)).length := by rw [List.length_map, ly]; exact ld.symm
      refine dc_all (walk_zipT (xs := ys) (ys := dims.map fun n : Nat => V.int (n : Nat)) lz) (fun i Hx => Same H2 Hx ∧ Hx d0 = some (.dK (tabV (ks.map (·.1)) (fun t => V.int ((dims.getD t 0 : Nat) : Int)) i))) ⟨same_new hd0, upd_same⟩ (fun i Hx _ z => ⟨(hb.mono (tk_same (s2.trans z.1))).sq, (hc.mono (tk_same (s2.trans z.1))).sq⟩) (fun i x Hx Hy hi z y => ?_) (fun H3 z => ?_)
      · obtain ⟨sm, eD⟩ := z
        obtain ⟨T, x1, x2, rfl, hT, rfl, e1, e2⟩ := y
        simp only [List.getElem?_map] at e2
        obtain ⟨dm, hdm, rfl⟩ := Option.map_eq_some_iff.mp e2
        obtain ⟨kd, hkd, ikd⟩ := all_get (ImAll.mono (tk_same (s2.trans sm)) _ hy) e1
        obtain ⟨pk, u1, u2, rfl, hpk, iu1, iu2⟩ := im_pair ikd
        obtain rfl := iu1.str_inv
        have sT := same_new (o := .tup [.ref pk, .int (dm : Nat)]) hT
        have en : (ks.map (·.1)).getD i noS = kd.1 := by
          rw [List.getD_eq_getElem?_getD, List.getElem?_map, hkd]; rfl
        have ed : dims.getD i 0 = dm := by rw [List.getD_eq_getElem?_getD, hdm]; rfl
        refine ⟨T, _, rfl, .of upd_same, rfl, .ref pk, _, rfl, .int (dm : Nat), _, rfl, rfl, rfl, .ref pk, rfl, pk, _, 0, _, rfl, rfl, (hpk.mono (tk_same sT)).sq, atI_nat (j := 0) rfl, .int (dm : Nat), rfl, _, Sum.inr kd.1, rfl, sT _ _ eD, small1000 (by unfold tabV; rw [List.length_map, List.length_range]; omega), fun b' o e => ?_, ?_⟩
        · rw [upd_ne (ne_of_none e hd0)]; exact sT _ _ (sm _ _ e)
        · rw [upd_same, tabV_succ, en, ed]
          congr 2
          exact putK_new _ (by rw [← en]; exact tab_new ok.nd (by rw [List.length_map]; omega))
      · obtain ⟨sm, eD⟩ := z
        rw [ly] at eD
        have s3 := s2.trans sm
        refine ⟨.ref a, rfl, a, rfl, ⟨_, (ha.mono (tk_same s3)).sq⟩, ?_⟩
        refine for_it (walk_tup (xs := xs)) (fun j σ Hb => ∃ (y4 y5 y6 : Option V), σ = [some (.ref a), some (.ref b), some (.ref c), some (.ref d0), y4, y5, y6, none, none] ∧ Same H3 Hb) ⟨_, _, _, rfl, Same.refl _⟩ (fun j σ Hb _ z => ?_) ?_ ?_
        · obtain ⟨_, _, _, _, s6⟩ := z
          exact (ha.mono (tk_same (s3.trans s6))).sq
        · rintro j x σ Hb Hc hj ⟨y4, y5, y6, rfl, s6⟩ ⟨rfl, hxj⟩
          have s7 := s3.trans s6
          obtain ⟨r, hr', ir⟩ := all_get (ImAll.mono (tk_same s7) _ hx) hxj
          obtain ⟨p, x1, x2, x3, rfl, hp, i1, i2, i3⟩ := im_trip ir
          obtain rfl := i2.str_inv
          obtain ⟨hk, hl⟩ := ro.kind r (List.mem_of_getElem? hr')
          have g : DGet Hc d0 (kV (Sum.inr r.2.1)) (valV (tabV (ks.map (·.1)) (fun t => V.int ((dims.getD t 0 : Nat) : Int)) ks.length) (Sum.inr r.2.1)) := .k (s6 _ _ eD)
          have tg := tab_get (g := fun t => V.int ((dims.getD t 0 : Nat) : Int)) ok.nd hk
          rw [List.length_map] at tg
          rw [tg, ← hl] at g
          have g2 : DGet Hc d0 (.str r.2.1) (some (.int (r.2.2.length : Nat))) := g
          have l32 : r.2.2.length ≤ 32 := by
            rw [hl, List.getD_eq_getElem?_getD]
            by_cases hh : (ks.map (·.1)).idxOf r.2.1 < dims.length
            · rw [List.getElem?_eq_getElem hh]
              exact d32 _ (List.getElem_mem hh)
            · rw [List.getElem?_eq_none (by omega)]; decide
          refine ⟨p, _, rfl, hp.sq, rfl, x1, _, rfl, .str r.2.1, _, rfl, x3, _, rfl, rfl, ?_⟩
          refine ⟨.str r.2.1, rfl, .str r.2.1, _, .type "str", _, true, rfl, .ty _, .base (.str r.2.1), kit_ty (by decide +kernel), true, rfl, iteF ?_⟩
          refine ⟨.str r.2.1, rfl, .ref d0, rfl, d0, _, rfl, g2, false, rfl, iteF ?_⟩
          exact ⟨x3, rfl, .ref d0, rfl, .str r.2.1, rfl, d0, _, rfl, g2, x3, r.2.2, rfl, i3, by omega, fun H5 s5 => ⟨true, rfl, iteF ⟨_, _, _, rfl, s6.trans s5⟩⟩⟩
        · rintro σ Hb ⟨y4, y5, y6, rfl, s6⟩
          have s7 := s3.trans s6
          have ha7 := ha.mono (tk_same s7)
          refine ⟨.ref a, rfl, a, rfl, ⟨_, ha7.sq⟩, fun D3 hD3 => ?_⟩
          refine lc_all (walk_tup (xs := xs)) (fun i Hx => Same Hb Hx ∧ Hx D3 = some (.lst (((rs.take i).map (·.1)).map V.str))) ⟨same_new hD3, upd_same⟩ (fun i Hx _ z => (ha7.mono (tk_same z.1)).sq) (fun i x Hx Hy hi z y => ?_) (fun Hx z => ?_)
          · obtain ⟨s8, eD3⟩ := z
            obtain ⟨rfl, hxi⟩ := y
            obtain ⟨r, hr', ir⟩ := all_get (ImAll.mono (tk_same (s7.trans s8)) _ hx) hxi
            obtain ⟨p, x1, x2, x3, rfl, hp, i1, i2, i3⟩ := im_trip ir
            obtain rfl := i1.str_inv
            refine ⟨rfl, .ref p, rfl, p, _, 0, _, rfl, rfl, hp.sq, atI_nat (j := 0) rfl, _, eD3, small1000 (by rw [List.length_map, List.length_map, List.length_take]; omega), fun b o e => ?_, ?_⟩
            · rw [upd_ne (ne_of_none e hD3)]; exact s8 _ _ e
            · rw [upd_same, List.take_add_one, hr', List.map_append, List.map_append]; rfl
          · obtain ⟨s8, eD3⟩ := z
            rw [lx, List.take_of_length_le (Nat.le_refl _)] at eD3
            exact ⟨D3, rs.map (·.1), rfl, eD3, ro.nd, by rw [List.length_map]; omega, q _ (s7.trans s8)⟩
abbrev s_are_maps : Stmt := topS 47
theorem sc_are_maps : FnScope ["thing", "kinds", "dims", "most", "table", "_", "makers", "dim", "row", "maker", "terms"] ["thing", "kinds", "dims", "most"] (defScope s_are_maps) := ⟨rfl, rfl, rfl, by decide +kernel, rfl, by decide +kernel, by decide +kernel⟩
structure MapsOk (ks : List Kd) (dims : List Nat) (most : Nat) (maps : List (List (List Tm))) : Prop where
  lm : maps.length = ks.length
  lr : ∀ (i : Nat) kd row, ks[i]? = some kd → maps[i]? = some row → row.length = kd.2.length
  tm : ∀ (i : Nat) kd row, ks[i]? = some kd → maps[i]? = some row → ∀ (j : Nat) m ts, kd.2[j]? = some m → row[j]? = some ts → TermsOk (dims.getD i 0) (m.2.map (wd (ks.map (·.1)) dims)) most ts
def sp_maps (K : PySem.W.Frag) : Sp := fun vs H Q _ => ∃ v u z maps ks dims most, vs = [v, u, z, .int (most : Nat)] ∧ Im K H v (mpD maps) ∧ Im K H u (ksD ks) ∧ Im K H z (nsD dims) ∧ KindsOk ks ∧ dims.length = ks.length ∧ most ≤ 8000 ∧ MapsOk ks dims most maps ∧ ∀ H', Same H H' → Q (.bl true) H'
set_option maxHeartbeats 1000000 in
theorem ok_are_maps {f : Addr} {fd : FuncData} {k : Nat} (F : Fun K "are_maps" "are_maps" s_are_maps f fd) (T : Tx K mg){k1 : Nat} (D_is_row : Def P w K mg base k1 "is_row" s_is_row ["thing", "low", "high"] (sp_is_row K)) {k2 : Nat} (D_maker_table : Def P w K mg base k2 "maker_table" s_maker_table ["kinds"] (sp_maker_table K)) {k3 : Nat} (D_are_terms : Def P w K mg base k3 "are_terms" s_are_terms ["thing", "dim", "widths", "most"] (sp_terms K)) {k4 : Nat} (D_widths_of : Def P w K mg base k4 "widths_of" s_widths_of ["fields", "dims"] (sp_widths K)) (e1 : k1 ≤ k) (e2 : k2 ≤ k) (e3 : k3 ≤ k) (e4 : k4 ≤ k) : FnOk P w K mg base CX0 (k + 1) f fd ["thing", "kinds", "dims", "most"] (sp_maps K) := by
  have nd := sc_are_maps.nd
  refine F.ok sc_are_maps (fun vs H Q E h => ?_) (fun cdv A outer s H vs Q E hr h => ?_)
  · obtain ⟨_, _, _, _, _, _, _, rfl, _⟩ := h
    rfl
  · obtain ⟨v, u, z, maps, ks, dims, most, rfl, iv, iu, iz, ok, ld, m8, mo, q⟩ := h
    obtain ⟨a, xs, rfl, ha, hx⟩ := iv.tuple_inv
    obtain ⟨b, ys, rfl, hb, hy⟩ := iu.tuple_inv
    obtain ⟨c, zs, rfl, hc, hz⟩ := iz.tuple_inv
    obtain rfl := im_nats hz
    have lx := all_len hx
    have ly := all_len hy
    have lm := mo.lm
    have kf := ok.few
    refine ⟨_, (pss_cons (ps_if (pt_not (pt_val (pe_def D_is_row (hr.mono (by omega)) rfl (pa_cons (pv 0) (pa_cons (pe_callB (kcall_len K) (by rfl) T.m_len PySem.boot_len (pa_cons (pv 1) pa_nil)) (pa_cons (pe_callB (kcall_len K) (by rfl) T.m_len PySem.boot_len (pa_cons (pv 1) pa_nil)) pa_nil))))))
        (pss_one (ps_ret pe_bl))
        pss_nil)
      (pss_cons (ps_set (i := 4) nd rfl (.inl rfl) (pe_def D_maker_table (hr.mono (by omega)) rfl (pa_cons (pv 1) pa_nil)))
      (pss_cons (ps_for PassesOwn.never rfl (kpi_zipT3 K (by rfl) T.m_zip (pa_cons (pv 1) (pa_cons (pv 2) (pa_cons (pv 0) pa_nil)))) (kpg_tup K (n := 3) rfl (pgs_cons (kpg_tup K (n := 2) rfl (pgs_cons (pg_name (i := 5) nd rfl (.inl rfl)) (pgs_cons (pg_name (i := 6) nd rfl (.inl rfl)) pgs_nil))) (pgs_cons (pg_name (i := 7) nd rfl (.inl rfl)) (pgs_cons (pg_name (i := 8) nd rfl (.inl rfl)) pgs_nil))))
        (pss_cons (ps_if (pt_not (pt_val (pe_def D_is_row (hr.mono (by omega)) rfl (pa_cons (pv 8) (pa_cons (pe_callB (kcall_len K) (by rfl) T.m_len PySem.boot_len (pa_cons (pv 6) pa_nil)) (pa_cons (pe_callB (kcall_len K) (by rfl) T.m_len PySem.boot_len (pa_cons (pv 6) pa_nil)) pa_nil))))))
          (pss_one (ps_ret pe_bl))
          pss_nil)
        (pss_one (ps_for PassesOwn.never rfl (kpi_zip K (by rfl) T.m_zip (pa_cons (pv 6) (pa_cons (pv 8) pa_nil))) (kpg_tup K (n := 2) rfl (pgs_cons (kpg_tup K (n := 2) rfl (pgs_cons (pg_name (i := 9) nd rfl (.inl rfl)) (pgs_cons (pg_name (i := 5) nd rfl (.inl rfl)) pgs_nil))) (pgs_cons (pg_name (i := 10) nd rfl (.inl rfl)) pgs_nil)))
          (pss_one (ps_if (pt_not (pt_val (pe_def D_are_terms (hr.mono (by omega)) rfl (pa_cons (pv 10) (pa_cons (pv 7) (pa_cons (pe_def D_widths_of (hr.mono (by omega)) rfl (pa_cons (pe_ix (kix_tup K) (pe_dget (hu_of hr) (pv 4) (pv 9) (fun _ _ => rfl)) pe_int (fun _ _ => rfl)) (pa_cons (pv 2) pa_nil))) (pa_cons (pv 3) pa_nil)))))))
            (pss_one (ps_ret pe_bl))
            pss_nil))))))
      (pss_one (ps_ret pe_bl))))), ?_⟩
    refine ⟨.ref a, rfl, .ref b, rfl, b, ys, rfl, .inr hb.sq, .ref b, rfl, b, ys, rfl, .inr hb.sq, a, xs, _, _, rfl, ha, by omega, by omega, true, rfl, iteF ?_⟩
    refine ⟨.ref b, rfl, .ref b, ks, rfl, .tup hb hy, ok, fun d H1 s1 hd1 tb => ?_⟩
    have hb1 := hb.mono (tk_same s1)
    have hc1 := hc.mono (tk_same s1)
    have ha1 := ha.mono (tk_same s1)
    refine ⟨.ref b, rfl, .ref c, rfl, .ref a, rfl, b, c, a, _, _, _, rfl, hb1.sq, hc1.sq, ha1.sq, ?_⟩
    have lz : ys.length = (dims.map fun n : Nat => V.int (n : Nat)).length := by rw [List.length_map, ly]; exact ld.symm
    refine for_it (walk_zipT3 (xs := ys) (ys := dims.map fun n : Nat => V.int (n : Nat)) (zs := xs) lz (by omega)) (fun j σ Hb => ∃ (y5 y6 y7 y8 y9 y10 : Option V), σ = [some (.ref a), some (.ref b), some (.ref c), some (.int (most : Nat)), some (.ref d), y5, y6, y7, y8, y9, y10] ∧ Same H1 Hb) ⟨_, _, _, _, _, _, rfl, Same.refl _⟩ (fun j σ Hb _ z => ?_) ?_ ?_
    · obtain ⟨_, _, _, _, _, _, _, s6⟩ := z
      exact ⟨(hb1.mono (tk_same s6)).sq, (hc1.mono (tk_same s6)).sq, (ha1.mono (tk_same s6)).sq⟩
    · rintro i x σ Hb Hc hi ⟨y5, y6, y7, y8, y9, y10, rfl, s6⟩ ⟨T, x1, x2, x3, rfl, hT, rfl, e1, e2, e3⟩
      simp only [List.getElem?_map] at e2
      obtain ⟨dm, hdm, rfl⟩ := Option.map_eq_some_iff.mp e2
      have sH := s1.trans s6
      obtain ⟨kd, hkd, ikd⟩ := all_get (ImAll.mono (tk_same sH) _ hy) e1
      obtain ⟨row, hrow, irow⟩ := all_get (ImAll.mono (tk_same sH) _ hx) e3
      obtain ⟨pk, u1, u2, rfl, hpk, iu1, iu2⟩ := im_pair ikd
      obtain rfl := iu1.str_inv
      obtain ⟨pm, us, rfl, hpm, ius⟩ := iu2.tuple_inv
      obtain ⟨pr, ws, rfl, hpr, iws⟩ := irow.tuple_inv
      have kmem := List.mem_of_getElem? hkd
      have lus : us.length = kd.2.length := all_len ius
      have lws : ws.length = row.length := all_len iws
      have lrow := mo.lr i kd row hkd hrow
      have mk6 := ok.mks kd kmem
      have sT := same_new (o := .tup [.ref pk, .int (dm : Nat), .ref pr]) hT
      refine ⟨T, _, rfl, .of upd_same, rfl, .ref pk, _, rfl, pk, _, rfl, (hpk.mono (tk_same sT)).sq, rfl, .str kd.1, _, rfl, .ref pm, _, rfl, rfl, .int (dm : Nat), _, rfl, .ref pr, _, rfl, rfl, ?_⟩
      have hpm2 := hpm.mono (tk_same sT)
      have hpr2 := hpr.mono (tk_same sT)
      have ius2 := ImAll.mono (tk_same sT) _ ius
      have iws2 := ImAll.mono (tk_same sT) _ iws
      have s7 := s6.trans sT
      generalize upd Hb T (.tup [.ref pk, .int (dm : Nat), .ref pr]) = H2 at *
      refine ⟨.ref pr, rfl, .ref pm, rfl, pm, us, rfl, .inr hpm2.sq, .ref pm, rfl, pm, us, rfl, .inr hpm2.sq, pr, ws, _, _, rfl, hpr2, by omega, by omega, true, rfl, iteF ?_⟩
      refine ⟨.ref pm, rfl, .ref pr, rfl, pm, pr, _, _, rfl, .inr ⟨hpm2.sq, hpr2.sq, ?_⟩⟩
      refine for_it (walk_zipT (xs := us) (ys := ws) (by omega)) (fun j σ Hd => ∃ (y5 y9 y10 : Option V), σ = [some (.ref a), some (.ref b), some (.ref c), some (.int (most : Nat)), some (.ref d), y5, some (.ref pm), some (.int (dm : Nat)), some (.ref pr), y9, y10] ∧ Same H2 Hd) ⟨_, _, _, rfl, Same.refl _⟩ (fun j σ Hd _ z => ?_) ?_ ?_
      · obtain ⟨_, _, _, _, s8⟩ := z
        exact ⟨(hpm2.mono (tk_same s8)).sq, (hpr2.mono (tk_same s8)).sq⟩
      · rintro j x σ Hd He hj ⟨y5, y9, y10, rfl, s8⟩ ⟨T2, x1, x2, rfl, hT2, rfl, f1, f2⟩
        obtain ⟨m, hm, im⟩ := all_get (ImAll.mono (tk_same s8) _ ius2) f1
        obtain ⟨ts, hts, its⟩ := all_get (ImAll.mono (tk_same s8) _ iws2) f2
        obtain ⟨pp, w1, w2, rfl, hpp, iw1, iw2⟩ := im_pair im
        obtain rfl := iw1.str_inv
        have to := mo.tm i kd row hkd hrow j m ts hm hts
        have sT2 := same_new (o := .tup [.ref pp, x2]) hT2
        refine ⟨T2, _, rfl, .of upd_same, rfl, .ref pp, _, rfl, pp, _, rfl, (hpp.mono (tk_same sT2)).sq, rfl, .str m.1, _, rfl, w2, _, rfl, rfl, x2, _, rfl, rfl, ?_⟩
        have s9 := (s7.trans s8).trans sT2
        have tb9 := tb.same s9
        obtain ⟨vr, gr, ir⟩ := tb_get tb9 ok hkd hm
        obtain ⟨qr, r1, r2, r3, rfl, hqr, ir1, ir2, ir3⟩ := im_trip ir
        have its9 := Im.mono (tk_same sT2) _ its
        have iz9 : Im K (upd Hd T2 (.tup [.ref pp, x2])) (.ref c) (nsD dims) := Im.mono (tk_same (s1.trans s9)) _ (.tup hc hz)
        generalize upd Hd T2 (.tup [.ref pp, x2]) = H9 at *
        have l4 := (ok.mkk _ kmem _ (List.mem_of_getElem? hm)).2
        have ir3' : Im K H9 r3 (.tuple ((m.2.map (placeOf (ks.map (·.1)))).map .int)) := ir3
        refine ⟨x2, rfl, .int (dm : Nat), rfl, .ref d, rfl, .str m.1, rfl, d, _, rfl, gr, qr, _, 2, r3, rfl, rfl, hqr.sq, atI_nat (j := 2) rfl, .ref c, rfl, r3, .ref c, _, dims, rfl, ir3', iz9, by rw [List.length_map]; omega, fun f hf => ?_, fun Dw H10 s10 hDw eDw => ?_⟩
        · obtain ⟨f', _, rfl⟩ := List.mem_map.mp hf
          have := place_in (ns := ks.map (·.1)) f'
          rw [List.length_map] at this
          rw [ld]; exact this
        · have edm : dims.getD i 0 = dm := by rw [List.getD_eq_getElem?_getD, hdm]; rfl
          rw [edm] at to
          have ewd : (m.2.map (placeOf (ks.map (·.1)))).map (wdI dims) = m.2.map (wd (ks.map (·.1)) dims) := by
            rw [List.map_map]
            exact List.map_congr_left fun f _ => wdI_place f
          rw [ewd] at eDw
          exact ⟨.int (most : Nat), rfl, x2, Dw, ts, dm, _, most, rfl, Im.mono (tk_same s10) _ its9, eDw, by rw [List.length_map]; omega, m8, to, fun H11 s11 => ⟨true, rfl, iteF ⟨_, _, _, rfl, ((s8.trans sT2).trans s10).trans s11⟩⟩⟩
      · rintro σ Hd ⟨y5, y9, y10, rfl, s8⟩
        exact ⟨_, _, _, _, _, _, rfl, s7.trans s8⟩
    · rintro σ Hb ⟨y5, y6, y7, y8, y9, y10, rfl, s6⟩
      exact q _ (s1.trans s6)
end
end K63

set_option Elab.async false
set_option linter.all false
set_option maxRecDepth 100000
set_option exponentiation.threshold 20000
set_option pp.deepTerms false
set_option pp.deepTerms.threshold 8
namespace K63
open PySem PySem.Spec PyProof.Rows L2 Ly Mt
/-- where the errors' classes stand -/
structure Er where
  (r f u : Addr)
structure Tr (K : PySem.W.Frag) (mg : Str → Option Value) (er : Er) : Prop where
  g_BadRows : mg "BadRows" = some (.ref er.r)
  x_BadRows : PySem.W.excIn K er.r [.type "ValueError", .type "Exception", .type "BaseException", .type "object"] "ValueError.__new__" = true
  k_BadRows : PySem.W.keepIn K (.ref er.r) = true
  b_BadRows : PySem.W.subIn K (.ref er.r) (.type "BaseException") = some true
  t_BadRows : PySem.W.typeIn K (.ref er.r) = some (.type "type")
  g_BadForm : mg "BadForm" = some (.ref er.f)
  x_BadForm : PySem.W.excIn K er.f [.type "ValueError", .type "Exception", .type "BaseException", .type "object"] "ValueError.__new__" = true
  k_BadForm : PySem.W.keepIn K (.ref er.f) = true
  b_BadForm : PySem.W.subIn K (.ref er.f) (.type "BaseException") = some true
  t_BadForm : PySem.W.typeIn K (.ref er.f) = some (.type "type")
  g_Unlike : mg "Unlike" = some (.ref er.u)
  x_Unlike : PySem.W.excIn K er.u [.type "ValueError", .type "Exception", .type "BaseException", .type "object"] "ValueError.__new__" = true
  k_Unlike : PySem.W.keepIn K (.ref er.u) = true
  b_Unlike : PySem.W.subIn K (.ref er.u) (.type "BaseException") = some true
  t_Unlike : PySem.W.typeIn K (.ref er.u) = some (.type "type")
/-! ### rows of trees as data -/
abbrev Rw := Str × List Int
def rwD (r : Rw) : PyData := .tuple [.str r.1, .tuple (r.2.map .int)]
def rwsD (rs : List Rw) : PyData := .tuple (rs.map rwD)
/-- the row's maker -/
structure At (ks : List Kd) (r : Rw) (i j : Nat) (kd : Kd) (m : Mk) : Prop where
  hk : ks[i]? = some kd
  hm : kd.2[j]? = some m
  nm : r.1 = m.1
def KindAt (ks : List Kd) (rows : List Rw) (t i : Nat) : Prop := ∃ r j kd m, rows[t]? = some r ∧ At ks r i j kd m
structure RowsOk (ks : List Kd) (rows : List Rw) : Prop where
  few : 1 ≤ rows.length ∧ rows.length ≤ 96
  each : ∀ (t : Nat) r, rows[t]? = some r → ∃ i j kd m, At ks r i j kd m ∧ r.2.length = m.2.length ∧
    ∀ (s : Nat) f e, m.2[s]? = some f → r.2[s]? = some e → f ∈ ks.map (·.1) → ∃ n : Nat, e = n ∧ n < t ∧ KindAt ks rows n ((ks.map (·.1)).idxOf f)
section
variable {P : Program} {w : World} {K : PySem.W.Frag} {mg : Str → Option Value} {base : Heap}
abbrev s_has_form : Stmt := topS 48
theorem sc_has_form : FnScope ["thing", "wide", "kinds", "dims", "maps", "reads"] ["thing", "wide"] (defScope s_has_form) := ⟨rfl, rfl, rfl, by decide +kernel, rfl, by decide +kernel, by decide +kernel⟩
def sp_has_form (K : PySem.W.Frag) : Sp := fun vs H Q _ => ∃ v F wide, vs = [v, .int (wide : Nat)] ∧ Im K H v (fmD F) ∧ FormOk wide F ∧ ∀ H', Same H H' → Q (.bl true) H'
theorem ok_has_form {f : Addr} {fd : FuncData} {k : Nat} (F : Fun K "has_form" "has_form" s_has_form f fd) (T : Tx K mg){k1 : Nat} (D_is_row : Def P w K mg base k1 "is_row" s_is_row ["thing", "low", "high"] (sp_is_row K)) {k2 : Nat} (D_is_kinds : Def P w K mg base k2 "is_kinds" s_is_kinds ["thing"] (sp_is_kinds K)) {k3 : Nat} (D_are_dims : Def P w K mg base k3 "are_dims" s_are_dims ["thing", "size", "wide"] (sp_dims K)) {k4 : Nat} (D_are_maps : Def P w K mg base k4 "are_maps" s_are_maps ["thing", "kinds", "dims", "most"] (sp_maps K)) {k5 : Nat} (D_are_reads : Def P w K mg base k5 "are_reads" s_are_reads ["thing", "kinds", "dims"] (sp_reads K)) (e1 : k1 ≤ k) (e2 : k2 ≤ k) (e3 : k3 ≤ k) (e4 : k4 ≤ k) (e5 : k5 ≤ k) : FnOk P w K mg base CX0 (k + 1) f fd ["thing", "wide"] (sp_has_form K) := by
  have nd := sc_has_form.nd
  refine F.ok sc_has_form (fun vs H Q E h => ?_) (fun cdv A outer s H vs Q E hr h => ?_)
  · obtain ⟨_, _, _, rfl, _⟩ := h
    rfl
  · obtain ⟨v, F, wide, rfl, iv, ok, q⟩ := h
    obtain ⟨a, x1, x2, x3, x4, rfl, ha, i1, i2, i3, i4⟩ := im_quad iv
    have kf := ok.kinds.few
    have wid := ok.wid
    have ld := ok.ld
    refine ⟨_, (pss_cons (ps_if (PW.pt (pw_or (pt_not (pt_val (pe_def D_is_row (hr.mono (by omega)) rfl (pa_cons (pv 0) (pa_cons pe_int (pa_cons pe_int pa_nil)))))) (pw_or (pt_not (pt_val (pe_def D_is_kinds (hr.mono (by omega)) rfl (pa_cons (pe_ix (kix_tup K) (pv 0) pe_int (fun _ _ => rfl)) pa_nil)))) (pw_or1 (pt_not (pt_val (pe_def D_are_dims (hr.mono (by omega)) rfl (pa_cons (pe_ix (kix_tup K) (pv 0) pe_int (fun _ _ => rfl)) (pa_cons (pe_callB (kcall_len K) (by rfl) T.m_len PySem.boot_len (pa_cons (pe_ix (kix_tup K) (pv 0) pe_int (fun _ _ => rfl)) pa_nil)) (pa_cons (pv 1) pa_nil))))))))))
        (pss_one (ps_ret pe_bl))
        pss_nil)
      (pss_cons (ps_asg (pv 0) (kpg_tup K (n := 4) rfl (pgs_cons (pg_name (i := 2) nd rfl (.inl rfl)) (pgs_cons (pg_name (i := 3) nd rfl (.inl rfl)) (pgs_cons (pg_name (i := 4) nd rfl (.inl rfl)) (pgs_cons (pg_name (i := 5) nd rfl (.inl rfl)) pgs_nil))))))
      (pss_one (ps_ret (pe_and (pe_def D_are_maps (hr.mono (by omega)) rfl (pa_cons (pv 4) (pa_cons (pv 2) (pa_cons (pv 3) (pa_cons (pe_op op_mulW (pe_gv rfl T.g_MOST_TERMS) (pv 1)) pa_nil))))) (pe_one (pe_def D_are_reads (hr.mono (by omega)) rfl (pa_cons (pv 5) (pa_cons (pv 2) (pa_cons (pv 3) pa_nil)))))))))), ?_⟩
    refine ⟨.ref a, rfl, a, _, 4, 4, rfl, ha, (by show (4 : Int) ≤ 4; decide), (by show (4 : Int) ≤ 4; decide), true, rfl, iteF ?_⟩
    refine ⟨.ref a, rfl, a, _, 0, _, rfl, rfl, ha.sq, atI_nat (j := 0) rfl, x1, F.ks, rfl, i1, ok.kinds, fun H1 s1 => ⟨true, rfl, iteF ?_⟩⟩
    have ha1 := ha.mono (tk_same s1)
    obtain ⟨b, ys, rfl, hb, hy⟩ := i1.tuple_inv
    have ly : ys.length = F.ks.length := all_len hy
    have hb1 := hb.mono (tk_same s1)
    refine ⟨.ref a, rfl, a, _, 1, _, rfl, rfl, ha1.sq, atI_nat (j := 1) rfl, .ref a, rfl, a, _, 0, _, rfl, rfl, ha1.sq, atI_nat (j := 0) rfl, b, ys, rfl, .inr hb1.sq, .int (wide : Nat), rfl, x2, F.dims, wide, by rw [ly, ld]; rfl, Im.mono (tk_same s1) _ i2, by omega, wid, ok.hd, ok.sd, fun H2 s2 => ⟨true, rfl, iteF ?_⟩⟩
    have t2 := tk_same (s1.trans s2)
    refine ⟨.ref a, rfl, a, _, rfl, (ha.mono t2).sq, rfl, .ref b, _, rfl, x2, _, rfl, x3, _, rfl, x4, _, rfl, rfl, ?_⟩
    refine ⟨x3, rfl, .ref b, rfl, x2, rfl, .int (wide : Nat), rfl, _, _, rfl, rfl, wide_mul (a := 13) (b := 2) (by decide) (by omega) (by decide) (by decide) (by decide), x3, .ref b, x2, F.maps, F.ks, F.dims, 4000 * wide, by rw [show ((4000 * wide : Nat) : Int) = 4000 * (wide : Int) by omega]; rfl, Im.mono t2 _ i3, Im.mono t2 _ (.tup hb hy), Im.mono t2 _ i2, ok.kinds, ld, by omega, ⟨ok.lm, ok.lr, ok.tm⟩, fun H3 s3 => ⟨true, rfl, iteT ?_⟩⟩
    have t3 := tk_same ((s1.trans s2).trans s3)
    exact ⟨x4, rfl, .ref b, rfl, x2, rfl, x4, .ref b, x2, F.rds, F.ks, F.dims, rfl, Im.mono t3 _ i4, Im.mono t3 _ (.tup hb hy), Im.mono t3 _ i2, ok.kinds, ld, fun d hd => by have := ok.hd d hd; omega, ok.rd, fun H4 s4 => q _ (((s1.trans s2).trans s3).trans s4)⟩
abbrev s_need_form : Stmt := topS 50
theorem sc_need_form : FnScope ["form"] ["form"] (defScope s_need_form) := ⟨rfl, rfl, rfl, by decide +kernel, rfl, by decide +kernel, by decide +kernel⟩
def sp_need_form (K : PySem.W.Frag) (wide : Nat) : Sp := fun vs H Q _ => ∃ v F, vs = [v] ∧ Im K H v (fmD F) ∧ FormOk wide F ∧ ∀ H', Same H H' → Q .non H'
theorem ok_need_form {f : Addr} {fd : FuncData} {k : Nat} (F : Fun K "need_form" "need_form" s_need_form f fd) (T : Tx K mg){er : Er} (TE : Tr K mg er) {k1 : Nat} (D_has_form : Def P w K mg base k1 "has_form" s_has_form ["thing", "wide"] (sp_has_form K)) (e1 : k1 ≤ k) : FnOk P w K mg base (L2.CX P w) (k + 1) f fd ["form"] (sp_need_form K 1) := by
  have nd := sc_need_form.nd
  refine F.okX sc_need_form (fun vs H Q E h => ?_) (fun cdv A outer s H vs Q E hr h => ?_)
  · obtain ⟨_, _, rfl, _⟩ := h
    rfl
  · obtain ⟨v, F, rfl, iv, ok, q⟩ := h
    refine ⟨_, (pss_one (ps_if (pt_not (pt_val (pe_def D_has_form (hr.mono (by omega)) rfl (pa_cons (pv 0) (pa_cons pe_int pa_nil)))))
        (pss_one (ps_raise rfl (takes_of rfl rfl rfl rfl) (pmk_own PySem.F.excBase_ValueError TE.x_BadForm TE.g_BadForm TE.k_BadForm (raises_own TE.b_BadForm TE.t_BadForm) rfl)))
        pss_nil)), ?_⟩
    exact ⟨v, rfl, v, F, 1, rfl, iv, ok, fun H1 s1 => ⟨true, rfl, iteF (q _ s1)⟩⟩
abbrev s_need_wide : Stmt := topS 51
theorem sc_need_wide : FnScope ["form"] ["form"] (defScope s_need_wide) := ⟨rfl, rfl, rfl, by decide +kernel, rfl, by decide +kernel, by decide +kernel⟩
theorem ok_need_wide {f : Addr} {fd : FuncData} {k : Nat} (F : Fun K "need_wide" "need_wide" s_need_wide f fd) (T : Tx K mg){er : Er} (TE : Tr K mg er) {k1 : Nat} (D_has_form : Def P w K mg base k1 "has_form" s_has_form ["thing", "wide"] (sp_has_form K)) (e1 : k1 ≤ k) : FnOk P w K mg base (L2.CX P w) (k + 1) f fd ["form"] (sp_need_form K 2) := by
  have nd := sc_need_wide.nd
  refine F.okX sc_need_wide (fun vs H Q E h => ?_) (fun cdv A outer s H vs Q E hr h => ?_)
  · obtain ⟨_, _, rfl, _⟩ := h
    rfl
  · obtain ⟨v, F, rfl, iv, ok, q⟩ := h
    refine ⟨_, (pss_one (ps_if (pt_not (pt_val (pe_def D_has_form (hr.mono (by omega)) rfl (pa_cons (pv 0) (pa_cons pe_int pa_nil)))))
        (pss_one (ps_raise rfl (takes_of rfl rfl rfl rfl) (pmk_own PySem.F.excBase_ValueError TE.x_BadForm TE.g_BadForm TE.k_BadForm (raises_own TE.b_BadForm TE.t_BadForm) rfl)))
        pss_nil)), ?_⟩
    exact ⟨v, rfl, v, F, 2, rfl, iv, ok, fun H1 s1 => ⟨true, rfl, iteF (q _ s1)⟩⟩
abbrev s_is_entry : Stmt := topS 34
theorem sc_is_entry : FnScope ["table", "rows", "field", "entry", "at"] ["table", "rows", "field", "entry", "at"] (defScope s_is_entry) := ⟨rfl, rfl, rfl, by decide +kernel, rfl, by decide +kernel, by decide +kernel⟩
def sp_entry (K : PySem.W.Frag) : Sp := fun vs H Q _ => ∃ (d : Addr) (v : V) (ks : List Kd) (rows : List Rw) (fl e : Int) (t : Nat), vs = [.ref d, v, .int fl, .int e, .int (t : Nat)] ∧ KindsOk ks ∧ TableAt K H d (rowsOf ks ks.length) ∧ Im K H v (rwsD rows) ∧ (fl = -1 ∨ ∃ n i : Nat, e = n ∧ n < t ∧ fl = i ∧ KindAt ks rows n i) ∧ Q (.bl true) H
theorem ok_is_entry {f : Addr} {fd : FuncData} {k : Nat} (F : Fun K "is_entry" "is_entry" s_is_entry f fd) (T : Tx K mg){k1 : Nat} (D_is_int : Def P w K mg base k1 "is_int" s_is_int ["thing"] (sp_is_int K)) (e1 : k1 ≤ k) : FnOk P w K mg base CX0 (k + 1) f fd ["table", "rows", "field", "entry", "at"] (sp_entry K) := by
  have nd := sc_is_entry.nd
  refine F.ok sc_is_entry (fun vs H Q E h => ?_) (fun cdv A outer s H vs Q E hr h => ?_)
  · obtain ⟨_, _, _, _, _, _, _, rfl, _⟩ := h
    rfl
  · obtain ⟨d, v, ks, rows, fl, e, t, rfl, ok, tb, iv, hf, q⟩ := h
    obtain ⟨a, xs, rfl, ha, hx⟩ := iv.tuple_inv
    refine ⟨_, (pss_cons (ps_if (pt_not (pt_val (pe_def D_is_int (hr.mono (by omega)) rfl (pa_cons (pv 3) pa_nil))))
        (pss_one (ps_ret pe_bl))
        pss_nil)
      (pss_cons (ps_if (pt_cmpR op_eq (pv 2) (pe_gv rfl T.g_NUMBER) (nomark _))
        (pss_one (ps_ret pe_bl))
        pss_nil)
      (pss_one (ps_ret (pe_and (pe_chain op_le op_lt pe_int (pv 3) (pv 4)) (pe_one (pe_cmpR op_eq (pe_ix (kix_tup K) (pe_dget (hu_of hr) (pv 0) (pe_ix (kix_tup K) (pe_ix (kix_tup K) (pv 1) (pv 3) (fun _ _ => rfl)) pe_int (fun _ _ => rfl)) (fun _ _ => rfl)) pe_int (fun _ _ => rfl)) (pv 2) (nomark _)))))))), ?_⟩
    refine ⟨.int e, rfl, .int e, .int e, rfl, .int e, true, rfl, iteF ?_⟩
    refine ⟨.int fl, rfl, rfl, _, rfl, ?_⟩
    by_cases h1 : fl = -1
    · rw [decide_eq_true (by rw [h1])]
      exact iteT q
    · rw [decide_eq_false (fun z => h1 (V.int.inj z))]
      obtain ⟨n, i, rfl, hn, rfl, r, j, kd, m, hr', at'⟩ := hf.resolve_left h1
      obtain ⟨x, ex, ix⟩ := all_at hx hr'
      obtain ⟨p, y1, y2, rfl, hp, iy1, iy2⟩ := im_pair ix
      obtain rfl := iy1.str_inv
      obtain ⟨vr, gr, ir⟩ := tb_get tb ok at'.hk at'.hm
      obtain ⟨qr, r1, r2, r3, rfl, hqr, ir1, ir2, ir3⟩ := im_trip ir
      obtain rfl := ir1.int_inv
      rw [← at'.nm] at gr
      refine iteF ⟨.int (n : Nat), rfl, _, _, rfl, rfl, _, rfl, ?_⟩
      rw [decide_eq_true (by omega)]
      refine iteT ⟨.int (t : Nat), rfl, _, _, rfl, rfl, _, rfl, ?_⟩
      rw [decide_eq_true (by omega)]
      refine iteT ⟨.ref d, rfl, .ref a, rfl, .int (n : Nat), rfl, a, xs, _, .ref p, rfl, rfl, ha.sq, atI_nat ex, p, _, 0, _, rfl, rfl, hp.sq, atI_nat (j := 0) rfl, d, _, rfl, gr, qr, _, 0, _, rfl, rfl, hqr.sq, atI_nat (j := 0) rfl, .int (i : Nat), rfl, rfl, ?_⟩
      have e9 : decide (V.int (((mkRow (ks.map (·.1)) i j m).2.1 : Nat) : Int) = V.int (i : Nat)) = true := decide_eq_true rfl
      rw [e9]
      exact q
abbrev s_rows_fit : Stmt := topS 35
theorem sc_rows_fit : FnScope ["table", "thing", "at", "row", "fields", "field", "entry"] ["table", "thing"] (defScope s_rows_fit) := ⟨rfl, rfl, rfl, by decide +kernel, rfl, by decide +kernel, by decide +kernel⟩
def sp_rows_fit (K : PySem.W.Frag) : Sp := fun vs H Q _ => ∃ (d : Addr) (v : V) (ks : List Kd) (rows : List Rw), vs = [.ref d, v] ∧ KindsOk ks ∧ TableAt K H d (rowsOf ks ks.length) ∧ Im K H v (rwsD rows) ∧ RowsOk ks rows ∧ ∀ H', Same H H' → Q (.bl true) H'
set_option maxHeartbeats 1000000 in
theorem ok_rows_fit {f : Addr} {fd : FuncData} {k : Nat} (F : Fun K "rows_fit" "rows_fit" s_rows_fit f fd) (T : Tx K mg){k1 : Nat} (D_is_row : Def P w K mg base k1 "is_row" s_is_row ["thing", "low", "high"] (sp_is_row K)) {k2 : Nat} (D_is_pair : Def P w K mg base k2 "is_pair" s_is_pair ["thing"] (sp_is_pair K)) {k3 : Nat} (D_is_entry : Def P w K mg base k3 "is_entry" s_is_entry ["table", "rows", "field", "entry", "at"] (sp_entry K)) (e1 : k1 ≤ k) (e2 : k2 ≤ k) (e3 : k3 ≤ k) : FnOk P w K mg base CX0 (k + 1) f fd ["table", "thing"] (sp_rows_fit K) := by
  have nd := sc_rows_fit.nd
  refine F.ok sc_rows_fit (fun vs H Q E h => ?_) (fun cdv A outer s H vs Q E hr h => ?_)
  · obtain ⟨_, _, _, _, rfl, _⟩ := h
    rfl
  · obtain ⟨d, v, ks, rows, rfl, ok, tb, iv, ro, q⟩ := h
    obtain ⟨a, xs, rfl, ha, hx⟩ := iv.tuple_inv
    have lx := all_len hx
    have few := ro.few
    refine ⟨_, (pss_cons (ps_if (pt_not (pt_val (pe_def D_is_row (hr.mono (by omega)) rfl (pa_cons (pv 1) (pa_cons pe_int (pa_cons (pe_gv rfl T.g_MOST_ROWS) pa_nil))))))
        (pss_one (ps_ret pe_bl))
        pss_nil)
      (pss_cons (ps_for PassesOwn.never rfl (kpi_enumT K (by rfl) T.m_enumerate (pa_cons (pv 1) pa_nil)) (kpg_tup K (n := 2) rfl (pgs_cons (pg_name (i := 2) nd rfl (.inr rfl)) (pgs_cons (pg_name (i := 3) nd rfl (.inl rfl)) pgs_nil)))
        (pss_cons (ps_if (PW.pt (pw_or (pt_not (pt_val (pe_def D_is_pair (hr.mono (by omega)) rfl (pa_cons (pv 3) pa_nil)))) (pw_or (pt_not (pt_val (pe_callB (kcall_isi K) (by rfl) T.m_isinstance (by decide +kernel) (pa_cons (pe_ix (kix_tup K) (pv 3) pe_int (fun _ _ => rfl)) (pa_cons (pe_bltn (v := .ty "str") (u := .type "str") (by rfl) T.m_str (by decide +kernel) rfl) pa_nil))))) (pw_or1 (pt_cmp (pc_dnotin (hu_of hr) (pe_ix (kix_tup K) (pv 3) pe_int (fun _ _ => rfl)) (pv 0)))))))
          (pss_one (ps_ret pe_bl))
          pss_nil)
        (pss_cons (ps_set (i := 4) nd rfl (.inl rfl) (pe_ix (kix_tup K) (pe_dget (hu_of hr) (pv 0) (pe_ix (kix_tup K) (pv 3) pe_int (fun _ _ => rfl)) (fun _ _ => rfl)) pe_int (fun _ _ => rfl)))
        (pss_cons (ps_if (pt_not (pt_val (pe_def D_is_row (hr.mono (by omega)) rfl (pa_cons (pe_ix (kix_tup K) (pv 3) pe_int (fun _ _ => rfl)) (pa_cons (pe_callB (kcall_len K) (by rfl) T.m_len PySem.boot_len (pa_cons (pv 4) pa_nil)) (pa_cons (pe_callB (kcall_len K) (by rfl) T.m_len PySem.boot_len (pa_cons (pv 4) pa_nil)) pa_nil))))))
          (pss_one (ps_ret pe_bl))
          pss_nil)
        (pss_one (ps_if (pt_not (pt_val (pe_callB (kcr_all K) (by rfl) T.m_all (by decide +kernel) (pa_cons (pe_lc (own := [("field", 5), ("entry", 6)]) (g := _) (tt := tYes) rfl nd (kpi_zip K (by rfl) T.m_zip (pa_cons (pv 4) (pa_cons (pe_ix (kix_tup K) (pv 3) pe_int (fun _ _ => rfl)) pa_nil))) (blkOk_by (by rfl)) (fun _ _ _ _ _ => (kpg_tup K (n := 2) rfl (pgs_cons (pg_name (i := 5) nd rfl (.inl rfl)) (pgs_cons (pg_name (i := 6) nd rfl (.inl rfl)) pgs_nil)))) (fun _ _ _ _ _ => pts_nil) (fun _ _ _ _ _ => (pe_def D_is_entry (hr.mono (by omega)) rfl (pa_cons (pv 0) (pa_cons (pv 1) (pa_cons (pv 5) (pa_cons (pv 6) (pa_cons (pv 2) pa_nil)))))))) pa_nil))))
          (pss_one (ps_ret pe_bl))
          pss_nil))))))
      (pss_one (ps_ret pe_bl)))), ?_⟩
    refine ⟨.ref a, rfl, a, xs, 1, 96, rfl, ha, by omega, by omega, true, rfl, iteF ?_⟩
    refine ⟨.ref a, rfl, a, xs, rfl, ha.sq, ?_⟩
    refine for_it (walk_enumT (xs := xs)) (fun t σ Ha => ∃ (y2 y3 y4 : Option V), σ = [some (.ref d), some (.ref a), y2, y3, y4, none, none] ∧ Same H Ha) ⟨_, _, _, rfl, Same.refl _⟩ (fun t σ Ha _ z => ?_) ?_ ?_
    · obtain ⟨_, _, _, _, sm⟩ := z
      exact (ha.mono (tk_same sm)).sq
    · rintro t x σ Ha Hb ht ⟨y2, y3, y4, rfl, sm⟩ ⟨T, x1, x2, rfl, hT, rfl, e1, e2⟩
      obtain rfl := Option.some.inj e1
      obtain ⟨r, hr', ir⟩ := all_get (ImAll.mono (tk_same sm) _ hx) e2
      obtain ⟨p, z1, z2, rfl, hp, iz1, iz2⟩ := im_pair ir
      obtain rfl := iz1.str_inv
      obtain ⟨pe, es, rfl, hpe, hes⟩ := iz2.tuple_inv
      obtain rfl := im_ints hes
      obtain ⟨i, j, kd, m, at', hl, hent⟩ := ro.each t r hr'
      have sT := same_new (o := .tup [.int (t : Nat), .ref p]) hT
      have ir2 := Im.mono (tk_same sT) _ ir
      have hp2 := hp.mono (tk_same sT)
      have hpe2 := hpe.mono (tk_same sT)
      refine ⟨T, _, rfl, .of upd_same, rfl, .int (t : Nat), _, rfl, .ref p, _, rfl, rfl, ?_⟩
      have s2 := sm.trans sT
      generalize upd Ha T (.tup [.int (t : Nat), .ref p]) = H2 at *
      obtain ⟨vr, gr, irr⟩ := tb_get (tb.same s2) ok at'.hk at'.hm
      obtain ⟨qr, r1, r2, r3, rfl, hqr, ir1, ir22, ir3⟩ := im_trip irr
      have ir3' : Im K H2 r3 (.tuple ((m.2.map (placeOf (ks.map (·.1)))).map .int)) := ir3
      obtain ⟨pf, fs, rfl, hpf, hfs⟩ := ir3'.tuple_inv
      obtain rfl := im_ints hfs
      rw [← at'.nm] at gr
      have l4 := (ok.mkk _ (List.mem_of_getElem? at'.hk) _ (List.mem_of_getElem? at'.hm)).2
      refine ⟨.ref p, rfl, .ref p, rwD r, rfl, Im.dp _ ir2, true, rfl, iteF ?_⟩
      refine ⟨.ref p, rfl, p, _, 0, _, rfl, rfl, hp2.sq, atI_nat (j := 0) rfl, .str r.1, _, .type "str", _, true, rfl, .ty _, .base (.str r.1), kit_ty (by decide +kernel), true, rfl, iteF ?_⟩
      refine ⟨.ref p, rfl, p, _, 0, _, rfl, rfl, hp2.sq, atI_nat (j := 0) rfl, .ref d, rfl, d, _, rfl, gr, false, rfl, iteF ?_⟩
      refine ⟨.ref d, rfl, .ref p, rfl, p, _, 0, _, rfl, rfl, hp2.sq, atI_nat (j := 0) rfl, d, _, rfl, gr, qr, _, 2, _, rfl, rfl, hqr.sq, atI_nat (j := 2) rfl, ?_⟩
      refine ⟨.ref p, rfl, p, _, 1, _, rfl, rfl, hp2.sq, atI_nat (j := 1) rfl, .ref pf, rfl, pf, _, rfl, .inr hpf.sq, .ref pf, rfl, pf, _, rfl, .inr hpf.sq, pe, _, _, _, rfl, hpe2, ?_, ?_, true, rfl, iteF ?_⟩
      · simp only [List.length_map]; omega
      · simp only [List.length_map]; omega
      refine ⟨.ref pf, rfl, .ref p, rfl, p, _, 1, _, rfl, rfl, hp2.sq, atI_nat (j := 1) rfl, pf, pe, _, _, rfl, .inr ⟨hpf.sq, hpe2.sq, fun D hD => ?_⟩⟩
      refine lc_yes (walk_zipT (by simp only [List.length_map]; exact hl.symm)) hD (small1000 (by simp only [List.length_map]; omega)) (fun H' s => ⟨(hpf.mono (tk_same s)).sq, (hpe2.mono (tk_same s)).sq⟩) (fun s x H3 H4 R hi s3 y yes => ?_) (fun H3 s3 e3 => ⟨D, _, rfl, .of e3, ?_⟩)
      · obtain ⟨T2, x1, x2, rfl, hT2, rfl, f1, f2⟩ := y
        simp only [List.getElem?_map, List.map_map] at f1 f2
        obtain ⟨fl, hfl, rfl⟩ := Option.map_eq_some_iff.mp f1
        obtain ⟨e, he, rfl⟩ := Option.map_eq_some_iff.mp f2
        have sT2 := same_new (o := .tup [V.int (placeOf (ks.map (·.1)) fl), .int e]) hT2
        refine ⟨T2, _, rfl, .of upd_same, rfl, .int _, _, rfl, .int e, _, rfl, rfl, rfl, .ref d, rfl, .ref a, rfl, .int _, rfl, .int e, rfl, .int (t : Nat), rfl, d, .ref a, ks, rows, _, e, t, rfl, ok, tb.same ((s2.trans s3).trans sT2), Im.mono (tk_same ((s2.trans s3).trans sT2)) _ (.tup ha hx), ?_, yes _ sT2⟩
        by_cases hin : fl ∈ ks.map (·.1)
        · obtain ⟨n, rfl, hn, ka⟩ := hent s fl e hfl he hin
          exact .inr ⟨n, _, rfl, hn, by show placeOf _ fl = _; unfold placeOf; rw [if_pos hin], ka⟩
        · exact .inl (by show placeOf _ fl = -1; unfold placeOf; rw [if_neg hin])
      · rw [rep_all]
        exact ⟨true, rfl, iteF ⟨_, _, _, rfl, s2.trans s3⟩⟩
    · rintro σ Ha ⟨y2, y3, y4, rfl, sm⟩
      exact q _ sm
abbrev s_need_rows : Stmt := topS 36
theorem sc_need_rows : FnScope ["kinds", "rows"] ["kinds", "rows"] (defScope s_need_rows) := ⟨rfl, rfl, rfl, by decide +kernel, rfl, by decide +kernel, by decide +kernel⟩
def sp_need_rows (K : PySem.W.Frag) : Sp := fun vs H Q _ => ∃ (u v : V) (ks : List Kd) (rows : List Rw), vs = [u, v] ∧ Im K H u (ksD ks) ∧ KindsOk ks ∧ Im K H v (rwsD rows) ∧ RowsOk ks rows ∧ ∀ H', Same H H' → Q .non H'
theorem ok_need_rows {f : Addr} {fd : FuncData} {k : Nat} (F : Fun K "need_rows" "need_rows" s_need_rows f fd) (T : Tx K mg){er : Er} (TE : Tr K mg er) {k1 : Nat} (D_rows_fit : Def P w K mg base k1 "rows_fit" s_rows_fit ["table", "thing"] (sp_rows_fit K)) {k2 : Nat} (D_maker_table : Def P w K mg base k2 "maker_table" s_maker_table ["kinds"] (sp_maker_table K)) (e1 : k1 ≤ k) (e2 : k2 ≤ k) : FnOk P w K mg base (L2.CX P w) (k + 1) f fd ["kinds", "rows"] (sp_need_rows K) := by
  have nd := sc_need_rows.nd
  refine F.okX sc_need_rows (fun vs H Q E h => ?_) (fun cdv A outer s H vs Q E hr h => ?_)
  · obtain ⟨_, _, _, _, rfl, _⟩ := h
    rfl
  · obtain ⟨u, v, ks, rows, rfl, iu, ok, iv, ro, q⟩ := h
    refine ⟨_, (pss_one (ps_if (pt_not (pt_val (pe_def D_rows_fit (hr.mono (by omega)) rfl (pa_cons (pe_def D_maker_table (hr.mono (by omega)) rfl (pa_cons (pv 0) pa_nil)) (pa_cons (pv 1) pa_nil)))))
        (pss_one (ps_raise rfl (takes_of rfl rfl rfl rfl) (pmk_own PySem.F.excBase_ValueError TE.x_BadRows TE.g_BadRows TE.k_BadRows (raises_own TE.b_BadRows TE.t_BadRows) rfl)))
        pss_nil)), ?_⟩
    exact ⟨u, rfl, u, ks, rfl, iu, ok, fun d H1 s1 hd tb => ⟨v, rfl, d, v, ks, rows, rfl, ok, tb, Im.mono (tk_same s1) _ iv, ro, fun H2 s2 => ⟨true, rfl, iteF (q _ (s1.trans s2))⟩⟩⟩
end
end K63

set_option Elab.async false
set_option linter.all false
set_option maxRecDepth 100000
set_option exponentiation.threshold 20000
set_option pp.deepTerms false
set_option pp.deepTerms.threshold 8
namespace K63
open PySem PySem.Spec PyProof.Rows L2 Ly Mt
/-! ### vectors of trees, as rationals -/
/-- the product of the entries at these places -/
def prodT : List (List Rat) → List Nat → Rat
  | p :: ps, c :: cs => p.getD c 0 * prodT ps cs
  | _, _ => 1
def wth (r : Rat) (ps : List (List Rat)) (cs : List Nat) (n : Nat) : Rat := r * prodT (ps.take n) (cs.take n)
theorem prodT_snoc : ∀ {ps : List (List Rat)} {cs : List Nat} {n : Nat} {p : List Rat} {c : Nat}, ps[n]? = some p → cs[n]? = some c → prodT (ps.take (n + 1)) (cs.take (n + 1)) = prodT (ps.take n) (cs.take n) * p.getD c 0
  | [], _, _, _, _, h, _ => by simp at h
  | _ :: _, [], _, _, _, _, h => by simp at h
  | q :: ps, d :: cs, 0, p, c, h1, h2 => by
    obtain rfl : q = p := by simpa using h1
    obtain rfl : d = c := by simpa using h2
    show q.getD d 0 * prodT [] [] = prodT [] [] * q.getD d 0
    show q.getD d 0 * 1 = 1 * q.getD d 0
    rw [Rat.mul_one, Rat.one_mul]
  | q :: ps, d :: cs, n + 1, p, c, h1, h2 => by
    have ih := prodT_snoc (ps := ps) (cs := cs) (n := n) (p := p) (c := c) (by simpa using h1) (by simpa using h2)
    show q.getD d 0 * prodT (ps.take (n + 1)) (cs.take (n + 1)) = q.getD d 0 * prodT (ps.take n) (cs.take n) * p.getD c 0
    rw [ih, Rat.mul_assoc]
theorem wth_zero (r : Rat) (ps : List (List Rat)) (cs : List Nat) : wth r ps cs 0 = r := by
  unfold wth
  show r * prodT (ps.take 0) (cs.take 0) = r
  rw [List.take_zero]
  show r * 1 = r
  rw [Rat.mul_one]
theorem wth_snoc {r : Rat} {ps : List (List Rat)} {cs : List Nat} {n : Nat} {p : List Rat} {c : Nat} (h1 : ps[n]? = some p) (h2 : cs[n]? = some c) : wth r ps cs (n + 1) = wth r ps cs n * p.getD c 0 := by
  unfold wth
  rw [prodT_snoc h1 h2, Rat.mul_assoc]
theorem wth_all {r : Rat} {ps : List (List Rat)} {cs : List Nat} {n : Nat} (h1 : ps.length ≤ n) (h2 : cs.length ≤ n) : wth r ps cs n = r * prodT ps cs := by
  unfold wth
  rw [List.take_of_length_le h1, List.take_of_length_le h2]
/-- a term added -/
def addTerm (ps : List (List Rat)) (acc : List Rat) (t : Tm) : List Rat := acc.set t.1 (acc.getD t.1 0 + t.2.2 * prodT ps t.2.1)
def vecT (dim : Nat) (ts : List Tm) (ps : List (List Rat)) : List Rat := ts.foldl (addTerm ps) (List.replicate dim 0)
theorem vecT_snoc {dim i : Nat} {ts : List Tm} {ps : List (List Rat)} {t : Tm} (h : ts[i]? = some t) : vecT dim (ts.take (i + 1)) ps = addTerm ps (vecT dim (ts.take i) ps) t := by
  unfold vecT
  rw [List.take_add_one, h]
  show (ts.take i ++ [t]).foldl _ _ = _
  rw [List.foldl_append]; rfl
theorem foldl_len (ps : List (List Rat)) : ∀ (ts : List Tm) (acc : List Rat), (ts.foldl (addTerm ps) acc).length = acc.length
  | [], _ => rfl
  | t :: ts, acc => by
    rw [List.foldl_cons, foldl_len ps ts]
    unfold addTerm
    rw [List.length_set]
theorem vecT_len (dim : Nat) (ts : List Tm) (ps : List (List Rat)) : (vecT dim ts ps).length = dim := by
  unfold vecT
  rw [foldl_len, List.length_replicate]
theorem set_getD : ∀ {l : List Rat} {i : Nat}, l.set i (l.getD i 0) = l
  | [], _ => rfl
  | a :: l, 0 => rfl
  | a :: l, i + 1 => by
    show a :: l.set i (l.getD i 0) = _
    rw [set_getD]
theorem addTerm_zero {ps : List (List Rat)} {acc : List Rat} {t : Tm} (h : t.2.2 * prodT ps t.2.1 = 0) : addTerm ps acc t = acc := by
  unfold addTerm
  rw [h, Rat.add_zero, set_getD]
theorem ixN_nat {n j : Nat} (hj : j < n) : ixN n (j : Int) = some j := by
  unfold ixN
  rw [if_pos (by omega), if_pos (by omega), Int.toNat_natCast]
/-- what one makes of a vector of terms -/
structure VecJob (dim : Nat) (ts : List Tm) (ps : List (List Rat)) : Prop where
  few : ps.length ≤ 1000
  row : ∀ t ∈ ts, t.1 < dim
  len : ∀ t ∈ ts, t.2.1.length = ps.length
  col : ∀ t ∈ ts, ∀ (i c : Nat) (v : List Rat), t.2.1[i]? = some c → ps[i]? = some v → c < v.length
  bp : ∀ t ∈ ts, ∀ n, Bd 4400 4400 (wth t.2.2 ps t.2.1 n)
  bv : ∀ v ∈ ps, ∀ q ∈ v, Bd 4400 4400 q
  bs : ∀ n, ∀ q ∈ vecT dim (ts.take n) ps, Bd 2900 2900 q
theorem all_set {K : PySem.W.Frag} {H : Hp} {α : Type} {f : α → PyData} {v : V} {a : α} (iv : Im K H v (f a)) : ∀ {xs : List V} {l : List α} {n : Nat}, ImAll K H xs (l.map f) → ImAll K H (xs.set n v) ((l.set n a).map f)
  | [], [], _, _ => .nil
  | x :: xs, [], n, h => by cases h
  | [], a :: l, n, h => by cases h
  | x :: xs, a :: l, 0, h => by cases h with | cons _ r => exact .cons iv r
  | x :: xs, a :: l, n + 1, h => by cases h with | cons k r => exact .cons k (all_set iv r)
section
variable {P : Program} {w : World} {K : PySem.W.Frag} {mg : Str → Option Value} {base : Heap}
abbrev s_vector_over : Stmt := topS 52
theorem sc_vector_over : FnScope ["form", "kind", "maker", "entries", "found", "row", "cols", "ratio", "worth", "vector", "col"] ["form", "kind", "maker", "entries"] (defScope s_vector_over) := ⟨rfl, rfl, rfl, by decide +kernel, rfl, by decide +kernel, by decide +kernel⟩
def sp_vover (K : PySem.W.Frag) : Sp := fun vs H Q _ => ∃ (v : V) (k m : Nat) (l : Addr) (F : Form) (dim : Nat) (row : List (List Tm)) (ts : List Tm) (es : List V) (ps : List (List Rat)), vs = [v, .int (k : Nat), .int (m : Nat), .ref l] ∧ Im K H v (fmD F) ∧ F.dims[k]? = some dim ∧ F.maps[k]? = some row ∧ row[m]? = some ts ∧
  H l = some (.lst es) ∧ ImAll K H es (ps.map vD) ∧ dim ≤ 32 ∧ VecJob dim ts ps ∧ ∀ p H', Same H H' → Im K H' (.ref p) (vD (vecT dim ts ps)) → Q (.ref p) H'
set_option maxHeartbeats 1000000 in
theorem ok_vector_over {f : Addr} {fd : FuncData} {k : Nat} (F : Fun K "vector_over" "vector_over" s_vector_over f fd) (T : Tx K mg){k1 : Nat} (D_times : Def P w K mg base k1 "times" s_times ["one", "other"] (sp_times K)) {k2 : Nat} (D_plus : Def P w K mg base k2 "plus" s_plus ["one", "other"] (sp_plus K)) (e1 : k1 ≤ k) (e2 : k2 ≤ k) : FnOk P w K mg base CX0 (k + 1) f fd ["form", "kind", "maker", "entries"] (sp_vover K) := by
  have nd := sc_vector_over.nd
  obtain ⟨az, g_ZERO0, iz⟩ := T.zero
  have g_ZERO : ∃ u, mg "ZERO" = some u ∧ L2.RelV (.ref az) u := ⟨_, g_ZERO0, rfl⟩
  refine F.ok sc_vector_over (fun vs H Q E h => ?_) (fun cdv A outer s H vs Q E hr h => ?_)
  · obtain ⟨_, _, _, _, _, _, _, _, _, _, rfl, _⟩ := h
    rfl
  · obtain ⟨v, kk, m, l, F', dim, row, ts, es, ps, rfl, iv, hdim, hrow, hts, hl, hes, d32, job, q⟩ := h
    obtain ⟨a, x1, x2, x3, x4, rfl, ha, i1, i2, i3, i4⟩ := im_quad iv
    obtain ⟨c, ds, rfl, hc, hds⟩ := i2.tuple_inv
    obtain rfl := im_nats hds
    obtain ⟨pm, ms, rfl, hpm, hms⟩ := i3.tuple_inv
    obtain ⟨x, ex, ix⟩ := all_at hms hrow
    obtain ⟨pr, rs, rfl, hpr, hrs⟩ := ix.tuple_inv
    obtain ⟨x, ex2, ix2⟩ := all_at hrs hts
    obtain ⟨pt, xs, rfl, hpt, hxs⟩ := ix2.tuple_inv
    have lx := all_len hxs
    refine ⟨_, (pss_cons (ps_set (i := 4) nd rfl (.inl rfl) (pe_op op_rep (pe_lst (pa_cons (pe_gv rfl g_ZERO) pa_nil)) (pe_ix (kix_tup K) (pe_ix (kix_tup K) (pv 0) pe_int (fun _ _ => rfl)) (pv 1) (fun _ _ => rfl))))
      (pss_cons (ps_for PassesOwn.never rfl (kpi_tup K (pe_ix (kix_tup K) (pe_ix (kix_tup K) (pe_ix (kix_tup K) (pv 0) pe_int (fun _ _ => rfl)) (pv 1) (fun _ _ => rfl)) (pv 2) (fun _ _ => rfl))) (kpg_tup K (n := 3) rfl (pgs_cons (pg_name (i := 5) nd rfl (.inl rfl)) (pgs_cons (pg_name (i := 6) nd rfl (.inl rfl)) (pgs_cons (pg_name (i := 7) nd rfl (.inl rfl)) pgs_nil))))
        (pss_cons (ps_set (i := 8) nd rfl (.inl rfl) (pv 7))
        (pss_cons (ps_for PassesOwn.never rfl (kpi_zipM K (by rfl) T.m_zip (pa_cons (pv 3) (pa_cons (pv 6) pa_nil))) (kpg_tup K (n := 2) rfl (pgs_cons (pg_name (i := 9) nd rfl (.inl rfl)) (pgs_cons (pg_name (i := 10) nd rfl (.inl rfl)) pgs_nil)))
          (pss_one (ps_set (i := 8) nd rfl (.inl rfl) (pe_def D_times (hr.mono (by omega)) rfl (pa_cons (pv 8) (pa_cons (pe_ix (kix_tup K) (pv 9) (pv 10) (fun _ _ => rfl)) pa_nil))))))
        (pss_one (ps_if (pt_cmpR (kop_neD K hr.units) (pv 8) (pe_gv rfl g_ZERO) (nomark _))
          (pss_one (ps_asg (pe_def D_plus (hr.mono (by omega)) rfl (pa_cons (pe_ix (kix_list K) (pv 4) (pv 5) (fun _ _ => rfl)) (pa_cons (pv 8) pa_nil))) (pg_sub (pv 4) (pv 5) set_list)))
          pss_nil)))))
      (pss_one (ps_ret (pe_callTy (kcall_tuple K) (by rfl) T.m_tuple (by decide +kernel) (pa_cons (pv 4) pa_nil)))))), ?_⟩
    have ed : (F'.dims.map (fun n : Nat => V.int (n : Nat)))[kk]? = some (.int (dim : Nat)) := by rw [List.getElem?_map, hdim]; rfl
    refine ⟨by show 1 ≤ sizeLine; decide, fun L hL => ?_⟩
    have sL := same_new (o := .lst [.ref az]) hL
    have eL : (upd H L (.lst [.ref az])) L = some (.lst [.ref az]) := upd_same
    generalize upd H L (.lst [.ref az]) = H1 at *
    refine ⟨.ref a, rfl, a, _, 1, _, rfl, rfl, (ha.mono (tk_same sL)).sq, atI_nat (j := 1) rfl, .int (kk : Nat), rfl, c, _, _, _, rfl, rfl, (hc.mono (tk_same sL)).sq, atI_nat ed, L, dim, [.ref az], rfl, rfl, eL, by omega, by omega, ?_, fun p hp => ?_⟩
    · show 1 * (dim : Int).toNat ≤ sizeLine
      have : (33 : Nat) ≤ sizeLine := by decide
      omega
    rw [Int.toNat_natCast, flat1]
    have hp0 : H p = none := sL.free hp
    have s2 : Same H (upd H1 p (.lst (List.replicate dim (.ref az)))) := sL.trans (same_new hp)
    have ep : (upd H1 p (.lst (List.replicate dim (.ref az)))) p = some (.lst (List.replicate dim (.ref az))) := upd_same
    generalize upd H1 p (.lst (List.replicate dim (.ref az))) = H2 at *
    have t2 := tk_same s2
    refine ⟨.ref a, rfl, a, _, 2, _, rfl, rfl, (ha.mono t2).sq, atI_nat (j := 2) rfl, .int (kk : Nat), rfl, pm, _, _, _, rfl, rfl, (hpm.mono t2).sq, atI_nat ex, .int (m : Nat), rfl, pr, _, _, _, rfl, rfl, (hpr.mono t2).sq, atI_nat ex2, pt, rfl, ⟨_, (hpt.mono t2).sq⟩, ?_⟩
    have iz0 : Im K H2 (.ref az) (rD 0) := .tup (iz H2) (.cons (.int 0) (.cons (.int 1) .nil))
    refine for_it (walk_tup (xs := xs)) (fun i σ Ha => ∃ (y5 y6 y7 y8 y9 y10 : Option V) (ws : List V), σ = [some (.ref a), some (.int (kk : Nat)), some (.int (m : Nat)), some (.ref l), some (.ref p), y5, y6, y7, y8, y9, y10] ∧ Same H Ha ∧ Ha p = some (.lst ws) ∧ ImAll K Ha ws ((vecT dim (ts.take i) ps).map rD)) ⟨_, _, _, _, _, _, _, rfl, s2, ep, all_rep iz0 dim⟩ (fun i σ Ha _ z => ?_) ?_ ?_
    · obtain ⟨_, _, _, _, _, _, _, _, sm, _⟩ := z
      exact (hpt.mono (tk_same sm)).sq
    · rintro i x σ Ha Hb hi ⟨y5, y6, y7, y8, y9, y10, ws, rfl, sm, mp, im⟩ ⟨rfl, hxi⟩
      obtain ⟨t, ht, it⟩ := all_get (ImAll.mono (tk_same sm) _ hxs) hxi
      obtain ⟨px, z1, z2, z3, rfl, hpx, iz1, iz2, iz3⟩ := im_trip it
      obtain rfl := iz1.int_inv
      obtain ⟨pc, cs, rfl, hpc, hcs⟩ := iz2.tuple_inv
      obtain rfl := im_nats hcs
      have tmem := List.mem_of_getElem? ht
      refine ⟨px, _, rfl, hpx.sq, rfl, .int (t.1 : Nat), _, rfl, .ref pc, _, rfl, z3, _, rfl, rfl, z3, rfl, ?_⟩
      have les : es.length = ps.length := all_len hes
      have lcs := job.len t tmem
      refine ⟨.ref l, rfl, .ref pc, rfl, l, pc, _, _, rfl, .of (sm _ _ hl), hpc.sq, ?_⟩
      refine for_it (walk_zipM (xs := es) (ys := t.2.1.map fun n : Nat => V.int (n : Nat)) (by rw [List.length_map]; omega)) (fun j σ Hc => ∃ (u : V) (y9 y10 : Option V), σ = [some (.ref a), some (.int (kk : Nat)), some (.int (m : Nat)), some (.ref l), some (.ref p), some (.int (t.1 : Nat)), some (.ref pc), some z3, some u, y9, y10] ∧ Same Hb Hc ∧ Im K Hc u (rD (wth t.2.2 ps t.2.1 j))) ⟨z3, _, _, rfl, Same.refl _, by rw [wth_zero]; exact iz3⟩ (fun j σ Hc _ z => ?_) ?_ ?_
      · obtain ⟨_, _, _, _, s3, _⟩ := z
        exact ⟨.of (s3 _ _ (sm _ _ hl)), (hpc.mono (tk_same s3)).sq⟩
      · rintro j x σ Hc Hd hj ⟨u, y9, y10, rfl, s3, iu⟩ ⟨T, x1, x2, rfl, hT, rfl, f1, f2⟩
        simp only [List.getElem?_map] at f2
        obtain ⟨cc, hcc, rfl⟩ := Option.map_eq_some_iff.mp f2
        have sT := same_new (o := .tup [x1, .int (cc : Nat)]) hT
        obtain ⟨vec, hvec, ivec⟩ := all_get (ImAll.mono (tk_same (sm.trans s3)) _ hes) f1
        obtain ⟨pv', vx, rfl, hpv, hvx⟩ := vec_inv ivec
        have clt := job.col t tmem j cc vec hcc hvec
        obtain ⟨y, ey, iy⟩ := all_at hvx (List.getElem?_eq_getElem clt)
        have bx := job.bp t tmem j
        have by' := job.bv vec (List.mem_of_getElem? hvec) _ (List.getElem_mem clt)
        refine ⟨T, _, rfl, .of upd_same, rfl, .ref pv', _, rfl, .int (cc : Nat), _, rfl, rfl, ?_⟩
        refine ⟨u, rfl, .ref pv', rfl, .int (cc : Nat), rfl, pv', _, _, y, rfl, rfl, (hpv.mono (tk_same sT)).sq, atI_nat ey, u, y, _, _, rfl, Im.mono (tk_same sT) _ iu, Im.mono (tk_same sT) _ iy, bx, by', fun p' H5 s5 _ i5 => ?_⟩
        refine ⟨_, _, _, rfl, (s3.trans sT).trans s5, ?_⟩
        rw [wth_snoc hvec hcc, List.getD_eq_getElem?_getD, List.getElem?_eq_getElem clt]
        exact i5
      · rintro σ Hc ⟨u, y9, y10, rfl, s3, iu⟩
        rw [wth_all (by omega) (by omega)] at iu
        have vt := vecT_snoc (dim := dim) (ps := ps) ht
        have lv : t.1 < (vecT dim (ts.take i) ps).length := by rw [vecT_len]; exact job.row t tmem
        refine ⟨u, rfl, rD (t.2.2 * prodT ps t.2.1), .tuple [.int 0, .int 1], Im.dp _ iu, .tup (iz Hc).sq (.cons (.int 0) (.cons (.int 1) .nil)), rfl, rfl, _, rfl, ?_⟩
        have e : PyData.eqv (rD (t.2.2 * prodT ps t.2.1)) (.tuple [.int 0, .int 1]) = decide (t.2.2 * prodT ps t.2.1 = 0) := by
          generalize t.2.2 * prodT ps t.2.1 = q0
          show ((q0.num == 0) && (((q0.den : Int) == 1) && true)) = decide (q0 = 0)
          by_cases h : q0 = 0
          · subst h; rfl
          · have : ¬ q0.num = 0 := fun z => h (num_zero z)
            rw [beq_eq_false_iff_ne.mpr this, decide_eq_false h]; rfl
        rw [e]
        by_cases h0 : t.2.2 * prodT ps t.2.1 = 0
        · rw [decide_eq_true h0]
          refine iteF ⟨_, _, _, _, _, _, ws, rfl, sm.trans s3, s3 _ _ mp, ?_⟩
          rw [vt, addTerm_zero h0]
          exact ImAll.mono (tk_same s3) _ im
        · rw [decide_eq_false h0]
          obtain ⟨y, ey, iy⟩ := all_at (ImAll.mono (tk_same s3) _ im) (List.getElem?_eq_getElem lv)
          have b1 := job.bs i _ (List.getElem_mem lv)
          have b2 := job.bp t tmem ps.length
          rw [wth_all (Nat.le_refl _) (by omega)] at b2
          have lw : ws.length = (vecT dim (ts.take i) ps).length := all_len im
          refine iteT ⟨.ref p, rfl, .int (t.1 : Nat), rfl, p, ws, _, y, rfl, rfl, .of (s3 _ _ mp), atI_nat ey, u, rfl, y, u, _, _, rfl, iy, iu, b1, b2.mono (by decide) (by decide), fun p' H5 s5 hp5 i5 => ?_⟩
          have mp5 := s5 _ _ (s3 _ _ mp)
          refine ⟨.ref p, rfl, .int (t.1 : Nat), rfl, p, ws, _, t.1, rfl, rfl, mp5, ixN_nat (by omega), _, _, _, _, _, _, ws.set t.1 (.ref p'), rfl, fun b o eb => ?_, upd_same, ?_⟩
          · rw [upd_ne (ne_of_none eb hp0)]
            exact s5 _ _ (s3 _ _ (sm _ _ eb))
          · rw [vt]
            unfold addTerm
            rw [List.getD_eq_getElem?_getD, List.getElem?_eq_getElem lv]
            have t5 := (tk_same s5).trans (tk_lst (o := .lst (ws.set t.1 (.ref p'))) mp5)
            exact all_set (Im.mono (tk_lst mp5) _ i5) (ImAll.mono ((tk_same s3).trans t5) _ im)
    · rintro σ Ha ⟨y5, y6, y7, y8, y9, y10, ws, rfl, sm, mp, im⟩
      rw [lx, List.take_of_length_le (Nat.le_refl _)] at im
      refine ⟨.ref p, rfl, p, ws, rfl, .inl ⟨.of mp, fun l' hl' => q l' _ (sm.trans (same_new hl')) (.tup (.inl upd_same) (ImAll.mono (tk_new hl') _ im))⟩⟩
end
end K63

set_option Elab.async false
set_option linter.all false
set_option maxRecDepth 100000
set_option exponentiation.threshold 20000
set_option pp.deepTerms false
set_option pp.deepTerms.threshold 8
namespace K63
open PySem PySem.Spec PyProof.Rows L2 Ly Mt
def rowOf (ks : List Kd) (z : Str) : Row := ((rowsOf ks ks.length).find? (fun r => decide (r.1 = z))).getD (noS, 0, 0, [])
theorem fst_inj {l : List Row} (nd : (l.map (·.1)).Nodup) {a b : Row} (ha : a ∈ l) (hb : b ∈ l) (e : a.1 = b.1) : a = b := by
  obtain ⟨i, hi⟩ := List.getElem?_of_mem ha
  obtain ⟨j, hj⟩ := List.getElem?_of_mem hb
  have h1 : (l.map (·.1))[i]? = some a.1 := by rw [List.getElem?_map, hi]; rfl
  have h2 : (l.map (·.1))[j]? = some b.1 := by rw [List.getElem?_map, hj]; rfl
  have li := (List.getElem?_eq_some_iff.mp h1).1
  have hij := (List.getElem?_inj li nd).mp (h1.trans (by rw [e]; exact h2.symm))
  subst hij
  rw [hi] at hj
  exact Option.some.inj hj
theorem rowOf_at {ks : List Kd} (ok : KindsOk ks) {r : Rw} {i j : Nat} {kd : Kd} {m : Mk} (h : At ks r i j kd m) : rowOf ks r.1 = mkRow (ks.map (·.1)) i j m := by
  have nd : ((rowsOf ks ks.length).map (·.1)).Nodup := by rw [rows_names]; exact ok.ndm
  have mem := row_mem h.hk h.hm
  unfold rowOf
  cases e : (rowsOf ks ks.length).find? (fun x => decide (x.1 = r.1)) with
  | none =>
    have := List.find?_eq_none.mp e _ mem
    exact absurd (decide_eq_true (show (mkRow (ks.map (·.1)) i j m).1 = r.1 from h.nm.symm)) this
  | some x =>
    have h1 := List.mem_of_find?_eq_some e
    have h2 : x.1 = r.1 := of_decide_eq_true (List.find?_some (p := fun x : Row => decide (x.1 = r.1)) e)
    exact fst_inj nd h1 mem (h2.trans h.nm)
def partsI (acc : List (List Rat)) (fs es : List Int) : List (List Rat) := List.zipWith (fun (f e : Int) => if f = -1 then [1, (e : Rat)] else acc.getD e.toNat []) fs es
def termsAt (F : Form) (i j : Nat) : List Tm := (F.maps.getD i []).getD j []
def vecStep (F : Form) (acc : List (List Rat)) (r : Rw) : List (List Rat) := acc ++ [vecT (F.dims.getD (rowOf F.ks r.1).2.1 0) (termsAt F (rowOf F.ks r.1).2.1 (rowOf F.ks r.1).2.2.1) (partsI acc (rowOf F.ks r.1).2.2.2 r.2)]
def vecsOf (F : Form) (rows : List Rw) : List (List Rat) := rows.foldl (vecStep F) []
theorem vecsOf_snoc {F : Form} {rows : List Rw} {t : Nat} {r : Rw} (h : rows[t]? = some r) : vecsOf F (rows.take (t + 1)) = vecStep F (vecsOf F (rows.take t)) r := by
  unfold vecsOf
  rw [List.take_add_one, h]
  show (rows.take t ++ [r]).foldl _ _ = _
  rw [List.foldl_append]; rfl
theorem fold_vecs_len (F : Form) : ∀ (rows : List Rw) (acc : List (List Rat)), (rows.foldl (vecStep F) acc).length = acc.length + rows.length
  | [], acc => rfl
  | r :: rows, acc => by
    rw [List.foldl_cons, fold_vecs_len F rows]
    unfold vecStep
    rw [List.length_append, List.length_cons, List.length_cons, List.length_nil]
    omega
theorem vecsOf_len (F : Form) (rows : List Rw) : (vecsOf F rows).length = rows.length := by
  unfold vecsOf
  rw [fold_vecs_len]
  simp
structure VecsJob (F : Form) (rows : List Rw) : Prop where
  each : ∀ (t : Nat) r i j kd m, rows[t]? = some r → At F.ks r i j kd m → VecJob (F.dims.getD i 0) (termsAt F i j) (partsI (vecsOf F (rows.take t)) (m.2.map (placeOf (F.ks.map (·.1)))) r.2)
theorem place_num {ns : List Str} {f : Str} : placeOf ns f = -1 ↔ f ∉ ns := by
  unfold placeOf
  by_cases h : f ∈ ns
  · rw [if_pos h]
    exact ⟨fun z => by omega, fun z => absurd h z⟩
  · rw [if_neg h]
    exact ⟨fun _ => h, fun _ => rfl⟩
theorem FormOk.at {wide : Nat} {F : Form} (ok : FormOk wide F) {i j : Nat} {kd : Kd} {m : Mk} (hk : F.ks[i]? = some kd) (hm : kd.2[j]? = some m) : ∃ dim row ts, F.dims[i]? = some dim ∧ F.maps[i]? = some row ∧ row[j]? = some ts ∧ F.dims.getD i 0 = dim ∧ termsAt F i j = ts := by
  have hi := (List.getElem?_eq_some_iff.mp hk).1
  have hj := (List.getElem?_eq_some_iff.mp hm).1
  have l1 := ok.ld
  have l2 := ok.lm
  have h1 : i < F.dims.length := by omega
  have h2 : i < F.maps.length := by omega
  have lr := ok.lr i kd _ hk (List.getElem?_eq_getElem h2)
  have h3 : j < F.maps[i].length := by omega
  refine ⟨_, _, _, List.getElem?_eq_getElem h1, List.getElem?_eq_getElem h2, List.getElem?_eq_getElem h3, ?_, ?_⟩
  · rw [List.getD_eq_getElem?_getD, List.getElem?_eq_getElem h1]; rfl
  · unfold termsAt
    rw [List.getD_eq_getElem?_getD, List.getD_eq_getElem?_getD, List.getElem?_eq_getElem h2]
    show (F.maps[i][j]?).getD [] = _
    rw [List.getElem?_eq_getElem h3]; rfl
theorem FormOk.dim_le {wide : Nat} {F : Form} (ok : FormOk wide F) (i : Nat) : F.dims.getD i 0 ≤ 32 := by
  rw [List.getD_eq_getElem?_getD]
  have w2 := ok.wid
  by_cases h : i < F.dims.length
  · rw [List.getElem?_eq_getElem h]
    have := ok.hd _ (List.getElem_mem h)
    show F.dims[i] ≤ 32
    omega
  · rw [List.getElem?_eq_none (by omega)]; decide
section
variable {P : Program} {w : World} {K : PySem.W.Frag} {mg : Str → Option Value} {base : Heap}
abbrev s_vecs_of : Stmt := topS 53
theorem sc_vecs_of : FnScope ["form", "rows", "table", "found", "maker", "entries", "kind", "index", "fields", "pairs", "parts", "field", "entry"] ["form", "rows"] (defScope s_vecs_of) := ⟨rfl, rfl, rfl, by decide +kernel, rfl, by decide +kernel, by decide +kernel⟩
def sp_vecs (K : PySem.W.Frag) : Sp := fun vs H Q _ => ∃ (v u : V) (F : Form) (rows : List Rw) (wide : Nat), vs = [v, u] ∧ Im K H v (fmD F) ∧ Im K H u (rwsD rows) ∧ FormOk wide F ∧ RowsOk F.ks rows ∧ VecsJob F rows ∧ ∀ p H', Same H H' → Im K H' (.ref p) (mD (vecsOf F rows)) → Q (.ref p) H'
set_option maxHeartbeats 1000000 in
theorem ok_vecs_of {f : Addr} {fd : FuncData} {k : Nat} (F : Fun K "vecs_of" "vecs_of" s_vecs_of f fd) (T : Tx K mg){k1 : Nat} (D_maker_table : Def P w K mg base k1 "maker_table" s_maker_table ["kinds"] (sp_maker_table K)) {k2 : Nat} (D_vector_over : Def P w K mg base k2 "vector_over" s_vector_over ["form", "kind", "maker", "entries"] (sp_vover K)) {k3 : Nat} (D_whole : Def P w K mg base k3 "whole" s_whole ["number"] (sp_whole K)) (e1 : k1 ≤ k) (e2 : k2 ≤ k) (e3 : k3 ≤ k) : FnOk P w K mg base CX0 (k + 1) f fd ["form", "rows"] (sp_vecs K) := by
  have nd := sc_vecs_of.nd
  obtain ⟨ao, g_ONE0, io⟩ := T.one
  have g_ONE : ∃ u, mg "ONE" = some u ∧ L2.RelV (.ref ao) u := ⟨_, g_ONE0, rfl⟩
  refine F.ok sc_vecs_of (fun vs H Q E h => ?_) (fun cdv A outer s H vs Q E hr h => ?_)
  · obtain ⟨_, _, _, _, _, rfl, _⟩ := h
    rfl
  · obtain ⟨v, u, F', rows, wide, rfl, iv, iu, ok, ro, job, q⟩ := h
    obtain ⟨a, x1, x2, x3, x4, rfl, ha, i1, i2, i3, i4⟩ := im_quad iv
    obtain ⟨b, xs, rfl, hb, hx⟩ := iu.tuple_inv
    have lx := all_len hx
    have few := ro.few
    have kf := ok.kinds
    refine ⟨_, (pss_cons (ps_set (i := 2) nd rfl (.inl rfl) (pe_def D_maker_table (hr.mono (by omega)) rfl (pa_cons (pe_ix (kix_tup K) (pv 0) pe_int (fun _ _ => rfl)) pa_nil)))
      (pss_cons (ps_set (i := 3) nd rfl (.inr rfl) (pe_lst pa_nil))
      (pss_cons (ps_for PassesOwn.never rfl (kpi_tup K (pv 1)) (kpg_tup K (n := 2) rfl (pgs_cons (pg_name (i := 4) nd rfl (.inl rfl)) (pgs_cons (pg_name (i := 5) nd rfl (.inl rfl)) pgs_nil)))
        (pss_cons (ps_asg (pe_dget (hu_of hr) (pv 2) (pv 4) (fun _ _ => rfl)) (kpg_tup K (n := 3) rfl (pgs_cons (pg_name (i := 6) nd rfl (.inl rfl)) (pgs_cons (pg_name (i := 7) nd rfl (.inl rfl)) (pgs_cons (pg_name (i := 8) nd rfl (.inl rfl)) pgs_nil)))))
        (pss_cons (ps_set (i := 9) nd rfl (.inl rfl) (pe_zipV K (by rfl) T.m_zip (pa_cons (pv 8) (pa_cons (pv 5) pa_nil))))
        (pss_cons (ps_setLc (i := 10) (own := [("field", 11), ("entry", 12)]) (g := _) (tt := tYes) rfl nd rfl rfl (sw_true rfl rfl rfl (by decide +kernel)) (pi_zipV K (k := 9) rfl (.inl rfl)) (blkOk_by (by rfl)) (fun _ _ _ _ _ => (kpg_tup K (n := 2) rfl (pgs_cons (pg_name (i := 11) nd rfl (.inl rfl)) (pgs_cons (pg_name (i := 12) nd rfl (.inl rfl)) pgs_nil)))) (fun _ _ _ _ _ => pts_nil) (fun _ _ _ _ _ => (pe_ifExp (pt_cmpR op_eq (pv 11) (pe_gv rfl T.g_NUMBER) (nomark _)) (pe_tup (pa_cons (pe_gv rfl g_ONE) (pa_cons (pe_def D_whole (hr.mono (by omega)) rfl (pa_cons (pv 12) pa_nil)) pa_nil))) (pe_ix (kix_list K) (pv 3) (pv 12) (fun _ _ => rfl)))))
        (pss_one (ps_expr (pe_bm PySem.F.plainAttrs_list PySem.F.slot_list_append PySem.F.type_list_append mt_append (pv 3) (pa_cons (pe_def D_vector_over (hr.mono (by omega)) rfl (pa_cons (pv 0) (pa_cons (pv 6) (pa_cons (pv 7) (pa_cons (pv 10) pa_nil))))) pa_nil))))))))
      (pss_one (ps_ret (pe_callTy (kcall_tuple K) (by rfl) T.m_tuple (by decide +kernel) (pa_cons (pv 3) pa_nil))))))), ?_⟩
    refine ⟨.ref a, rfl, a, _, 0, _, rfl, rfl, ha.sq, atI_nat (j := 0) rfl, x1, F'.ks, rfl, i1, ok.kinds, fun d H1 s1 hd1 tb => ?_⟩
    refine ⟨by show 0 ≤ sizeLine; decide, fun L hL => ?_⟩
    have sL := same_new (o := .lst []) hL
    have eL : (upd H1 L (.lst [])) L = some (.lst []) := upd_same
    have s2 := s1.trans sL
    have tb2 := tb.same sL
    have hL0 : H L = none := s1.free hL
    have ndL : d ≠ L := by
      obtain ⟨kvs, e0, _⟩ := tb.ex
      exact ne_of_none e0 hL
    generalize upd H1 L (.lst []) = H2 at *
    refine ⟨.ref b, rfl, b, rfl, ⟨_, (hb.mono (tk_same s2)).sq⟩, ?_⟩
    refine for_it (walk_tup (xs := xs)) (fun t σ Ha => ∃ (y4 y5 y6 y7 y8 y9 y10 : Option V) (ws : List V), σ = [some (.ref a), some (.ref b), some (.ref d), some (.ref L), y4, y5, y6, y7, y8, y9, y10, none, none] ∧ Same H Ha ∧ TableAt K Ha d (rowsOf F'.ks F'.ks.length) ∧ Ha L = some (.lst ws) ∧ ImAll K Ha ws ((vecsOf F' (rows.take t)).map vD)) ⟨_, _, _, _, _, _, _, [], rfl, s2, tb2, eL, .nil⟩ (fun t σ Ha _ z => ?_) ?_ ?_
    · obtain ⟨_, _, _, _, _, _, _, _, _, sm, _⟩ := z
      exact (hb.mono (tk_same sm)).sq
    · rintro t x σ Ha Hb ht ⟨y4, y5, y6, y7, y8, y9, y10, ws, rfl, sm, tbm, mL, im⟩ ⟨rfl, hxt⟩
      obtain ⟨r, hr', ir⟩ := all_get (ImAll.mono (tk_same sm) _ hx) hxt
      obtain ⟨p, z1, z2, rfl, hp, iz1, iz2⟩ := im_pair ir
      obtain rfl := iz1.str_inv
      obtain ⟨pe, es, rfl, hpe, hes⟩ := iz2.tuple_inv
      obtain rfl := im_ints hes
      obtain ⟨i, j, kd, m, at', hl, hent⟩ := ro.each t r hr'
      obtain ⟨dim, row, ts, hdim, hrow, hts, ed, et⟩ := ok.at at'.hk at'.hm
      obtain ⟨vr, gr, irr⟩ := tb_get tbm ok.kinds at'.hk at'.hm
      obtain ⟨qr, r1, r2, r3, rfl, hqr, ir1, ir22, ir3⟩ := im_trip irr
      obtain rfl := ir1.int_inv
      obtain rfl := ir22.int_inv
      have ir3' : Im K Hb r3 (.tuple ((m.2.map (placeOf (F'.ks.map (·.1)))).map .int)) := ir3
      obtain ⟨pf, fs, rfl, hpf, hfs⟩ := ir3'.tuple_inv
      obtain rfl := im_ints hfs
      rw [← at'.nm] at gr
      have l4 := (kf.mkk _ (List.mem_of_getElem? at'.hk) _ (List.mem_of_getElem? at'.hm)).2
      have vj := job.each t r i j kd m hr' at'
      have ero := rowOf_at ok.kinds at'
      refine ⟨p, _, rfl, hp.sq, rfl, .str r.1, _, rfl, .ref pe, _, rfl, rfl, ?_⟩
      refine ⟨.ref d, rfl, .str r.1, rfl, d, _, rfl, gr, qr, _, rfl, hqr.sq, rfl, .int (i : Nat), _, rfl, .int (j : Nat), _, rfl, .ref pf, _, rfl, rfl, ?_⟩
      refine ⟨.ref pf, rfl, .ref pe, rfl, pf, pe, _, _, rfl, hpf.sq, hpe.sq, fun z H3 s3 hz zv => ?_⟩
      refine ⟨z, pf, pe, _, rfl, zv, fun H4 k4 => fun D hD => ?_⟩
      have s4 : Same Hb H4 := fun b o e => k4 b o e (s3 _ _ e)
      generalize hfl : m.2.map (placeOf (F'.ks.map (·.1))) = fl at *
      have lfl : fl.length = m.2.length := by rw [← hfl, List.length_map]
      refine lc_all (walk_zipT (xs := fl.map V.int) (ys := r.2.map V.int) (by simp only [List.length_map]; omega)) (fun s Hx => Same H4 Hx ∧ ∃ us, Hx D = some (.lst us) ∧ ImAll K Hx us (((partsI (vecsOf F' (rows.take t)) fl r.2).take s).map vD)) ⟨same_new hD, [], upd_same, by rw [List.take_zero]; exact .nil⟩ (fun s Hx _ z => ⟨(hpf.mono (tk_same (s4.trans z.1))).sq, (hpe.mono (tk_same (s4.trans z.1))).sq⟩) (fun s x Hx Hy hi z y => ?_) (fun Hx z => ?_)
      · obtain ⟨s5, us, eD, iD⟩ := z
        obtain ⟨T, x1, x2, rfl, hT, rfl, f1, f2⟩ := y
        simp only [List.getElem?_map] at f1 f2
        obtain ⟨f0, hf0, rfl⟩ := Option.map_eq_some_iff.mp f1
        obtain ⟨e0, he0, rfl⟩ := Option.map_eq_some_iff.mp f2
        have sT := same_new (o := .tup [V.int f0, .int e0]) hT
        have pz : (partsI (vecsOf F' (rows.take t)) fl r.2)[s]? = some (if f0 = -1 then [1, (e0 : Rat)] else (vecsOf F' (rows.take t)).getD e0.toNat []) := by
          unfold partsI
          rw [List.getElem?_zipWith, hf0, he0]
        have lus : us.length ≤ 4 := by
          rw [all_len iD, List.length_take]
          unfold partsI
          rw [List.length_zipWith]
          omega
        have fin : ∀ (y : V) (H9 : Hp), Same (upd Hx T (.tup [V.int f0, .int e0])) H9 → Im K H9 y (vD (if f0 = -1 then [1, (e0 : Rat)] else (vecsOf F' (rows.take t)).getD e0.toNat [])) →
            ∃ acc, H9 D = some (.lst acc) ∧ acc.length < sizeLine ∧ Same H4 (upd H9 D (.lst (acc ++ [y]))) ∧ ∃ us, (upd H9 D (.lst (acc ++ [y]))) D = some (.lst us) ∧ ImAll K (upd H9 D (.lst (acc ++ [y]))) us (((partsI (vecsOf F' (rows.take t)) fl r.2).take (s + 1)).map vD) := fun y H9 s9 iy => by
          have eD9 := s9 _ _ (sT _ _ eD)
          refine ⟨us, eD9, small1000 (by omega), fun b o e => ?_, _, upd_same, ?_⟩
          · rw [upd_ne (ne_of_none e hD)]
            exact s9 _ _ (sT _ _ (s5 _ _ e))
          · rw [List.take_add_one, pz, List.map_append]
            exact (ImAll.mono (((tk_same sT).trans (tk_same s9)).trans (tk_lst eD9)) _ iD).snoc (Im.mono (tk_lst eD9) _ iy)
        refine ⟨T, _, rfl, .of upd_same, rfl, .int f0, _, rfl, .int e0, _, rfl, rfl, rfl, ?_⟩
        refine ⟨.int f0, rfl, rfl, _, rfl, ?_⟩
        by_cases h1 : f0 = -1
        · rw [decide_eq_true (by rw [h1])]
          refine iteT ⟨.int e0, rfl, e0, rfl, fun p' H9 s9 hp' i9 => ⟨by show 2 ≤ sizeLine; decide, fun T2 hT2 => ?_⟩⟩
          refine fin _ _ (s9.trans (same_new hT2)) ?_
          rw [if_pos h1]
          have i1' : Im K H9 (.ref ao) (rD 1) := .tup (io H9) (.cons (.int 1) (.cons (.int 1) .nil))
          exact .tup (.inl upd_same) (.cons (Im.mono (tk_new hT2) _ i1') (.cons (Im.mono (tk_new hT2) _ i9) .nil))
        · rw [decide_eq_false (fun z => h1 (V.int.inj z))]
          have hfin : ∃ f, m.2[s]? = some f ∧ placeOf (F'.ks.map (·.1)) f = f0 := by
            rw [← hfl, List.getElem?_map] at hf0
            exact Option.map_eq_some_iff.mp hf0
          obtain ⟨f, hf, rfl⟩ := hfin
          have hin : f ∈ F'.ks.map (·.1) := by
            refine Decidable.byContradiction fun z => h1 (place_num.mpr z)
          obtain ⟨n, rfl, hn, ka⟩ := hent s f e0 hf he0 hin
          have ln : n < (vecsOf F' (rows.take t)).length := by
            rw [vecsOf_len, List.length_take]
            have := (List.getElem?_eq_some_iff.mp hr').1
            omega
          have s9 := (s4.trans s5).trans sT
          obtain ⟨y, ey, iy⟩ := all_at (ImAll.mono (tk_same s9) _ im) (List.getElem?_eq_getElem ln)
          refine iteF ⟨.ref L, rfl, .int (n : Nat), rfl, L, ws, _, y, rfl, rfl, .of (s9 _ _ mL), atI_nat ey, ?_⟩
          refine fin _ _ (Same.refl _) ?_
          rw [if_neg h1, Int.toNat_natCast, List.getD_eq_getElem?_getD, List.getElem?_eq_getElem ln]
          exact iy
      · obtain ⟨s5, us, eD, iD⟩ := z
        have lp : (partsI (vecsOf F' (rows.take t)) fl r.2).length = fl.length := by
          unfold partsI
          rw [List.length_zipWith]; omega
        rw [List.length_map, ← lp, List.take_of_length_le (Nat.le_refl _)] at iD
        have s9 := s4.trans s5
        have d32 := ok.dim_le i
        rw [ed] at d32
        rw [ed, et] at vj
        have i9 : Im K Hx (.ref a) (fmD F') := Im.mono (tk_same (sm.trans s9)) _ iv
        refine ⟨.ref L, rfl, .inl ⟨rfl, _, .of (s9 _ _ mL)⟩, .ref a, rfl, .int (i : Nat), rfl, .int (j : Nat), rfl, .ref D, rfl, .ref a, i, j, D, F', dim, row, ts, us, _, rfl, i9, hdim, hrow, hts, eD, iD, d32, vj, fun p' H7 s7 i7 => ?_⟩
        have mL7 := s7 _ _ (s9 _ _ mL)
        have lws : ws.length ≤ 96 := by
          rw [all_len im, vecsOf_len, List.length_take]; omega
        refine ⟨L, ws, .ref p', rfl, rfl, mL7, small1000 (by omega), _, _, _, _, _, _, _, _, rfl, fun b o e => ?_, ?_, upd_same, ?_⟩
        · rw [upd_ne (ne_of_none e hL0)]
          exact s7 _ _ (s9 _ _ (sm _ _ e))
        · obtain ⟨kvs, k1, k2, k3⟩ := (tbm.same (s9.trans s7)).ex
          exact ⟨kvs, by rw [upd_ne ndL]; exact k1, k2, ImAll.mono (tk_lst mL7) _ k3⟩
        · rw [vecsOf_snoc hr']
          unfold vecStep
          rw [ero]
          have e3 : (mkRow (F'.ks.map (·.1)) i j m).2.2.2 = fl := hfl
          rw [e3]
          show ImAll K _ _ ((vecsOf F' (rows.take t) ++ [vecT (F'.dims.getD i 0) (termsAt F' i j) _]).map vD)
          rw [ed, et, List.map_append]
          exact (ImAll.mono ((tk_same (s9.trans s7)).trans (tk_lst mL7)) _ im).snoc (Im.mono (tk_lst mL7) _ i7)
    · rintro σ Ha ⟨y4, y5, y6, y7, y8, y9, y10, ws, rfl, sm, tbm, mL, im⟩
      rw [lx, List.take_of_length_le (Nat.le_refl _)] at im
      refine ⟨.ref L, rfl, L, ws, rfl, .inl ⟨.of mL, fun l' hl' => q l' _ (sm.trans (same_new hl')) (.tup (.inl upd_same) (ImAll.mono (tk_new hl') _ im))⟩⟩
abbrev s_vectors : Stmt := topS 54
theorem sc_vectors : FnScope ["form", "rows"] ["form", "rows"] (defScope s_vectors) := ⟨rfl, rfl, rfl, by decide +kernel, rfl, by decide +kernel, by decide +kernel⟩
def sp_vectors (K : PySem.W.Frag) : Sp := fun vs H Q _ => ∃ (v u : V) (F : Form) (rows : List Rw), vs = [v, u] ∧ Im K H v (fmD F) ∧ Im K H u (rwsD rows) ∧ FormOk 2 F ∧ RowsOk F.ks rows ∧ VecsJob F rows ∧ ∀ p H', Same H H' → Im K H' (.ref p) (mD (vecsOf F rows)) → Q (.ref p) H'
theorem ok_vectors {f : Addr} {fd : FuncData} {k : Nat} (F : Fun K "vectors" "vectors" s_vectors f fd) (T : Tx K mg){k1 : Nat} (D_need_wide : DefX P w K mg base k1 "need_wide" s_need_wide ["form"] (sp_need_form K 2)) {k2 : Nat} (D_need_rows : DefX P w K mg base k2 "need_rows" s_need_rows ["kinds", "rows"] (sp_need_rows K)) {k3 : Nat} (D_vecs_of : Def P w K mg base k3 "vecs_of" s_vecs_of ["form", "rows"] (sp_vecs K)) (e1 : k1 ≤ k) (e2 : k2 ≤ k) (e3 : k3 ≤ k) : FnOk P w K mg base (L2.CX P w) (k + 1) f fd ["form", "rows"] (sp_vectors K) := by
  have nd := sc_vectors.nd
  refine F.okX sc_vectors (fun vs H Q E h => ?_) (fun cdv A outer s H vs Q E hr h => ?_)
  · obtain ⟨_, _, _, _, rfl, _⟩ := h
    rfl
  · obtain ⟨v, u, F', rows, rfl, iv, iu, ok, ro, job, q⟩ := h
    obtain ⟨a, x1, x2, x3, x4, rfl, ha, i1, i2, i3, i4⟩ := im_quad iv
    refine ⟨_, (pss_cons (ps_expr (pe_defX D_need_wide (takes_of rfl rfl rfl rfl) (hr.mono (by omega)) rfl (pa_cons (pv 0) pa_nil)))
      (pss_cons (ps_expr (pe_defX D_need_rows (takes_of rfl rfl rfl rfl) (hr.mono (by omega)) rfl (pa_cons (pe_ix (kix_tup K) (pv 0) pe_int (fun _ _ => rfl)) (pa_cons (pv 1) pa_nil))))
      (pss_one (ps_ret (pe_def D_vecs_of (hr.mono (by omega)) rfl (pa_cons (pv 0) (pa_cons (pv 1) pa_nil))))))), ?_⟩
    refine ⟨.ref a, rfl, .ref a, F', rfl, iv, ok, fun H1 s1 => ?_⟩
    refine ⟨.ref a, rfl, a, _, 0, _, rfl, rfl, (ha.mono (tk_same s1)).sq, atI_nat (j := 0) rfl, u, rfl, x1, u, F'.ks, rows, rfl, Im.mono (tk_same s1) _ i1, ok.kinds, Im.mono (tk_same s1) _ iu, ro, fun H2 s2 => ?_⟩
    have s12 := s1.trans s2
    exact ⟨.ref a, rfl, u, rfl, .ref a, u, F', rows, 2, rfl, Im.mono (tk_same s12) _ iv, Im.mono (tk_same s12) _ iu, ok, ro, job, fun p H3 s3 i3 => q p H3 (s12.trans s3) i3⟩
end
end K63

set_option Elab.async false
set_option linter.all false
set_option maxRecDepth 100000
set_option exponentiation.threshold 20000
set_option pp.deepTerms false
set_option pp.deepTerms.threshold 8
namespace K63
open PySem PySem.Spec PyProof.Rows L2 Ly Mt
/-! ### data that can be laid -/
theorem lay_map {α : Type} {f : α → PyData} : ∀ {l : List α}, (∀ x ∈ l, (f x).canLay0 = true) → PyData.canLayAll0 (l.map f) = true
  | [], _ => rfl
  | x :: l, h => by
    show ((f x).canLay0 && PyData.canLayAll0 (l.map f)) = true
    rw [h x (List.mem_cons_self ..), lay_map (l := l) fun y hy => h y (List.mem_cons_of_mem _ hy)]; rfl
theorem depth_map {α : Type} {f : α → PyData} {n : Nat} : ∀ {l : List α}, (∀ x ∈ l, (f x).depth ≤ n) → PyData.depthAll (l.map f) ≤ n
  | [], _ => Nat.zero_le _
  | x :: l, h => by
    show max (f x).depth (PyData.depthAll (l.map f)) ≤ n
    have h1 := h x (List.mem_cons_self ..)
    have h2 := depth_map (l := l) fun y hy => h y (List.mem_cons_of_mem _ hy)
    omega
theorem name_strOk {z : Str} (h : NameOk z) : PyData.strOk z = true := by
  have hl : ∀ c ∈ lows.cps.toList, c < 0x110000 := by decide +kernel
  have hh : ∀ c ∈ highs.cps.toList, c < 0x110000 := by decide +kernel
  have hd : ∀ c ∈ digs.cps.toList, c < 0x110000 := by decide +kernel
  show z.cps.all (fun c => decide (c < 0x110000)) = true
  rw [← Array.all_toList, List.all_eq_true]
  intro c hc
  have := h.signs c hc
  rw [Bool.or_eq_true, Bool.or_eq_true] at this
  rcases this with (h1 | h1) | h1
  · exact decide_eq_true (hl c (of_decide_eq_true h1))
  · exact decide_eq_true (hh c (of_decide_eq_true h1))
  · exact decide_eq_true (hd c (of_decide_eq_true h1))
theorem name_lay {z : Str} (h : NameOk z) : (PyData.str z).canLay0 = true := name_strOk h
theorem ks_lay {ks : List Kd} (ok : KindsOk ks) : (ksD ks).canLay0 = true := by
  refine lay_map fun k hk => ?_
  show ((PyData.str k.1).canLay0 && (PyData.canLayAll0 (k.2.map mkD) && true)) = true
  rw [name_lay (ok.nm k hk).1, lay_map fun m hm => ?_]; rfl
  show ((PyData.str m.1).canLay0 && (PyData.canLayAll0 (m.2.map .str) && true)) = true
  rw [name_lay (ok.mkk k hk m hm).1.1, lay_map fun f hf => ?_]; rfl
  rcases ok.flds k hk m hm f hf with h | h
  · subst h; decide +kernel
  · obtain ⟨k', hk', rfl⟩ := List.mem_map.mp h
    exact name_lay (ok.nm k' hk').1
theorem ks_depth (ks : List Kd) : (ksD ks).depth ≤ 64 := by
  have h : PyData.depthAll (ks.map kdD) ≤ 5 := depth_map fun k _ => by
    have h2 : PyData.depthAll (k.2.map mkD) ≤ 2 := depth_map fun m _ => by
      have h3 : PyData.depthAll (m.2.map .str) ≤ 0 := depth_map fun f _ => Nat.le_refl 0
      show max 0 (max (PyData.depthAll (m.2.map .str) + 1) 0) + 1 ≤ 2
      omega
    show max 0 (max (PyData.depthAll (k.2.map mkD) + 1) 0) + 1 ≤ 5
    omega
  show PyData.depthAll (ks.map kdD) + 1 ≤ 64
  omega
theorem ks_shaped {ks : List Kd} (ok : KindsOk ks) : SeqAt.shaped (ksD ks) = true := by
  unfold SeqAt.shaped
  rw [ks_lay ok, decide_eq_true (ks_depth ks)]; rfl
def headD (r : Rd) : PyData := .tuple [.str r.1, .str r.2.1]
def headsD (rs : List Rd) : PyData := .list (rs.map headD)
theorem heads_lay {rs : List Rd} {ks : List Kd} {dims : List Nat} (ok : KindsOk ks) (ro : ReadsOk (ks.map (·.1)) dims rs) : (headsD rs).canLay0 = true := by
  refine lay_map fun r hr => ?_
  obtain ⟨k, hk, e⟩ := List.mem_map.mp (ro.kind r hr).1
  show ((PyData.str r.1).canLay0 && ((PyData.str r.2.1).canLay0 && true)) = true
  rw [name_lay (ro.low r hr).1, ← e, name_lay (ok.nm k hk).1]; rfl
theorem heads_depth (rs : List Rd) : (headsD rs).depth ≤ 64 := by
  have h : PyData.depthAll (rs.map headD) ≤ 1 := depth_map fun r _ => Nat.le_refl 1
  show PyData.depthAll (rs.map headD) + 1 ≤ 64
  omega
/-! ### the joint form -/
def movedT (b : Nat) (steps : List Nat) (t : Tm) : Tm := (t.1 + b, List.zipWith (fun x y => x + y) t.2.1 steps, t.2.2)
def stepsOf (ns : List Str) (dims : List Nat) (fs : List Str) : List Nat := fs.map fun f => if f ∈ ns then dims.getD (ns.idxOf f) 0 else 0
def jcell (F G : Form) (i j : Nat) : List Tm := termsAt F i j ++ (termsAt G i j).map (movedT (F.dims.getD i 0) (stepsOf (F.ks.map (·.1)) F.dims ((F.ks.getD i (noS, [])).2.getD j (noS, [])).2))
def jrow (F G : Form) (i : Nat) : List (List Tm) := (List.range (F.ks.getD i (noS, [])).2.length).map (jcell F G i)
def jrd (r s : Rd) : Rd := (r.1, r.2.1, r.2.2 ++ s.2.2.map fun x => -x)
def joinF (F G : Form) : Form := ⟨F.ks, List.zipWith (fun x y => x + y) F.dims G.dims, (List.range F.ks.length).map (jrow F G), List.zipWith jrd F.rds G.rds⟩
theorem ImAll.app {K : PySem.W.Frag} {H : Hp} : ∀ {xs ys : List V} {ds es : List PyData}, ImAll K H xs ds → ImAll K H ys es → ImAll K H (xs ++ ys) (ds ++ es)
  | [], _, [], _, _, h => h
  | x :: xs, _, d :: ds, _, .cons a r, h => .cons a (ImAll.app r h)
theorem cat_big {K : PySem.W.Frag} {a b : Addr} {xs ys : List V} {H : Hp} {Q : VK} (h : ITup K H a xs) (h2 : ITup K H b ys) (hz : xs.length + ys.length ≤ 8000) (q : ∀ p H', Same H H' → ITup K H' p (xs ++ ys) → Q (.ref p) H') : rCatA K (.ref a) (.ref b) H Q := by
  refine ⟨a, b, xs, ys, rfl, rfl, h.sq, h2.sq, Nat.le_trans hz (by decide), fun e => q b H (Same.refl H) (by rw [e]; exact h2), fun _ e => q a H (Same.refl H) (by rw [e, List.append_nil]; exact h), fun _ _ p hp => q p _ (same_new hp) (.inl upd_same)⟩
theorem place_step {ns : List Str} {dims : List Nat} {f : Str} : (if placeOf ns f = -1 then 0 else dims.getD (placeOf ns f).toNat 0) = (if f ∈ ns then dims.getD (ns.idxOf f) 0 else 0) := by
  unfold placeOf
  by_cases h : f ∈ ns
  · rw [if_pos h, if_pos h, if_neg (by omega), Int.toNat_natCast]
  · rw [if_neg h, if_neg h, if_pos rfl]
section
variable {P : Program} {w : World} {K : PySem.W.Frag} {mg : Str → Option Value} {base : Heap}
abbrev s_are_comparable : Stmt := topS 56
theorem sc_are_comparable : FnScope ["one", "other", "read"] ["one", "other"] (defScope s_are_comparable) := ⟨rfl, rfl, rfl, by decide +kernel, rfl, by decide +kernel, by decide +kernel⟩
def sp_comp (K : PySem.W.Frag) : Sp := fun vs H Q _ => ∃ (v u : V) (F G : Form), vs = [v, u] ∧ Im K H v (fmD F) ∧ Im K H u (fmD G) ∧ FormOk 1 F ∧ FormOk 1 G ∧ G.ks = F.ks ∧ G.rds.map headD = F.rds.map headD ∧ ∀ H', Same H H' → Q (.bl true) H'
theorem ok_are_comparable {f : Addr} {fd : FuncData} {k : Nat} (F : Fun K "are_comparable" "are_comparable" s_are_comparable f fd) (T : Tx K mg) : FnOk P w K mg base CX0 (k + 1) f fd ["one", "other"] (sp_comp K) := by
  have nd := sc_are_comparable.nd
  refine F.ok sc_are_comparable (fun vs H Q E h => ?_) (fun cdv A outer s H vs Q E hr h => ?_)
  · obtain ⟨_, _, _, _, rfl, _⟩ := h
    rfl
  · obtain ⟨v, u, F', G, rfl, iv, iu, ok, ok2, ek, er, q⟩ := h
    obtain ⟨a, x1, x2, x3, x4, rfl, ha, i1, i2, i3, i4⟩ := im_quad iv
    obtain ⟨b, z1, z2, z3, z4, rfl, hb, j1, j2, j3, j4⟩ := im_quad iu
    obtain ⟨ra, xs, rfl, hra, hxs⟩ := i4.tuple_inv
    obtain ⟨rb, ys, rfl, hrb, hys⟩ := j4.tuple_inv
    rw [ek] at j1
    have ksh := ks_shaped ok.kinds
    have few := ok.rd.few
    have few2 := ok2.rd.few
    refine ⟨_, (pss_one (ps_ret (pe_and (pe_cmpR (kop_eqD K hr.units) (pe_ix (kix_tup K) (pv 0) pe_int (fun _ _ => rfl)) (pe_ix (kix_tup K) (pv 1) pe_int (fun _ _ => rfl)) (nomark _)) (pe_one (pe_cmpR (kop_eqD K hr.units) (pe_lc (own := [("read", 2)]) (g := gName 2) (tt := tYes) rfl nd (kpi_tup K (pe_ix (kix_tup K) (pv 0) pe_int (fun _ _ => rfl))) (blkOk_by (by rfl)) (fun _ _ _ _ _ => (pg_name (i := 2) nd rfl (.inl rfl))) (fun _ _ _ _ _ => pts_nil) (fun _ _ _ _ _ => (pe_slice (ksl_tupA K) (pv 2) po_none (po_some pe_int)))) (pe_lc (own := [("read", 2)]) (g := gName 2) (tt := tYes) rfl nd (kpi_tup K (pe_ix (kix_tup K) (pv 1) pe_int (fun _ _ => rfl))) (blkOk_by (by rfl)) (fun _ _ _ _ _ => (pg_name (i := 2) nd rfl (.inl rfl))) (fun _ _ _ _ _ => pts_nil) (fun _ _ _ _ _ => (pe_slice (ksl_tupA K) (pv 2) po_none (po_some pe_int)))) (nomark _)))))), ?_⟩
    refine ⟨.ref a, rfl, a, _, 0, _, rfl, rfl, ha.sq, atI_nat (j := 0) rfl, .ref b, rfl, b, _, 0, _, rfl, rfl, hb.sq, atI_nat (j := 0) rfl, ksD F'.ks, ksD F'.ks, Im.dp _ i1, Im.dp _ j1, ksh, ksh, true, ?_, iteT ?_⟩
    · rw [SeqAt.eqv_refl _ (ks_lay ok.kinds)]
    have lxs : xs.length = F'.rds.length := all_len hxs
    have lys : ys.length = G.rds.length := all_len hys
    refine ⟨.ref a, rfl, a, _, 3, _, rfl, rfl, ha.sq, atI_nat (j := 3) rfl, ra, rfl, ⟨_, hra.sq⟩, fun D hD => ?_⟩
    refine lc_all (walk_tup (xs := xs)) (fun i Hx => Same H Hx ∧ ∃ us, Hx D = some (.lst us) ∧ ImAll K Hx us ((F'.rds.take i).map headD)) ⟨same_new hD, [], upd_same, .nil⟩ (fun i Hx _ z => (hra.mono (tk_same z.1)).sq) (fun i x Hx Hy hi z y => ?_) (fun H1 z => ?_)
    · obtain ⟨sm, us, eD, iD⟩ := z
      obtain ⟨rfl, hxi⟩ := y
      obtain ⟨r, hr', ir⟩ := all_get (ImAll.mono (tk_same sm) _ hxs) hxi
      obtain ⟨p, w1, w2, w3, rfl, hp, k1, k2, k3⟩ := im_trip ir
      refine ⟨rfl, .ref p, rfl, 2, rfl, sl_any hp fun p' H3 s3 hp' => ?_⟩
      rw [show cutV [w1, w2, w3] none (some 2) = [w1, w2] from cut_take (n := 2) (by show 2 ≤ 3; decide)] at hp'
      have eD3 := s3 _ _ eD
      refine ⟨us, eD3, small1000 (by rw [all_len iD, List.length_take]; omega), fun b' o e => ?_, _, upd_same, ?_⟩
      · rw [upd_ne (ne_of_none e hD)]; exact s3 _ _ (sm _ _ e)
      · rw [List.take_add_one, hr', List.map_append]
        exact (ImAll.mono ((tk_same s3).trans (tk_lst eD3)) _ iD).snoc (Im.mono (tk_lst eD3) _ (.tup hp' (.cons (Im.mono (tk_same s3) _ k1) (.cons (Im.mono (tk_same s3) _ k2) .nil))))
    · obtain ⟨sm, us, eD, iD⟩ := z
      rw [lxs, List.take_of_length_le (Nat.le_refl _)] at iD
      refine ⟨.ref b, rfl, b, _, 3, _, rfl, rfl, (hb.mono (tk_same sm)).sq, atI_nat (j := 3) rfl, rb, rfl, ⟨_, (hrb.mono (tk_same sm)).sq⟩, fun D2 hD2 => ?_⟩
      refine lc_all (walk_tup (xs := ys)) (fun i Hx => Same H1 Hx ∧ ∃ us, Hx D2 = some (.lst us) ∧ ImAll K Hx us ((G.rds.take i).map headD)) ⟨same_new hD2, [], upd_same, .nil⟩ (fun i Hx _ z => (hrb.mono (tk_same (sm.trans z.1))).sq) (fun i x Hx Hy hi z y => ?_) (fun H2 z => ?_)
      · obtain ⟨sm2, us, eD, iD⟩ := z
        obtain ⟨rfl, hxi⟩ := y
        obtain ⟨r, hr', ir⟩ := all_get (ImAll.mono (tk_same (sm.trans sm2)) _ hys) hxi
        obtain ⟨p, w1, w2, w3, rfl, hp, k1, k2, k3⟩ := im_trip ir
        refine ⟨rfl, .ref p, rfl, 2, rfl, sl_any hp fun p' H3 s3 hp' => ?_⟩
        rw [show cutV [w1, w2, w3] none (some 2) = [w1, w2] from cut_take (n := 2) (by show 2 ≤ 3; decide)] at hp'
        have eD3 := s3 _ _ eD
        refine ⟨us, eD3, small1000 (by rw [all_len iD, List.length_take]; omega), fun b' o e => ?_, _, upd_same, ?_⟩
        · rw [upd_ne (ne_of_none e hD2)]; exact s3 _ _ (sm2 _ _ e)
        · rw [List.take_add_one, hr', List.map_append]
          exact (ImAll.mono ((tk_same s3).trans (tk_lst eD3)) _ iD).snoc (Im.mono (tk_lst eD3) _ (.tup hp' (.cons (Im.mono (tk_same s3) _ k1) (.cons (Im.mono (tk_same s3) _ k2) .nil))))
      · obtain ⟨sm2, us2, eD2, iD2⟩ := z
        rw [lys, List.take_of_length_le (Nat.le_refl _), er] at iD2
        have sh : SeqAt.shaped (headsD F'.rds) = true := by
          unfold SeqAt.shaped
          rw [heads_lay ok.kinds ok.rd, decide_eq_true (heads_depth _)]; rfl
        refine ⟨headsD F'.rds, headsD F'.rds, .lst (.of (sm2 _ _ eD)) (ImAll.dp _ (ImAll.mono (tk_same sm2) _ iD)), .lst (.of eD2) (ImAll.dp _ iD2), sh, sh, ?_⟩
        rw [SeqAt.eqv_refl _ (heads_lay ok.kinds ok.rd)]
        exact q _ (sm.trans sm2)
abbrev s_need_pair : Stmt := topS 57
theorem sc_need_pair : FnScope ["one", "other"] ["one", "other"] (defScope s_need_pair) := ⟨rfl, rfl, rfl, by decide +kernel, rfl, by decide +kernel, by decide +kernel⟩
def sp_need_pair (K : PySem.W.Frag) : Sp := fun vs H Q _ => ∃ (v u : V) (F G : Form), vs = [v, u] ∧ Im K H v (fmD F) ∧ Im K H u (fmD G) ∧ FormOk 1 F ∧ FormOk 1 G ∧ G.ks = F.ks ∧ G.rds.map headD = F.rds.map headD ∧ ∀ H', Same H H' → Q .non H'
theorem ok_need_pair {f : Addr} {fd : FuncData} {k : Nat} (F : Fun K "need_pair" "need_pair" s_need_pair f fd) (T : Tx K mg){er : Er} (TE : Tr K mg er) {k1 : Nat} (D_need_form : DefX P w K mg base k1 "need_form" s_need_form ["form"] (sp_need_form K 1)) {k2 : Nat} (D_are_comparable : Def P w K mg base k2 "are_comparable" s_are_comparable ["one", "other"] (sp_comp K)) (e1 : k1 ≤ k) (e2 : k2 ≤ k) : FnOk P w K mg base (L2.CX P w) (k + 1) f fd ["one", "other"] (sp_need_pair K) := by
  have nd := sc_need_pair.nd
  refine F.okX sc_need_pair (fun vs H Q E h => ?_) (fun cdv A outer s H vs Q E hr h => ?_)
  · obtain ⟨_, _, _, _, rfl, _⟩ := h
    rfl
  · obtain ⟨v, u, F', G, rfl, iv, iu, ok, ok2, ek, er, q⟩ := h
    refine ⟨_, (pss_cons (ps_expr (pe_defX D_need_form (takes_of rfl rfl rfl rfl) (hr.mono (by omega)) rfl (pa_cons (pv 0) pa_nil)))
      (pss_cons (ps_expr (pe_defX D_need_form (takes_of rfl rfl rfl rfl) (hr.mono (by omega)) rfl (pa_cons (pv 1) pa_nil)))
      (pss_one (ps_if (pt_not (pt_val (pe_def D_are_comparable (hr.mono (by omega)) rfl (pa_cons (pv 0) (pa_cons (pv 1) pa_nil)))))
        (pss_one (ps_raise rfl (takes_of rfl rfl rfl rfl) (pmk_own PySem.F.excBase_ValueError TE.x_Unlike TE.g_Unlike TE.k_Unlike (raises_own TE.b_Unlike TE.t_Unlike) rfl)))
        pss_nil)))), ?_⟩
    exact ⟨v, rfl, v, F', rfl, iv, ok, fun H1 s1 => ⟨u, rfl, u, G, rfl, Im.mono (tk_same s1) _ iu, ok2, fun H2 s2 => ⟨v, rfl, u, rfl, v, u, F', G, rfl, Im.mono (tk_same (s1.trans s2)) _ iv, Im.mono (tk_same (s1.trans s2)) _ iu, ok, ok2, ek, er, fun H3 s3 => ⟨true, rfl, iteF (q _ ((s1.trans s2).trans s3))⟩⟩⟩⟩
abbrev s_moved : Stmt := topS 58
theorem sc_moved : FnScope ["term", "by", "steps", "row", "cols", "ratio", "col", "step"] ["term", "by", "steps"] (defScope s_moved) := ⟨rfl, rfl, rfl, by decide +kernel, rfl, by decide +kernel, by decide +kernel⟩
def sp_moved (K : PySem.W.Frag) : Sp := fun vs H Q _ => ∃ (v : V) (b : Nat) (l : Addr) (t : Tm) (steps : List Nat), vs = [v, .int (b : Nat), .ref l] ∧ Im K H v (tmD t) ∧ H l = some (.lst (steps.map (fun n : Nat => V.int (n : Nat)))) ∧ t.2.1.length = steps.length ∧ steps.length ≤ 1000 ∧ ∀ p H', Same H H' → Im K H' (.ref p) (tmD (movedT b steps t)) → Q (.ref p) H'
theorem ok_moved {f : Addr} {fd : FuncData} {k : Nat} (F : Fun K "moved" "moved" s_moved f fd) (T : Tx K mg) : FnOk P w K mg base CX0 (k + 1) f fd ["term", "by", "steps"] (sp_moved K) := by
  have nd := sc_moved.nd
  refine F.ok sc_moved (fun vs H Q E h => ?_) (fun cdv A outer s H vs Q E hr h => ?_)
  · obtain ⟨_, _, _, _, _, rfl, _⟩ := h
    rfl
  · obtain ⟨v, b, l, t, steps, rfl, iv, hl, le, few, q⟩ := h
    obtain ⟨px, z1, z2, z3, rfl, hpx, iz1, iz2, iz3⟩ := im_trip iv
    obtain rfl := iz1.int_inv
    obtain ⟨pc, cs, rfl, hpc, hcs⟩ := iz2.tuple_inv
    obtain rfl := im_nats hcs
    refine ⟨_, (pss_cons (ps_asg (pv 0) (kpg_tup K (n := 3) rfl (pgs_cons (pg_name (i := 3) nd rfl (.inl rfl)) (pgs_cons (pg_name (i := 4) nd rfl (.inl rfl)) (pgs_cons (pg_name (i := 5) nd rfl (.inl rfl)) pgs_nil)))))
      (pss_one (ps_ret (pe_tup (pa_cons (pe_op op_add (pv 3) (pv 1)) (pa_cons (pe_callTy (kcall_tuple K) (by rfl) T.m_tuple (by decide +kernel) (pa_cons (pe_lc (own := [("col", 6), ("step", 7)]) (g := _) (tt := tYes) rfl nd (kpi_zipN K (by rfl) T.m_zip (pa_cons (pv 4) (pa_cons (pv 2) pa_nil))) (blkOk_by (by rfl)) (fun _ _ _ _ _ => (kpg_tup K (n := 2) rfl (pgs_cons (pg_name (i := 6) nd rfl (.inl rfl)) (pgs_cons (pg_name (i := 7) nd rfl (.inl rfl)) pgs_nil)))) (fun _ _ _ _ _ => pts_nil) (fun _ _ _ _ _ => (pe_op op_add (pv 6) (pv 7)))) pa_nil)) (pa_cons (pv 5) pa_nil))))))), ?_⟩
    refine ⟨.ref px, rfl, px, _, rfl, hpx.sq, rfl, .int (t.1 : Nat), _, rfl, .ref pc, _, rfl, z3, _, rfl, rfl, ?_⟩
    refine ⟨.int (t.1 : Nat), rfl, .int (b : Nat), rfl, _, _, rfl, rfl, .ref pc, rfl, .ref l, rfl, pc, l, _, _, rfl, hpc.sq, .of hl, fun D hD => ?_⟩
    refine lc_all (walk_zipN (xs := t.2.1.map fun n : Nat => V.int (n : Nat)) (ys := steps.map fun n : Nat => V.int (n : Nat)) (by simp only [List.length_map]; omega)) (fun i Hx => Same H Hx ∧ Hx D = some (.lst (((List.zipWith (fun x y => x + y) t.2.1 steps).take i).map (fun n : Nat => V.int (n : Nat))))) ⟨same_new hD, upd_same⟩ (fun i Hx _ z => ⟨(hpc.mono (tk_same z.1)).sq, .of (z.1 _ _ hl)⟩) (fun i x Hx Hy hi z y => ?_) (fun Hx z => ?_)
    · obtain ⟨sm, eD⟩ := z
      obtain ⟨T, x1, x2, rfl, hT, rfl, f1, f2⟩ := y
      simp only [List.getElem?_map] at f1 f2
      obtain ⟨c, hc, rfl⟩ := Option.map_eq_some_iff.mp f1
      obtain ⟨st, hst, rfl⟩ := Option.map_eq_some_iff.mp f2
      have sT := same_new (o := .tup [V.int (c : Nat), .int (st : Nat)]) hT
      refine ⟨T, _, rfl, .of upd_same, rfl, .int (c : Nat), _, rfl, .int (st : Nat), _, rfl, rfl, rfl, .int (c : Nat), rfl, .int (st : Nat), rfl, _, _, rfl, rfl, _, sT _ _ eD, small1000 (by simp only [List.length_map, List.length_take, List.length_zipWith]; omega), fun b' o e => ?_, ?_⟩
      · rw [upd_ne (ne_of_none e hD)]; exact sT _ _ (sm _ _ e)
      · rw [upd_same, List.take_add_one, List.getElem?_zipWith, hc, hst, List.map_append]; rfl
    · obtain ⟨sm, eD⟩ := z
      have lz : (List.zipWith (fun x y => x + y) t.2.1 steps).length ≤ t.2.1.length := by rw [List.length_zipWith]; omega
      rw [List.length_map, List.take_of_length_le lz] at eD
      refine ⟨D, _, rfl, .inl ⟨.of eD, fun l' hl' => ⟨z3, rfl, by show 3 ≤ sizeLine; decide, fun T hT => ?_⟩⟩⟩
      have s2 := same_new (o := .tup ((List.zipWith (fun x y => x + y) t.2.1 steps).map (fun n : Nat => V.int (n : Nat)))) hl'
      have s3 := same_new (o := .tup [V.int ((t.1 : Nat) + (b : Nat)), .ref l', z3]) hT
      refine q T _ ((sm.trans s2).trans s3) (.tup (.inl upd_same) (.cons ?_ (.cons ?_ (.cons ?_ .nil))))
      · show Im K _ _ (.int ((t.1 + b : Nat) : Int))
        have e : ((t.1 + b : Nat) : Int) = (t.1 : Nat) + (b : Nat) := by omega
        rw [e]
        exact .int _
      · exact .tup (.inl (s3 _ _ upd_same)) (nats_im _)
      · exact Im.mono (tk_same ((sm.trans s2).trans s3)) _ iz3
end
end K63

set_option Elab.async false
set_option linter.all false
set_option maxRecDepth 100000
set_option exponentiation.threshold 20000
set_option pp.deepTerms false
set_option pp.deepTerms.threshold 8
namespace K63
open PySem PySem.Spec PyProof.Rows L2 Ly Mt
theorem range_snoc {α : Type} {f : Nat → α} (n : Nat) : (List.range (n + 1)).map f = (List.range n).map f ++ [f n] := by
  rw [List.range_succ, List.map_append]; rfl
theorem jterm_len {G : Form} {wide : Nat} (ok : FormOk wide G) {i j : Nat} {kd : Kd} {m : Mk} {ts : List Tm} {row : List (List Tm)} (hk : G.ks[i]? = some kd) (hm : kd.2[j]? = some m) (hr : G.maps[i]? = some row) (ht : row[j]? = some ts) : ts.length ≤ 8000 ∧ ∀ t ∈ ts, t.2.1.length = m.2.length := by
  have to := ok.tm i kd row hk hr j m ts hm ht
  have w2 := ok.wid
  have := to.few
  exact ⟨by omega, fun t h => by rw [(to.each t h).len, List.length_map]⟩
section
variable {P : Program} {w : World} {K : PySem.W.Frag} {mg : Str → Option Value} {base : Heap}
abbrev s_joined : Stmt := topS 59
theorem sc_joined : FnScope ["one", "other", "kinds", "dims", "maps", "reads", "table", "found", "index", "_", "makers", "row", "at", "maker", "steps", "both", "name", "kind", "vector", "also", "field", "term", "ratio", "left", "right"] ["one", "other"] (defScope s_joined) := ⟨rfl, rfl, rfl, by decide +kernel, rfl, by decide +kernel, by decide +kernel⟩
def sp_joined (K : PySem.W.Frag) : Sp := fun vs H Q _ => ∃ (v u : V) (F G : Form), vs = [v, u] ∧ Im K H v (fmD F) ∧ Im K H u (fmD G) ∧ FormOk 1 F ∧ FormOk 1 G ∧ G.ks = F.ks ∧ G.rds.length = F.rds.length ∧ ∀ p H', Same H H' → Im K H' (.ref p) (fmD (joinF F G)) → Q (.ref p) H'
set_option maxHeartbeats 2000000 in
theorem ok_joined {f : Addr} {fd : FuncData} {k : Nat} (F : Fun K "joined" "joined" s_joined f fd) (T : Tx K mg){k1 : Nat} (D_maker_table : Def P w K mg base k1 "maker_table" s_maker_table ["kinds"] (sp_maker_table K)) {k2 : Nat} (D_moved : Def P w K mg base k2 "moved" s_moved ["term", "by", "steps"] (sp_moved K)) {k3 : Nat} (D_opposite : Def P w K mg base k3 "opposite" s_opposite ["one"] (sp_opposite K)) (e1 : k1 ≤ k) (e2 : k2 ≤ k) (e3 : k3 ≤ k) : FnOk P w K mg base CX0 (k + 1) f fd ["one", "other"] (sp_joined K) := by
  have nd := sc_joined.nd
  refine F.ok sc_joined (fun vs H Q E h => ?_) (fun cdv A outer s H vs Q E hr h => ?_)
  · obtain ⟨_, _, _, _, rfl, _⟩ := h
    rfl
  · obtain ⟨v, u, F', G, rfl, iv, iu, ok, ok2, ek, erl, q⟩ := h
    obtain ⟨a, x1, x2, x3, x4, rfl, ha, i1, i2, i3, i4⟩ := im_quad iv
    obtain ⟨b, w1, w2, w3, w4, rfl, hb, j1, j2, j3, j4⟩ := im_quad iu
    obtain ⟨ka, kxs, rfl, hka, hkx⟩ := i1.tuple_inv
    obtain ⟨c, ds, rfl, hc, hds⟩ := i2.tuple_inv
    obtain rfl := im_nats hds
    obtain ⟨c2, ds, rfl, hc2, hds2⟩ := j2.tuple_inv
    obtain rfl := im_nats hds2
    obtain ⟨pm, ms, rfl, hpm, hms⟩ := i3.tuple_inv
    obtain ⟨pm2, ms2, rfl, hpm2, hms2⟩ := j3.tuple_inv
    obtain ⟨ra, rxs, rfl, hra, hrx⟩ := i4.tuple_inv
    obtain ⟨rb, rys, rfl, hrb, hry⟩ := j4.tuple_inv
    have lkx : kxs.length = F'.ks.length := all_len hkx
    have lrx : rxs.length = F'.rds.length := all_len hrx
    have lry : rys.length = G.rds.length := all_len hry
    have kf := ok.kinds.few
    have rf := ok.rd.few
    have ld := ok.ld
    have ld2 := ok2.ld
    rw [ek] at ld2
    refine ⟨_, (pss_cons (ps_asg (pv 0) (kpg_tup K (n := 4) rfl (pgs_cons (pg_name (i := 2) nd rfl (.inl rfl)) (pgs_cons (pg_name (i := 3) nd rfl (.inr rfl)) (pgs_cons (pg_name (i := 4) nd rfl (.inl rfl)) (pgs_cons (pg_name (i := 5) nd rfl (.inl rfl)) pgs_nil))))))
      (pss_cons (ps_set (i := 6) nd rfl (.inl rfl) (pe_def D_maker_table (hr.mono (by omega)) rfl (pa_cons (pv 2) pa_nil)))
      (pss_cons (ps_set (i := 7) nd rfl (.inl rfl) (pe_lst pa_nil))
      (pss_cons (ps_for PassesOwn.never rfl (kpi_enumT K (by rfl) T.m_enumerate (pa_cons (pv 2) pa_nil)) (kpg_tup K (n := 2) rfl (pgs_cons (pg_name (i := 8) nd rfl (.inr rfl)) (pgs_cons (kpg_tup K (n := 2) rfl (pgs_cons (pg_name (i := 9) nd rfl (.inl rfl)) (pgs_cons (pg_name (i := 10) nd rfl (.inl rfl)) pgs_nil))) pgs_nil)))
        (pss_cons (ps_set (i := 11) nd rfl (.inl rfl) (pe_lst pa_nil))
        (pss_cons (ps_for PassesOwn.never rfl (kpi_enumT K (by rfl) T.m_enumerate (pa_cons (pv 10) pa_nil)) (kpg_tup K (n := 2) rfl (pgs_cons (pg_name (i := 12) nd rfl (.inl rfl)) (pgs_cons (kpg_tup K (n := 2) rfl (pgs_cons (pg_name (i := 13) nd rfl (.inl rfl)) (pgs_cons (pg_name (i := 9) nd rfl (.inl rfl)) pgs_nil))) pgs_nil)))
          (pss_cons (ps_set (i := 14) nd rfl (.inr rfl) (pe_lc (own := [("field", 20)]) (g := gName 20) (tt := tYes) rfl nd (kpi_tup K (pe_ix (kix_tup K) (pe_dget (hu_of hr) (pv 6) (pv 13) (fun _ _ => rfl)) pe_int (fun _ _ => rfl))) (blkOk_by (by rfl)) (fun _ _ _ _ _ => (pg_name (i := 20) nd rfl (.inl rfl))) (fun _ _ _ _ _ => pts_nil) (fun _ _ _ _ _ => (pe_ifExp (pt_cmpR op_eq (pv 20) (pe_gv rfl T.g_NUMBER) (nomark _)) pe_int (pe_ix (kix_tup K) (pv 3) (pv 20) (fun _ _ => rfl))))))
          (pss_one (ps_expr (pe_bm PySem.F.plainAttrs_list PySem.F.slot_list_append PySem.F.type_list_append mt_append (pv 11) (pa_cons (pe_op (kop_catA K) (pe_ix (kix_tup K) (pe_ix (kix_tup K) (pv 4) (pv 8) (fun _ _ => rfl)) (pv 12) (fun _ _ => rfl)) (pe_callTy (kcall_tuple K) (by rfl) T.m_tuple (by decide +kernel) (pa_cons (pe_lc (own := [("term", 21)]) (g := gName 21) (tt := tYes) rfl nd (kpi_tup K (pe_ix (kix_tup K) (pe_ix (kix_tup K) (pe_ix (kix_tup K) (pv 1) pe_int (fun _ _ => rfl)) (pv 8) (fun _ _ => rfl)) (pv 12) (fun _ _ => rfl))) (blkOk_by (by rfl)) (fun _ _ _ _ _ => (pg_name (i := 21) nd rfl (.inl rfl))) (fun _ _ _ _ _ => pts_nil) (fun _ _ _ _ _ => (pe_def D_moved (hr.mono (by omega)) rfl (pa_cons (pv 21) (pa_cons (pe_ix (kix_tup K) (pv 3) (pv 8) (fun _ _ => rfl)) (pa_cons (pv 14) pa_nil)))))) pa_nil))) pa_nil))))))
        (pss_one (ps_expr (pe_bm PySem.F.plainAttrs_list PySem.F.slot_list_append PySem.F.type_list_append mt_append (pv 7) (pa_cons (pe_callTy (kcall_tuple K) (by rfl) T.m_tuple (by decide +kernel) (pa_cons (pv 11) pa_nil)) pa_nil)))))))
      (pss_cons (ps_set (i := 15) nd rfl (.inl rfl) (pe_lst pa_nil))
      (pss_cons (ps_for PassesOwn.never rfl (kpi_zip K (by rfl) T.m_zip (pa_cons (pv 5) (pa_cons (pe_ix (kix_tup K) (pv 1) pe_int (fun _ _ => rfl)) pa_nil))) (kpg_tup K (n := 2) rfl (pgs_cons (kpg_tup K (n := 3) rfl (pgs_cons (pg_name (i := 16) nd rfl (.inl rfl)) (pgs_cons (pg_name (i := 17) nd rfl (.inl rfl)) (pgs_cons (pg_name (i := 18) nd rfl (.inl rfl)) pgs_nil)))) (pgs_cons (kpg_tup K (n := 3) rfl (pgs_cons (pg_name (i := 9) nd rfl (.inl rfl)) (pgs_cons (pg_name (i := 9) nd rfl (.inl rfl)) (pgs_cons (pg_name (i := 19) nd rfl (.inl rfl)) pgs_nil)))) pgs_nil)))
        (pss_one (ps_expr (pe_bm PySem.F.plainAttrs_list PySem.F.slot_list_append PySem.F.type_list_append mt_append (pv 15) (pa_cons (pe_tup (pa_cons (pv 16) (pa_cons (pv 17) (pa_cons (pe_op (kop_catA K) (pv 18) (pe_callTy (kcall_tuple K) (by rfl) T.m_tuple (by decide +kernel) (pa_cons (pe_lc (own := [("ratio", 22)]) (g := gName 22) (tt := tYes) rfl nd (kpi_tup K (pv 19)) (blkOk_by (by rfl)) (fun _ _ _ _ _ => (pg_name (i := 22) nd rfl (.inl rfl))) (fun _ _ _ _ _ => pts_nil) (fun _ _ _ _ _ => (pe_def D_opposite (hr.mono (by omega)) rfl (pa_cons (pv 22) pa_nil)))) pa_nil))) pa_nil)))) pa_nil)))))
      (pss_one (ps_ret (pe_tup (pa_cons (pv 2) (pa_cons (pe_callTy (kcall_tuple K) (by rfl) T.m_tuple (by decide +kernel) (pa_cons (pe_lc (own := [("left", 23), ("right", 24)]) (g := _) (tt := tYes) rfl nd (kpi_zip K (by rfl) T.m_zip (pa_cons (pv 3) (pa_cons (pe_ix (kix_tup K) (pv 1) pe_int (fun _ _ => rfl)) pa_nil))) (blkOk_by (by rfl)) (fun _ _ _ _ _ => (kpg_tup K (n := 2) rfl (pgs_cons (pg_name (i := 23) nd rfl (.inl rfl)) (pgs_cons (pg_name (i := 24) nd rfl (.inl rfl)) pgs_nil)))) (fun _ _ _ _ _ => pts_nil) (fun _ _ _ _ _ => (pe_op op_add (pv 23) (pv 24)))) pa_nil)) (pa_cons (pe_callTy (kcall_tuple K) (by rfl) T.m_tuple (by decide +kernel) (pa_cons (pv 7) pa_nil)) (pa_cons (pe_callTy (kcall_tuple K) (by rfl) T.m_tuple (by decide +kernel) (pa_cons (pv 15) pa_nil)) pa_nil))))))))))))), ?_⟩
    refine ⟨.ref a, rfl, a, _, rfl, ha.sq, rfl, .ref ka, _, rfl, .ref c, _, rfl, .ref pm, _, rfl, .ref ra, _, rfl, rfl, ?_⟩
    refine ⟨.ref ka, rfl, .ref ka, F'.ks, rfl, i1, ok.kinds, fun d H1 s1 hd1 tb => ?_⟩
    refine ⟨by show 0 ≤ sizeLine; decide, fun L hL => ?_⟩
    have sL := same_new (o := .lst []) hL
    have eL : (upd H1 L (.lst [])) L = some (.lst []) := upd_same
    have s2 := s1.trans sL
    have tb2 := tb.same sL
    have hL0 : H L = none := s1.free hL
    have ndL : d ≠ L := by
      obtain ⟨kvs, e0, _⟩ := tb.ex
      exact ne_of_none e0 hL
    generalize upd H1 L (.lst []) = H2 at *
    refine ⟨.ref ka, rfl, ka, kxs, rfl, (hka.mono (tk_same s2)).sq, ?_⟩
    refine for_it (walk_enumT (xs := kxs)) (fun i σ Ha => ∃ (y8 y9 y10 y11 y12 y13 y14 : Option V) (ws : List V), σ = [some (.ref a), some (.ref b), some (.ref ka), some (.ref c), some (.ref pm), some (.ref ra), some (.ref d), some (.ref L), y8, y9, y10, y11, y12, y13, y14, none, none, none, none, none, none, none, none, none, none] ∧ Same H Ha ∧ TableAt K Ha d (rowsOf F'.ks F'.ks.length) ∧ Ha L = some (.lst ws) ∧ ImAll K Ha ws (((List.range i).map (jrow F' G)).map mrD)) ⟨_, _, _, _, _, _, _, [], rfl, s2, tb2, eL, .nil⟩ (fun i σ Ha _ z => ?_) ?_ ?_
    · obtain ⟨_, _, _, _, _, _, _, _, _, sm, _⟩ := z
      exact (hka.mono (tk_same sm)).sq
    · rintro i x σ Ha Hb hi ⟨y8, y9, y10, y11, y12, y13, y14, ws, rfl, sm, tbm, mL, im⟩ ⟨T, x1, x2, rfl, hT, rfl, f1, f2⟩
      obtain rfl := Option.some.inj f1
      obtain ⟨kd, hkd, ikd⟩ := all_get (ImAll.mono (tk_same sm) _ hkx) f2
      obtain ⟨pk, u1, u2, rfl, hpk, iu1, iu2⟩ := im_pair ikd
      obtain rfl := iu1.str_inv
      obtain ⟨pmk, us, rfl, hpmk, ius⟩ := iu2.tuple_inv
      have lus : us.length = kd.2.length := all_len ius
      have kmem := List.mem_of_getElem? hkd
      have mk6 := ok.kinds.mks kd kmem
      have sT := same_new (o := .tup [.int (i : Nat), .ref pk]) hT
      refine ⟨T, _, rfl, .of upd_same, rfl, .int (i : Nat), _, rfl, .ref pk, _, rfl, pk, _, rfl, (hpk.mono (tk_same sT)).sq, rfl, .str kd.1, _, rfl, .ref pmk, _, rfl, rfl, rfl, ?_⟩
      refine ⟨by show 0 ≤ sizeLine; decide, fun R hR => ?_⟩
      have sR := same_new (o := .lst []) hR
      have s3 := sT.trans sR
      have mR : (upd (upd Ha T (.tup [.int (i : Nat), .ref pk])) R (.lst [])) R = some (.lst []) := upd_same
      have hRa : Ha R = none := sT.free hR
      have hR0 : H R = none := sm.free hRa
      have nRL : L ≠ R := ne_of_none (sT _ _ mL) hR
      have ndR : d ≠ R := by
        obtain ⟨kvs, e0, _⟩ := (tbm.same sT).ex
        exact ne_of_none e0 hR
      generalize upd (upd Ha T (.tup [.int (i : Nat), .ref pk])) R (.lst []) = H3 at *
      refine ⟨.ref pmk, rfl, pmk, us, rfl, (hpmk.mono (tk_same s3)).sq, ?_⟩
      refine for_it (walk_enumT (xs := us)) (fun j σ Hc => ∃ (y9 y12 y13 y14 : Option V) (vs : List V), σ = [some (.ref a), some (.ref b), some (.ref ka), some (.ref c), some (.ref pm), some (.ref ra), some (.ref d), some (.ref L), some (.int (i : Nat)), y9, some (.ref pmk), some (.ref R), y12, y13, y14, none, none, none, none, none, none, none, none, none, none] ∧ Same Ha Hc ∧ Hc R = some (.lst vs) ∧ ImAll K Hc vs (((List.range j).map (jcell F' G i)).map tsD)) ⟨_, _, _, _, [], rfl, s3, mR, .nil⟩ (fun j σ Hc _ z => ?_) ?_ ?_
      · obtain ⟨_, _, _, _, _, _, s5, _⟩ := z
        exact (hpmk.mono (tk_same s5)).sq
      · rintro j x σ Hc Hd hj ⟨y9, y12, y13, y14, vs, rfl, s5, mR5, im5⟩ ⟨T2, x1, x2, rfl, hT2, rfl, f1, f2⟩
        obtain rfl := Option.some.inj f1
        obtain ⟨m, hm, imm⟩ := all_get (ImAll.mono (tk_same s5) _ ius) f2
        obtain ⟨pp, u3, u4, rfl, hpp, iu3, iu4⟩ := im_pair imm
        obtain rfl := iu3.str_inv
        have sT2 := same_new (o := .tup [.int (j : Nat), .ref pp]) hT2
        refine ⟨T2, _, rfl, .of upd_same, rfl, .int (j : Nat), _, rfl, .ref pp, _, rfl, pp, _, rfl, (hpp.mono (tk_same sT2)).sq, rfl, .str m.1, _, rfl, u4, _, rfl, rfl, rfl, ?_⟩
        have s6 := s5.trans sT2
        have mR6 := sT2 _ _ mR5
        have im6 := ImAll.mono (tk_same sT2) _ im5
        generalize upd Hc T2 (.tup [.int (j : Nat), .ref pp]) = H6 at *
        have sA := sm.trans s6
        obtain ⟨vr, gr, irr⟩ := tb_get (tbm.same s6) ok.kinds hkd hm
        obtain ⟨qr, r1, r2, r3, rfl, hqr, ir1, ir2, ir3⟩ := im_trip irr
        have ir3' : Im K H6 r3 (.tuple ((m.2.map (placeOf (F'.ks.map (·.1)))).map .int)) := ir3
        obtain ⟨pf, fs, rfl, hpf, hfs⟩ := ir3'.tuple_inv
        obtain rfl := im_ints hfs
        have l4 := (ok.kinds.mkk _ kmem _ (List.mem_of_getElem? hm)).2
        refine ⟨.ref d, rfl, .str m.1, rfl, d, _, rfl, gr, qr, _, 2, _, rfl, rfl, hqr.sq, atI_nat (j := 2) rfl, pf, rfl, ⟨_, hpf.sq⟩, fun S hS => ?_⟩
        have hS0 : H S = none := sA.free hS
        refine lc_all (walk_tup (xs := (m.2.map (placeOf (F'.ks.map (·.1)))).map V.int)) (fun s Hx => Same H6 Hx ∧ Hx S = some (.lst (((stepsOf (F'.ks.map (·.1)) F'.dims m.2).take s).map (fun n : Nat => V.int (n : Nat))))) ⟨same_new hS, upd_same⟩ (fun s Hx _ z => (hpf.mono (tk_same z.1)).sq) (fun s x Hx Hy hs z y => ?_) (fun Hx z => ?_)
        · obtain ⟨s7, eS⟩ := z
          obtain ⟨rfl, hxs⟩ := y
          simp only [List.getElem?_map] at hxs
          obtain ⟨pl, hpl, rfl⟩ := Option.map_eq_some_iff.mp hxs
          obtain ⟨f, hf, rfl⟩ := Option.map_eq_some_iff.mp hpl
          simp only [List.length_map] at hs
          have est : (stepsOf (F'.ks.map (·.1)) F'.dims m.2)[s]? = some (if placeOf (F'.ks.map (·.1)) f = -1 then 0 else F'.dims.getD (placeOf (F'.ks.map (·.1)) f).toNat 0) := by
            unfold stepsOf
            rw [List.getElem?_map, hf, place_step]; rfl
          have fin : ∀ n : Nat, (stepsOf (F'.ks.map (·.1)) F'.dims m.2)[s]? = some n → ∃ acc, Hy S = some (.lst acc) ∧ acc.length < sizeLine ∧ Same H6 (upd Hy S (.lst (acc ++ [V.int (n : Nat)]))) ∧ (upd Hy S (.lst (acc ++ [V.int (n : Nat)]))) S = some (.lst (((stepsOf (F'.ks.map (·.1)) F'.dims m.2).take (s + 1)).map (fun n : Nat => V.int (n : Nat)))) := fun n en => by
            refine ⟨_, eS, small1000 (by simp only [List.length_map, List.length_take]; omega), fun b' o e => ?_, ?_⟩
            · rw [upd_ne (ne_of_none e hS)]; exact s7 _ _ e
            · rw [upd_same, List.take_add_one, en, List.map_append]; rfl
          refine ⟨rfl, .int _, rfl, rfl, _, rfl, ?_⟩
          by_cases h1 : placeOf (F'.ks.map (·.1)) f = -1
          · rw [decide_eq_true (by rw [h1])]
            rw [if_pos h1] at est
            exact iteT (fin 0 est)
          · rw [decide_eq_false (fun z => h1 (V.int.inj z))]
            rw [if_neg h1] at est
            obtain ⟨p0, p1⟩ := (place_in (ns := F'.ks.map (·.1)) f).resolve_left h1
            rw [List.length_map] at p1
            obtain ⟨n, en⟩ : ∃ n : Nat, placeOf (F'.ks.map (·.1)) f = n := ⟨(placeOf (F'.ks.map (·.1)) f).toNat, by omega⟩
            rw [en] at est p1 ⊢
            rw [Int.toNat_natCast] at p1 est
            have p2 : n < F'.dims.length := by omega
            refine iteF ⟨.ref c, rfl, .int (n : Nat), rfl, c, _, _, V.int ((F'.dims.getD n 0 : Nat) : Int), rfl, rfl, (hc.mono (tk_same (sA.trans s7))).sq, atI_nat (j := n) ?_, fin _ est⟩
            rw [List.getElem?_map, List.getD_eq_getElem?_getD, List.getElem?_eq_getElem p2]; rfl
        · obtain ⟨s7, eS⟩ := z
          have lst : (stepsOf (F'.ks.map (·.1)) F'.dims m.2).length = m.2.length := by unfold stepsOf; rw [List.length_map]
          simp only [List.length_map] at eS
          rw [← lst, List.take_of_length_le (Nat.le_refl _)] at eS
          have s8 := s6.trans s7
          have sB := sm.trans s8
          obtain ⟨dim, row, ts, hdim, hrow, hts, ed, et⟩ := ok.at hkd hm
          obtain ⟨dim2, row2, ts2, hdim2, hrow2, hts2, ed2, et2⟩ := ok2.at (by rw [ek]; exact hkd) hm
          obtain ⟨z1, ex1, iz1⟩ := all_at hms hrow
          obtain ⟨pr, rs, rfl, hpr, hrs⟩ := iz1.tuple_inv
          obtain ⟨z2, ex2, iz2⟩ := all_at hrs hts
          obtain ⟨pt, ts', rfl, hpt, hts'⟩ := iz2.tuple_inv
          obtain ⟨z3, ex3, iz3⟩ := all_at hms2 hrow2
          obtain ⟨pr2, rs2, rfl, hpr2, hrs2⟩ := iz3.tuple_inv
          obtain ⟨z4, ex4, iz4⟩ := all_at hrs2 hts2
          obtain ⟨pt2, tt2, rfl, hpt2, htt2⟩ := iz4.tuple_inv
          have lt1 : ts'.length = ts.length := all_len hts'
          have lt2 : tt2.length = ts2.length := all_len htt2
          have few1 := (jterm_len ok hkd hm hrow hts)
          have few2 := (jterm_len ok2 (by rw [ek]; exact hkd) hm hrow2 hts2)
          have f4000 := (ok.tm i kd row hkd hrow j m ts hm hts).few
          have g4000 := (ok2.tm i kd row2 (by rw [ek]; exact hkd) hrow2 j m ts2 hm hts2).few
          have tB := tk_same sB
          refine ⟨.ref R, rfl, .inl ⟨rfl, _, .of (s7 _ _ mR6)⟩, .ref pm, rfl, .int (i : Nat), rfl, pm, _, _, _, rfl, rfl, (hpm.mono tB).sq, atI_nat ex1, .int (j : Nat), rfl, pr, _, _, _, rfl, rfl, (hpr.mono tB).sq, atI_nat ex2, ?_⟩
          refine ⟨.ref b, rfl, b, _, 2, _, rfl, rfl, (hb.mono tB).sq, atI_nat (j := 2) rfl, .int (i : Nat), rfl, pm2, _, _, _, rfl, rfl, (hpm2.mono tB).sq, atI_nat ex3, .int (j : Nat), rfl, pr2, _, _, _, rfl, rfl, (hpr2.mono tB).sq, atI_nat ex4, pt2, rfl, ⟨_, (hpt2.mono tB).sq⟩, fun D hD => ?_⟩
          have hDb : H6 D = none := s7.free hD
          have nRD : R ≠ D := ne_of_none (s7 _ _ mR6) hD
          refine lc_all (walk_tup (xs := tt2)) (fun s Hz => Same Hx Hz ∧ ∃ zs, Hz D = some (.lst zs) ∧ ImAll K Hz zs (((ts2.take s).map (movedT dim (stepsOf (F'.ks.map (·.1)) F'.dims m.2))).map tmD)) ⟨same_new hD, [], upd_same, .nil⟩ (fun s Hz _ z => (hpt2.mono (tk_same (sB.trans z.1))).sq) (fun s x Hz Hy hs z y => ?_) (fun Hz z => ?_)
          · obtain ⟨s9, zs, eD, iD⟩ := z
            obtain ⟨rfl, hxs⟩ := y
            have sC := sB.trans s9
            obtain ⟨t, ht, it⟩ := all_get (ImAll.mono (tk_same sC) _ htt2) hxs
            have ed' : (F'.dims.map (fun n : Nat => V.int (n : Nat)))[i]? = some (.int (dim : Nat)) := by rw [List.getElem?_map, hdim]; rfl
            refine ⟨rfl, x, rfl, .ref c, rfl, .int (i : Nat), rfl, c, _, _, _, rfl, rfl, (hc.mono (tk_same sC)).sq, atI_nat ed', .ref S, rfl, x, dim, S, t, _, rfl, it, s9 _ _ eS, by rw [few2.2 t (List.mem_of_getElem? ht)]; exact lst.symm, by omega, fun p' H9 s10 i10 => ?_⟩
            have eD9 := s10 _ _ eD
            refine ⟨zs, eD9, Nat.lt_of_le_of_lt (show zs.length ≤ 8000 by rw [all_len iD, List.length_map, List.length_take]; omega) (by decide), fun b' o e => ?_, _, upd_same, ?_⟩
            · rw [upd_ne (ne_of_none e hD)]; exact s10 _ _ (s9 _ _ e)
            · rw [List.take_add_one, ht, List.map_append, List.map_append]
              exact (ImAll.mono ((tk_same s10).trans (tk_lst eD9)) _ iD).snoc (Im.mono (tk_lst eD9) _ i10)
          · obtain ⟨s9, zs, eD, iD⟩ := z
            rw [lt2, List.take_of_length_le (Nat.le_refl _)] at iD
            refine ⟨D, zs, rfl, .inl ⟨.of eD, fun l' hl' => ?_⟩⟩
            have sl := same_new (o := .tup zs) hl'
            have sC := (sB.trans s9).trans sl
            have lzs : zs.length = ts2.length := by rw [all_len iD, List.length_map]
            refine cat_big (hpt.mono (tk_same sC)) (.inl upd_same) (by omega) fun p' H9 s10 ip => ?_
            have s11 := ((s7.trans s9).trans sl).trans s10
            have mR9 := s11 _ _ mR6
            have lvs : vs.length ≤ 6 := by
              rw [all_len im6, List.length_map, List.length_range]; omega
            refine ⟨R, vs, .ref p', rfl, rfl, mR9, small1000 (by omega), _, _, _, _, _, rfl, fun b' o e => ?_, upd_same, ?_⟩
            · rw [upd_ne (ne_of_none e hRa)]
              exact s11 _ _ (s6 _ _ e)
            · rw [range_snoc, List.map_append]
              refine (ImAll.mono ((tk_same s11).trans (tk_lst mR9)) _ im6).snoc (Im.mono (tk_lst mR9) _ (.tup ip ?_))
              unfold jcell
              rw [et, et2, ed, show (F'.ks.getD i (noS, [])) = kd by rw [List.getD_eq_getElem?_getD, hkd]; rfl, show kd.2.getD j (noS, []) = m by rw [List.getD_eq_getElem?_getD, hm]; rfl, List.map_append]
              exact ImAll.app (ImAll.mono (tk_same (sC.trans s10)) _ hts') (ImAll.mono ((tk_same sl).trans (tk_same s10)) _ iD)
      · rintro σ Hc ⟨y9, y12, y13, y14, vs, rfl, s5, mR5, im5⟩
        rw [lus] at im5
        refine ⟨.ref L, rfl, .inl ⟨rfl, _, .of (s5 _ _ mL)⟩, .ref R, rfl, R, vs, rfl, .inl ⟨.of mR5, fun l' hl' => ?_⟩⟩
        have sl := same_new (o := .tup vs) hl'
        have s6 := s5.trans sl
        have mL6 := s6 _ _ mL
        have lws : ws.length ≤ 6 := by
          rw [all_len im, List.length_map, List.length_range]; omega
        refine ⟨L, ws, .ref l', rfl, rfl, mL6, small1000 (by omega), _, _, _, _, _, _, _, _, rfl, fun b' o e => ?_, ?_, upd_same, ?_⟩
        · rw [upd_ne (ne_of_none e hL0)]
          exact s6 _ _ (sm _ _ e)
        · obtain ⟨kvs, k1, k2, k3⟩ := (tbm.same s6).ex
          exact ⟨kvs, by rw [upd_ne ndL]; exact k1, k2, ImAll.mono (tk_lst mL6) _ k3⟩
        · rw [range_snoc, List.map_append]
          refine (ImAll.mono ((tk_same s6).trans (tk_lst mL6)) _ im).snoc (Im.mono (tk_lst mL6) _ (.tup (.inl upd_same) (ImAll.mono (tk_same sl) _ ?_)))
          unfold jrow
          rw [show (F'.ks.getD i (noS, [])) = kd by rw [List.getD_eq_getElem?_getD, hkd]; rfl]
          exact im5
    · rintro σ Ha ⟨y8, y9, y10, y11, y12, y13, y14, ws, rfl, sm, tbm, mL, im⟩
      rw [lkx] at im
      refine ⟨by show 0 ≤ sizeLine; decide, fun B hB => ?_⟩
      have sB := same_new (o := .lst []) hB
      have mB : (upd Ha B (.lst [])) B = some (.lst []) := upd_same
      have hB0 : H B = none := sm.free hB
      have nBL : L ≠ B := ne_of_none mL hB
      have mLB := sB _ _ mL
      have imB := ImAll.mono (tk_same sB) _ im
      have smB := sm.trans sB
      generalize upd Ha B (.lst []) = H3 at *
      refine ⟨.ref ra, rfl, .ref b, rfl, b, _, 3, _, rfl, rfl, (hb.mono (tk_same smB)).sq, atI_nat (j := 3) rfl, ra, rb, _, _, rfl, .inr ⟨(hra.mono (tk_same smB)).sq, (hrb.mono (tk_same smB)).sq, ?_⟩⟩
      have d32 : ∀ {wide : Nat} {F : Form} (_ : FormOk wide F) (r : Rd), r ∈ F.rds → r.2.2.length ≤ 32 := fun ok r hr => by
        rw [(ok.rd.kind r hr).2]
        exact ok.dim_le _
      refine for_it (walk_zipT (xs := rxs) (ys := rys) (by omega)) (fun t σ Hc => ∃ (y8 y9 y10 y11 y12 y13 y14 y16 y17 y18 y19 : Option V) (us : List V), σ = [some (.ref a), some (.ref b), some (.ref ka), some (.ref c), some (.ref pm), some (.ref ra), some (.ref d), some (.ref L), y8, y9, y10, y11, y12, y13, y14, some (.ref B), y16, y17, y18, y19, none, none, none, none, none] ∧ Same Ha Hc ∧ Hc B = some (.lst us) ∧ ImAll K Hc us (((List.zipWith jrd F'.rds G.rds).take t).map rdD)) ⟨_, _, _, _, _, _, _, _, _, _, _, [], rfl, sB, mB, .nil⟩ (fun t σ Hc _ z => ?_) ?_ ?_
      · obtain ⟨_, _, _, _, _, _, _, _, _, _, _, _, _, s6, _⟩ := z
        exact ⟨(hra.mono (tk_same (sm.trans s6))).sq, (hrb.mono (tk_same (sm.trans s6))).sq⟩
      · rintro t x σ Hc Hd hj ⟨y8, y9, y10, y11, y12, y13, y14, y16, y17, y18, y19, us, rfl, s5, mB5, im5⟩ ⟨T, x1, x2, rfl, hT, rfl, f1, f2⟩
        have sA := sm.trans s5
        obtain ⟨r, hr', ir⟩ := all_get (ImAll.mono (tk_same sA) _ hrx) f1
        obtain ⟨r2, hr2, ir2⟩ := all_get (ImAll.mono (tk_same sA) _ hry) f2
        obtain ⟨p1, z1, z2, z3, rfl, hp1, iz1, iz2, iz3⟩ := im_trip ir
        obtain ⟨p2, v1, v2, v3, rfl, hp2, iv1, iv2, iv3⟩ := im_trip ir2
        obtain ⟨q1, as, rfl, hq1, has⟩ := vec_inv iz3
        obtain ⟨q2, bs, rfl, hq2, hbs⟩ := vec_inv iv3
        have sT := same_new (o := .tup [.ref p1, .ref p2]) hT
        refine ⟨T, _, rfl, .of upd_same, rfl, .ref p1, _, rfl, p1, _, rfl, (hp1.mono (tk_same sT)).sq, rfl, z1, _, rfl, z2, _, rfl, .ref q1, _, rfl, rfl, .ref p2, _, rfl, p2, _, rfl, (hp2.mono (tk_same sT)).sq, rfl, v1, _, rfl, v2, _, rfl, .ref q2, _, rfl, rfl, rfl, ?_⟩
        have s6 := s5.trans sT
        have mB6 := sT _ _ mB5
        have im6 := ImAll.mono (tk_same sT) _ im5
        have hq1' := hq1.mono (tk_same sT)
        have hq2' := hq2.mono (tk_same sT)
        have has' := ImAll.mono (tk_same sT) _ has
        have hbs' := ImAll.mono (tk_same sT) _ hbs
        have iz1' := Im.mono (tk_same sT) _ iz1
        have iz2' := Im.mono (tk_same sT) _ iz2
        generalize upd Hc T (.tup [.ref p1, .ref p2]) = H6 at *
        have las : as.length = r.2.2.length := all_len has'
        have lbs : bs.length = r2.2.2.length := all_len hbs'
        have a32 := d32 ok r (List.mem_of_getElem? hr')
        have b32 := d32 ok2 r2 (List.mem_of_getElem? hr2)
        refine ⟨.ref B, rfl, .inl ⟨rfl, _, .of mB6⟩, z1, rfl, z2, rfl, .ref q1, rfl, .ref q2, rfl, q2, rfl, ⟨_, hq2'.sq⟩, fun D hD => ?_⟩
        refine lc_all (walk_tup (xs := bs)) (fun s Hz => Same H6 Hz ∧ ∃ zs, Hz D = some (.lst zs) ∧ ImAll K Hz zs (((r2.2.2.take s).map (fun x : Rat => -x)).map rD)) ⟨same_new hD, [], upd_same, .nil⟩ (fun s Hz _ z => (hq2'.mono (tk_same z.1)).sq) (fun s x Hz Hy hs z y => ?_) (fun Hz z => ?_)
        · obtain ⟨s9, zs, eD, iD⟩ := z
          obtain ⟨rfl, hxs⟩ := y
          obtain ⟨x0, hx0, ix0⟩ := all_get (ImAll.mono (tk_same s9) _ hbs') hxs
          refine ⟨rfl, x, rfl, x, x0, rfl, ix0, fun p' H9 s10 hp' i10 => ?_⟩
          have eD9 := s10 _ _ eD
          refine ⟨zs, eD9, small1000 (by rw [all_len iD, List.length_map, List.length_take]; omega), fun b' o e => ?_, _, upd_same, ?_⟩
          · rw [upd_ne (ne_of_none e hD)]; exact s10 _ _ (s9 _ _ e)
          · rw [List.take_add_one, hx0, List.map_append, List.map_append]
            exact (ImAll.mono ((tk_same s10).trans (tk_lst eD9)) _ iD).snoc (Im.mono (tk_lst eD9) _ i10)
        · obtain ⟨s9, zs, eD, iD⟩ := z
          rw [lbs, List.take_of_length_le (Nat.le_refl _)] at iD
          refine ⟨D, zs, rfl, .inl ⟨.of eD, fun l' hl' => ?_⟩⟩
          have sl := same_new (o := .tup zs) hl'
          have lzs : zs.length = r2.2.2.length := by rw [all_len iD, List.length_map]
          refine cat_any (hq1'.mono (tk_same (s9.trans sl))) (.inl upd_same) (by omega) fun p' H9 s10 ip => ?_
          refine ⟨by show 3 ≤ sizeLine; decide, fun T3 hT3 => ?_⟩
          have s3 := same_new (o := .tup [z1, z2, .ref p']) hT3
          have s11 := (((s9.trans sl).trans s10).trans s3)
          have mB9 := s11 _ _ mB6
          have lus : us.length ≤ 60 := by
            rw [all_len im6, List.length_take, List.length_zipWith]; omega
          have hB3 : Ha B = none := hB
          refine ⟨B, us, .ref T3, rfl, rfl, mB9, small1000 (by omega), _, _, _, _, _, _, _, _, _, _, _, _, rfl, ?_, upd_same, ?_⟩
          · intro b' o e
            rw [upd_ne (ne_of_none e hB)]
            exact s11 _ _ (s6 _ _ e)
          · rw [List.take_add_one, List.getElem?_zipWith, hr', hr2, List.map_append]
            refine (ImAll.mono ((tk_same s11).trans (tk_lst mB9)) _ im6).snoc (Im.mono (tk_lst mB9) _ (.tup (.inl upd_same) (.cons (Im.mono (tk_same s11) _ iz1') (.cons (Im.mono (tk_same s11) _ iz2') (.cons ?_ .nil)))))
            refine .tup (ip.mono (tk_same s3)) ?_
            show ImAll K _ _ ((r.2.2 ++ r2.2.2.map fun x => -x).map rD)
            rw [List.map_append]
            exact ImAll.app (ImAll.mono (tk_same s11) _ has') (ImAll.mono (((tk_same sl).trans (tk_same s10)).trans (tk_same s3)) _ iD)
      · rintro σ Hc ⟨y8, y9, y10, y11, y12, y13, y14, y16, y17, y18, y19, us, rfl, s5, mB5, im5⟩
        have lzr : (List.zipWith jrd F'.rds G.rds).length ≤ rxs.length := by rw [List.length_zipWith]; omega
        rw [List.take_of_length_le lzr] at im5
        have sA := sm.trans s5
        refine ⟨.ref ka, rfl, .ref c, rfl, .ref b, rfl, b, _, 1, _, rfl, rfl, (hb.mono (tk_same sA)).sq, atI_nat (j := 1) rfl, c, c2, _, _, rfl, .inr ⟨(hc.mono (tk_same sA)).sq, (hc2.mono (tk_same sA)).sq, fun D hD => ?_⟩⟩
        refine lc_all (walk_zipT (xs := F'.dims.map fun n : Nat => V.int (n : Nat)) (ys := G.dims.map fun n : Nat => V.int (n : Nat)) (by simp only [List.length_map]; omega)) (fun s Hz => Same Hc Hz ∧ Hz D = some (.lst (((List.zipWith (fun x y => x + y) F'.dims G.dims).take s).map (fun n : Nat => V.int (n : Nat))))) ⟨same_new hD, upd_same⟩ (fun s Hz _ z => ⟨(hc.mono (tk_same (sA.trans z.1))).sq, (hc2.mono (tk_same (sA.trans z.1))).sq⟩) (fun s x Hz Hy hs z y => ?_) (fun Hz z => ?_)
        · obtain ⟨s9, eD⟩ := z
          obtain ⟨T, x1, x2, rfl, hT, rfl, f1, f2⟩ := y
          simp only [List.getElem?_map] at f1 f2
          obtain ⟨c', hc', rfl⟩ := Option.map_eq_some_iff.mp f1
          obtain ⟨st, hst, rfl⟩ := Option.map_eq_some_iff.mp f2
          have sT := same_new (o := .tup [V.int (c' : Nat), .int (st : Nat)]) hT
          refine ⟨T, _, rfl, .of upd_same, rfl, .int (c' : Nat), _, rfl, .int (st : Nat), _, rfl, rfl, rfl, .int (c' : Nat), rfl, .int (st : Nat), rfl, _, _, rfl, rfl, _, sT _ _ eD, small1000 (by simp only [List.length_map, List.length_take, List.length_zipWith]; omega), fun b' o e => ?_, ?_⟩
          · rw [upd_ne (ne_of_none e hD)]; exact sT _ _ (s9 _ _ e)
          · rw [upd_same, List.take_add_one, List.getElem?_zipWith, hc', hst, List.map_append]; rfl
        · obtain ⟨s9, eD⟩ := z
          have lz : (List.zipWith (fun x y => x + y) F'.dims G.dims).length ≤ F'.dims.length := by rw [List.length_zipWith]; omega
          rw [List.length_map, List.take_of_length_le lz] at eD
          refine ⟨D, _, rfl, .inl ⟨.of eD, fun l1 hl1 => ?_⟩⟩
          have t1 := same_new (o := .tup ((List.zipWith (fun x y => x + y) F'.dims G.dims).map (fun n : Nat => V.int (n : Nat)))) hl1
          have il1 : Im K (upd Hz l1 (.tup ((List.zipWith (fun x y => x + y) F'.dims G.dims).map (fun n : Nat => V.int (n : Nat))))) (.ref l1) (nsD (List.zipWith (fun x y => x + y) F'.dims G.dims)) := .tup (.inl upd_same) (nats_im _)
          generalize upd Hz l1 (.tup ((List.zipWith (fun x y => x + y) F'.dims G.dims).map (fun n : Nat => V.int (n : Nat)))) = H7 at *
          have s10 := s9.trans t1
          refine ⟨.ref L, rfl, L, ws, rfl, .inl ⟨.of (s10 _ _ (s5 _ _ mL)), fun l2 hl2 => ?_⟩⟩
          have t2 := same_new (o := .tup ws) hl2
          have il2 : Im K (upd H7 l2 (.tup ws)) (.ref l2) (mpD ((List.range F'.ks.length).map (jrow F' G))) := .tup (.inl upd_same) (ImAll.mono (tk_same ((s5.trans s10).trans t2)) _ im)
          generalize upd H7 l2 (.tup ws) = H8 at *
          have s11 := s10.trans t2
          refine ⟨.ref B, rfl, B, us, rfl, .inl ⟨.of (s11 _ _ mB5), fun l3 hl3 => ?_⟩⟩
          have t3 := same_new (o := .tup us) hl3
          have il3 : Im K (upd H8 l3 (.tup us)) (.ref l3) (rdsD (List.zipWith jrd F'.rds G.rds)) := .tup (.inl upd_same) (ImAll.mono (tk_same (s11.trans t3)) _ im5)
          generalize upd H8 l3 (.tup us) = H9 at *
          refine ⟨by show 4 ≤ sizeLine; decide, fun T hT => ?_⟩
          have t4 := same_new (o := .tup [.ref ka, .ref l1, .ref l2, .ref l3]) hT
          refine q T _ (((sA.trans s11).trans t3).trans t4) (.tup (.inl upd_same) (.cons ?_ (.cons ?_ (.cons ?_ (.cons ?_ .nil)))))
          · exact Im.mono (tk_same (((sA.trans s11).trans t3).trans t4)) _ i1
          · exact Im.mono (tk_same ((t2.trans t3).trans t4)) _ il1
          · exact Im.mono (tk_same (t3.trans t4)) _ il2
          · exact Im.mono (tk_same t4) _ il3
abbrev s_joint : Stmt := topS 61
theorem sc_joint : FnScope ["one", "other"] ["one", "other"] (defScope s_joint) := ⟨rfl, rfl, rfl, by decide +kernel, rfl, by decide +kernel, by decide +kernel⟩
def sp_joint (K : PySem.W.Frag) : Sp := fun vs H Q _ => ∃ (v u : V) (F G : Form), vs = [v, u] ∧ Im K H v (fmD F) ∧ Im K H u (fmD G) ∧ FormOk 1 F ∧ FormOk 1 G ∧ G.ks = F.ks ∧ G.rds.map headD = F.rds.map headD ∧ ∀ p H', Same H H' → Im K H' (.ref p) (fmD (joinF F G)) → Q (.ref p) H'
theorem ok_joint {f : Addr} {fd : FuncData} {k : Nat} (F : Fun K "joint" "joint" s_joint f fd) (T : Tx K mg){k1 : Nat} (D_need_pair : DefX P w K mg base k1 "need_pair" s_need_pair ["one", "other"] (sp_need_pair K)) {k2 : Nat} (D_joined : Def P w K mg base k2 "joined" s_joined ["one", "other"] (sp_joined K)) (e1 : k1 ≤ k) (e2 : k2 ≤ k) : FnOk P w K mg base (L2.CX P w) (k + 1) f fd ["one", "other"] (sp_joint K) := by
  have nd := sc_joint.nd
  refine F.okX sc_joint (fun vs H Q E h => ?_) (fun cdv A outer s H vs Q E hr h => ?_)
  · obtain ⟨_, _, _, _, rfl, _⟩ := h
    rfl
  · obtain ⟨v, u, F', G, rfl, iv, iu, ok, ok2, ek, er, q⟩ := h
    refine ⟨_, (pss_cons (ps_expr (pe_defX D_need_pair (takes_of rfl rfl rfl rfl) (hr.mono (by omega)) rfl (pa_cons (pv 0) (pa_cons (pv 1) pa_nil))))
      (pss_one (ps_ret (pe_def D_joined (hr.mono (by omega)) rfl (pa_cons (pv 0) (pa_cons (pv 1) pa_nil)))))), ?_⟩
    have el : G.rds.length = F'.rds.length := by
      have := congrArg List.length er
      rwa [List.length_map, List.length_map] at this
    exact ⟨v, rfl, u, rfl, v, u, F', G, rfl, iv, iu, ok, ok2, ek, er, fun H1 s1 => ⟨v, rfl, u, rfl, v, u, F', G, rfl, Im.mono (tk_same s1) _ iv, Im.mono (tk_same s1) _ iu, ok, ok2, ek, el, fun p H2 s2 i2 => q p H2 (s1.trans s2) i2⟩⟩
end
end K63

set_option Elab.async false
set_option linter.all false
set_option maxRecDepth 100000
set_option exponentiation.threshold 20000
set_option pp.deepTerms false
set_option pp.deepTerms.threshold 8
namespace K63
open PySem PySem.Spec PyProof.Rows L2 Ly Mt
/-! ### the source of draws -/
structure Well (H : Hp) (w : Addr) : Prop where
  ex : ∃ g h : Int, H w = some (.lst [.int g, .int h]) ∧ 0 ≤ g ∧ 0 ≤ h ∧ h < 2 ^ 62
def But (w : Addr) (H H' : Hp) : Prop := ∀ b o, b ≠ w → H b = some o → H' b = some o
theorem But.refl (w : Addr) (H : Hp) : But w H H := fun _ _ _ h => h
theorem But.trans {w : Addr} {H H1 H2 : Hp} (a : But w H H1) (b : But w H1 H2) : But w H H2 := fun x o h1 h => b x o h1 (a x o h1 h)
theorem but_same {w : Addr} {H H' : Hp} (s : Same H H') : But w H H' := fun b o _ h => s b o h
theorem But.tk {w : Addr} {H H' : Hp} (s : But w H H') (u : Well H w) : TK H H' := fun b xs e => by
  obtain ⟨g, h, h1, _⟩ := u.ex
  exact s b _ (fun z => by subst z; rw [h1] at e; cases e) e
theorem Well.same {w : Addr} {H H' : Hp} (u : Well H w) (s : Same H H') : Well H' w := by
  obtain ⟨g, h, h1, r⟩ := u.ex
  exact ⟨g, h, s _ _ h1, r⟩
theorem But.free {w : Addr} {H H' : Hp} {p : Addr} (s : But w H H') (u : Well H' w) (h : H' p = none) : H p = none := by
  obtain ⟨_, _, h1, _⟩ := u.ex
  cases e : H p with
  | none => rfl
  | some o =>
    by_cases q : p = w
    · subst q; rw [h1] at h; cases h
    · rw [s p o q e] at h; cases h
theorem Well.upd {w D : Addr} {H : Hp} {o : HO} (u : Well H w) (h1 : D ≠ w) : Well (upd H D o) w := by
  obtain ⟨a, b, hc, r⟩ := u.ex
  exact ⟨a, b, by rw [upd_ne h1.symm]; exact hc, r⟩
theorem Well.ne {w D : Addr} {H : Hp} (u : Well H w) (h : H D = none) : D ≠ w := by
  obtain ⟨a, b, hc, r⟩ := u.ex
  exact (ne_of_none hc h).symm
theorem fmod_in {x m : Int} (h : 0 < m) : 0 ≤ x.fmod m ∧ x.fmod m < m := by
  rw [Int.fmod_eq_emod_of_nonneg _ (by omega)]
  exact ⟨Int.emod_nonneg _ (by omega), Int.emod_lt_of_pos _ h⟩
theorem abs_lt {x : Int} {n : Nat} (h0 : 0 ≤ x) (h : x < 2 ^ n) : x.natAbs < 2 ^ n := by
  have e : ((x.natAbs : Nat) : Int) < ((2 ^ n : Nat) : Int) := by
    rw [Int.natCast_pow]; show ((x.natAbs : Nat) : Int) < (2 : Int) ^ n; omega
  exact Int.ofNat_lt.mp e
section
variable {P : Program} {w : World} {K : PySem.W.Frag} {mg : Str → Option Value} {base : Heap}
abbrev s__law_well : Stmt := topS 63
theorem sc__law_well : FnScope ["cell", "great"] ["cell"] (defScope s__law_well) := ⟨rfl, rfl, rfl, by decide +kernel, rfl, by decide +kernel, by decide +kernel⟩
def sp_well : Sp := fun vs H Q _ => ∃ (c : Int) (n : Nat), vs = [.int c] ∧ n ≤ 1100000 ∧ c.natAbs < 2 ^ n ∧ ∀ w H', Same H H' → H w = none → Well H' w → Q (.ref w) H'
theorem ok__law_well {f : Addr} {fd : FuncData} {k : Nat} (F : Fun K "_law_well" "_law_well" s__law_well f fd) (T : Tx K mg) : FnOk P w K mg base CX0 (k + 1) f fd ["cell"] sp_well := by
  have nd := sc__law_well.nd
  refine F.ok sc__law_well (fun vs H Q E h => ?_) (fun cdv A outer s H vs Q E hr h => ?_)
  · obtain ⟨_, _, rfl, _⟩ := h
    rfl
  · obtain ⟨c, n, rfl, hn, hc, q⟩ := h
    refine ⟨_, (C8.pss_cut (ps_set (i := 1) nd rfl (.inl rfl) (pe_ifExp (pt_cmpR op_ge (pv 0) (pe_op op_pow pe_int pe_int) (nomark _)) (pe_op op_sub (pv 0) (pe_op op_pow pe_int pe_int)) pe_int))
      (pss_one (ps_ret (pe_lst (pa_cons (pv 1) (pa_cons (pe_op op_add (pe_op op_modN (pe_callTy call_int1 (by rfl) T.m_int (by decide +kernel) (pa_cons (pe_op op_add (pe_op op_mulX (pe_op op_fdivW (pe_op op_mulX (pv 0) (pv 0)) pe_int) pe_int) (pv 0)) pa_nil)) pe_int) pe_int) pa_nil)))))), ?_⟩
    have p18 : (10 : Int) ^ (18 : Int).toNat = 1000000000000000000 := by decide
    refine ⟨fun σ' H' => H' = H ∧ ∃ g : Int, 0 ≤ g ∧ σ' = [some (.int c), some (.int g)], ?_, ?_⟩
    · refine ⟨.int c, rfl, _, _, rfl, rfl, ⟨by decide, by decide, by decide⟩, _, _, rfl, rfl, _, rfl, ?_⟩
      rw [p18]
      by_cases hb : c ≥ 1000000000000000000
      · rw [decide_eq_true hb]
        refine iteT ⟨.int c, rfl, _, _, rfl, rfl, ⟨by decide, by decide, by decide⟩, _, _, rfl, rfl, rfl, _, ?_, rfl⟩
        rw [p18]; omega
      · rw [decide_eq_false hb]
        exact iteF ⟨rfl, 0, by omega, rfl⟩
    · rintro σ' H' ⟨rfl, g, g0, rfl⟩
      have cc : (c * c).natAbs < 2 ^ (n + n) := lt_mul hc hc
      have cq : (c * c / 97).natAbs < 2 ^ (n + n) := Nat.lt_of_le_of_lt (Int.natAbs_ediv_le_natAbs _ _) cc
      refine ⟨.int g, rfl, .int c, rfl, .int c, rfl, _, _, rfl, rfl, mulx_ok hc hc (by omega), _, _, rfl, rfl, wide_div (b := 7) (by decide) (by decide) (by decide) (by decide), _, _, rfl, rfl, mulx_ok (b := 16) cq (by decide) (by omega), .int c, rfl, _, _, rfl, rfl, .inl ⟨_, rfl, _, _, rfl, rfl, (by show (2305843009213693951 : Int) ≠ 0; decide), _, _, rfl, rfl, by show 2 ≤ sizeLine; decide, fun l hl => ?_⟩⟩
      have h := fmod_in (x := c * c / 97 * 48271 + c) (m := 2305843009213693951) (by decide)
      exact q l _ (same_new hl) hl ⟨_, _, upd_same, g0, by omega, by omega⟩
abbrev s__law_sip : Stmt := topS 64
theorem sc__law_sip : FnScope ["well", "many", "found"] ["well", "many"] (defScope s__law_sip) := ⟨rfl, rfl, rfl, by decide +kernel, rfl, by decide +kernel, by decide +kernel⟩
def sp_sip : Sp := fun vs H Q _ => ∃ (c : Addr) (m : Int), vs = [.ref c, .int m] ∧ Well H c ∧ 0 < m ∧ m < 2 ^ 140 ∧ ∀ d H', 0 ≤ d → d < m → Well H' c → But c H H' → Q (.int d) H'
theorem ok__law_sip {f : Addr} {fd : FuncData} {k : Nat} (F : Fun K "_law_sip" "_law_sip" s__law_sip f fd) (T : Tx K mg) : FnOk P w K mg base CX0 (k + 1) f fd ["well", "many"] sp_sip := by
  have nd := sc__law_sip.nd
  refine F.ok sc__law_sip (fun vs H Q E h => ?_) (fun cdv A outer s H vs Q E hr h => ?_)
  · obtain ⟨_, _, rfl, _⟩ := h
    rfl
  · obtain ⟨c, m, rfl, u, m0, m1, q⟩ := h
    obtain ⟨a, b, hc, a0, b0, b1⟩ := u.ex
    have mabs : m.natAbs < 2 ^ 140 := abs_lt (by omega) m1
    refine ⟨_, (C8.pss_cut (ps_if (pt_cmpR op_gt (pe_ix (kix_list K) (pv 0) pe_int (fun _ _ => rfl)) pe_int (nomark _))
        (pss_cons (ps_set (i := 2) nd rfl (.inl rfl) (pe_op op_modN (pe_callTy call_int1 (by rfl) T.m_int (by decide +kernel) (pa_cons (pe_ix (kix_list K) (pv 0) pe_int (fun _ _ => rfl)) pa_nil)) (pv 1)))
        (pss_cons (ps_asg (pe_op op_fdivW (pe_ix (kix_list K) (pv 0) pe_int (fun _ _ => rfl)) (pv 1)) (pg_sub (pv 0) pe_int set_list))
        (pss_one (ps_ret (pv 2)))))
        pss_nil)
      (pss_cons (ps_asg (pe_op op_modN (pe_callTy call_int1 (by rfl) T.m_int (by decide +kernel) (pa_cons (pe_op op_add (pe_op op_mulW (pe_ix (kix_list K) (pv 0) pe_int (fun _ _ => rfl)) pe_int) pe_int) pa_nil)) pe_int) (pg_sub (pv 0) pe_int set_list))
      (pss_one (ps_ret (pe_op op_modN (pe_op op_fdivW (pe_op op_modN (pe_callTy call_int1 (by rfl) T.m_int (by decide +kernel) (pa_cons (pe_op op_mulW (pe_ix (kix_list K) (pv 0) pe_int (fun _ _ => rfl)) (pe_ix (kix_list K) (pv 0) pe_int (fun _ _ => rfl))) pa_nil)) pe_int) pe_int) (pv 1)))))), ?_⟩
    refine ⟨fun σ' H' => H' = H ∧ σ' = [some (.ref c), some (.int m), none], ?_, ?_⟩
    · refine ⟨.ref c, rfl, c, _, 0, _, rfl, rfl, .of hc, atI_nat (j := 0) rfl, _, _, rfl, rfl, _, rfl, ?_⟩
      by_cases ha : a > 0
      · rw [decide_eq_true ha]
        refine iteT ⟨.ref c, rfl, c, _, 0, _, rfl, rfl, .of hc, atI_nat (j := 0) rfl, .inl ⟨_, rfl, .int m, rfl, _, _, rfl, rfl, (by show m ≠ 0; omega), ?_⟩⟩
        refine ⟨.ref c, rfl, c, _, 0, _, rfl, rfl, .of hc, atI_nat (j := 0) rfl, .int m, rfl, _, _, rfl, rfl, wide_div m0 mabs (by decide) (by decide), .ref c, rfl, c, _, 0, 0, rfl, rfl, hc, rfl, ?_⟩
        have h := fmod_in (x := a) m0
        refine ⟨_, rfl, q _ _ h.1 h.2 ⟨a / m, b, upd_same, Int.ediv_nonneg a0 (by omega), b0, b1⟩ fun y o h1 h => ?_⟩
        rw [upd_ne h1]; exact h
      · rw [decide_eq_false ha]
        exact iteF ⟨rfl, rfl⟩
    · rintro σ' H' ⟨rfl, rfl⟩
      have bb : b.natAbs < 2 ^ 62 := abs_lt b0 b1
      refine ⟨.ref c, rfl, c, _, 1, _, rfl, rfl, .of hc, atI_nat (j := 1) rfl, _, _, rfl, rfl, wide_mul (b := 16) bb (by decide) (by decide) (by decide) (by decide), _, _, rfl, rfl, .inl ⟨_, rfl, _, _, rfl, rfl, (by show (2305843009213693951 : Int) ≠ 0; decide), .ref c, rfl, c, _, 1, 1, rfl, rfl, hc, rfl, ?_⟩⟩
      have h := fmod_in (x := b * 48271 + 11) (m := 2305843009213693951) (by decide)
      dsimp only [List.set]
      generalize (b * 48271 + 11).fmod 2305843009213693951 = x at *
      have hc3 : (upd H' c (.lst [.int a, .int x])) c = some (.lst [.int a, .int x]) := upd_same
      have bt3 : But c H' (upd H' c (.lst [.int a, .int x])) := fun y o h1 h => by rw [upd_ne h1]; exact h
      show (tRet _ : TS) _ _ (upd H' c (.lst [.int a, .int x]))
      generalize upd H' c (.lst [.int a, .int x]) = G3 at *
      have xb : x.natAbs < 2 ^ 62 := abs_lt h.1 (by omega)
      refine ⟨.ref c, rfl, c, _, 1, _, rfl, rfl, .of hc3, atI_nat (j := 1) rfl, .ref c, rfl, c, _, 1, _, rfl, rfl, .of hc3, atI_nat (j := 1) rfl, _, _, rfl, rfl, wide_mul xb xb (by decide) (by decide) (by decide), ?_⟩
      refine .inl ⟨_, rfl, _, _, rfl, rfl, (by show (2305843009213693921 : Int) ≠ 0; decide), _, _, rfl, rfl, wide_div (b := 7) (by decide) (by decide) (by decide) (by decide), .int m, rfl, _, _, rfl, rfl, (by show m ≠ 0; omega), ?_⟩
      have h2 := fmod_in (x := (x * x).fmod 2305843009213693921 / 64) m0
      exact q _ _ h2.1 h2.2 ⟨a, x, hc3, a0, h.1, by omega⟩ bt3
abbrev s__law_ratio : Stmt := topS 65
theorem sc__law_ratio : FnScope ["top", "bottom", "a", "b"] ["top", "bottom"] (defScope s__law_ratio) := ⟨rfl, rfl, rfl, by decide +kernel, rfl, by decide +kernel, by decide +kernel⟩
def sp_ratio (K : PySem.W.Frag) : Sp := fun vs H Q _ => ∃ (t b : Int), vs = [.int t, .int b] ∧ 0 < b ∧ b.natAbs < 2 ^ 9000 ∧ ∀ p H', Same H H' → Im K H' (.ref p) (rD (Rat.divInt t b)) → Q (.ref p) H'
theorem ok__law_ratio {f : Addr} {fd : FuncData} {k : Nat} (F : Fun K "_law_ratio" "_law_ratio" s__law_ratio f fd) (T : Tx K mg) : FnOk P w K mg base CX0 (k + 1) f fd ["top", "bottom"] (sp_ratio K) := by
  have nd := sc__law_ratio.nd
  refine F.ok sc__law_ratio (fun vs H Q E h => ?_) (fun cdv A outer s H vs Q E hr h => ?_)
  · obtain ⟨_, _, rfl, _⟩ := h
    rfl
  · obtain ⟨t, b, rfl, hb, hs, q⟩ := h
    refine ⟨_, (pss_cons (ps_par (i := 2) (j := 3) (by rfl) nd rfl rfl (by decide) rfl rfl (pa_cons (pe_callB call_abs (by rfl) T.m_abs (by decide +kernel) (pa_cons (pv 0) pa_nil)) (pa_cons (pe_callB call_abs (by rfl) T.m_abs (by decide +kernel) (pa_cons (pv 1) pa_nil)) pa_nil)) (by rfl))
      (pss_cons (ps_while PassesOwn.never (pt_cmpR op_gt (pv 3) pe_int (nomark _))
        (pss_one (ps_par (i := 2) (j := 3) (by rfl) nd rfl rfl (by decide) rfl rfl (pa_cons (pv 3) (pa_cons (pe_op op_modN (pe_callTy call_int1 (by rfl) T.m_int (by decide +kernel) (pa_cons (pv 2) pa_nil)) (pv 3)) pa_nil)) (by rfl))))
      (pss_one (ps_ret (pe_ifExp (pt_cmpR op_gt (pv 1) pe_int (nomark _)) (pe_tup (pa_cons (pe_op op_fdivW (pv 0) (pv 2)) (pa_cons (pe_op op_fdivW (pv 1) (pv 2)) pa_nil))) (pe_tup (pa_cons (pe_op op_fdivW (pe_un un_neg (pv 0)) (pv 2)) (pa_cons (pe_op op_fdivW (pe_un un_neg (pv 1)) (pv 2)) pa_nil)))))))), ?_⟩
    refine ⟨.int t, rfl, t, rfl, .int b, rfl, b, rfl, _, _, rfl, ?_⟩
    have eb : (if b < 0 then -b else b) = ((b.natAbs : Nat) : Int) := by split <;> omega
    have et : (if t < 0 then -t else t) = ((t.natAbs : Nat) : Int) := by split <;> omega
    rw [eb, et]
    refine while_by (fun σ H2 => H2 = H ∧ ∃ x y : Nat, σ = [some (.int t), some (.int b), some (.int x), some (.int y)] ∧ Nat.gcd x y = Nat.gcd t.natAbs b.natAbs) (fun σ _ => match σ with | [_, _, _, some (.int y)] => y.toNat | _ => 0) ⟨rfl, t.natAbs, b.natAbs, rfl, rfl⟩ ?_ ?_
    · rintro σ H2 ⟨rfl, x, y, rfl, hg⟩
      refine ⟨.int y, rfl, _, _, rfl, rfl, _, rfl, ?_⟩
      by_cases hy : 0 < y
      · rw [decide_eq_true (show (y : Int) > 0 by omega)]
        refine iteT ⟨.int y, rfl, .int x, rfl, .inl ⟨_, rfl, .int y, rfl, _, _, rfl, rfl, (by show (y : Int) ≠ 0; omega), _, _, rfl, ⟨rfl, y, x % y, ?_, ?_⟩, ?_⟩⟩
        · have e : (x : Int).fmod (y : Int) = ((x % y : Nat) : Int) := by rw [Int.fmod_eq_emod_of_nonneg _ (by omega)]; rfl
          show [some (V.int t), some (V.int b), some (V.int y), some (V.int ((x : Int).fmod (y : Int)))] = _
          rw [e]
        · rw [Nat.gcd_comm, ← Nat.gcd_rec, Nat.gcd_comm, hg]
        · have e : (x : Int).fmod (y : Int) = ((x % y : Nat) : Int) := by rw [Int.fmod_eq_emod_of_nonneg _ (by omega)]; rfl
          show ((x : Int).fmod (y : Int)).toNat < ((y : Int)).toNat
          rw [e]
          have := Nat.mod_lt x hy
          omega
      · rw [decide_eq_false (show ¬ (y : Int) > 0 by omega)]
        have y0 : y = 0 := by omega
        subst y0
        rw [Nat.gcd_zero_right] at hg
        subst hg
        refine iteF ⟨.int b, rfl, _, _, rfl, rfl, _, rfl, ?_⟩
        rw [decide_eq_true (show b > 0 from hb)]
        have c := wide_div (i := t) (gcd_pos (t := t) hb) (Nat.lt_of_le_of_lt (gcd_le hb) hs) (by decide) (Nat.le_refl _)
        have c' := wide_div (i := b) (gcd_pos (t := t) hb) (Nat.lt_of_le_of_lt (gcd_le hb) hs) (by decide) (Nat.le_refl _)
        refine iteT ⟨.int t, rfl, .int _, rfl, _, _, rfl, rfl, c, .int b, rfl, .int _, rfl, _, _, rfl, rfl, c', by show 2 ≤ sizeLine; decide, fun p hp => ?_⟩
        refine q p _ (same_new hp) ?_
        refine rat_mk (.inl ?_)
        rw [← made_num hb, ← made_den hb]
        exact upd_same
    · rintro σ H2 Q1 Q2 hm ⟨v, e, i, j, h1, h2, k', h3, h4⟩
      exact ⟨v, e, i, j, h1, h2, k', h3, hm _ _ h4⟩
theorem rat_int {q : Rat} (h : q.den = 1) : q = (q.num : Rat) := by
  exact Rat.ext rfl h
abbrev s__law_plus : Stmt := topS 66
theorem sc__law_plus : FnScope ["x", "y"] ["x", "y"] (defScope s__law_plus) := ⟨rfl, rfl, rfl, by decide +kernel, rfl, by decide +kernel, by decide +kernel⟩
def sp_lplus (K : PySem.W.Frag) : Sp := fun vs H Q _ => ∃ (v u : V) (x y : Rat), vs = [v, u] ∧ Im K H v (rD x) ∧ Im K H u (rD y) ∧ Bd 4400 4400 x ∧ Bd 4400 4400 y ∧ ∀ p H', Same H H' → Im K H' (.ref p) (rD (x + y)) → Q (.ref p) H'
theorem ok__law_plus {f : Addr} {fd : FuncData} {k : Nat} (F : Fun K "_law_plus" "_law_plus" s__law_plus f fd) (T : Tx K mg){k1 : Nat} (D__law_ratio : Def P w K mg base k1 "_law_ratio" s__law_ratio ["top", "bottom"] (sp_ratio K)) (e1 : k1 ≤ k) : FnOk P w K mg base CX0 (k + 1) f fd ["x", "y"] (sp_lplus K) := by
  have nd := sc__law_plus.nd
  refine F.ok sc__law_plus (fun vs H Q E h => ?_) (fun cdv A outer s H vs Q E hr h => ?_)
  · obtain ⟨_, _, _, _, rfl, _⟩ := h
    rfl
  · obtain ⟨v, u, x, y, rfl, hv, hu, bx, bw, q⟩ := h
    obtain ⟨a, rfl, ha⟩ := rat_inv hv
    obtain ⟨b, rfl, hb⟩ := rat_inv hu
    refine ⟨_, (C8.pss_cut (ps_if (PW.pt (pw_and (pt_cmpR op_eq (pe_ix (kix_tup K) (pv 0) pe_int (fun _ _ => rfl)) pe_int (nomark _)) (pw_and1 (pt_cmpR op_eq (pe_ix (kix_tup K) (pv 1) pe_int (fun _ _ => rfl)) pe_int (nomark _)))))
        (pss_one (ps_ret (pe_tup (pa_cons (pe_op op_add (pe_ix (kix_tup K) (pv 0) pe_int (fun _ _ => rfl)) (pe_ix (kix_tup K) (pv 1) pe_int (fun _ _ => rfl))) (pa_cons pe_int pa_nil)))))
        pss_nil)
      (pss_one (ps_ret (pe_def D__law_ratio (hr.mono (by omega)) rfl (pa_cons (pe_op op_add (pe_op op_mulW (pe_ix (kix_tup K) (pv 0) pe_int (fun _ _ => rfl)) (pe_ix (kix_tup K) (pv 1) pe_int (fun _ _ => rfl))) (pe_op op_mulW (pe_ix (kix_tup K) (pv 1) pe_int (fun _ _ => rfl)) (pe_ix (kix_tup K) (pv 0) pe_int (fun _ _ => rfl)))) (pa_cons (pe_op op_mulW (pe_ix (kix_tup K) (pv 0) pe_int (fun _ _ => rfl)) (pe_ix (kix_tup K) (pv 1) pe_int (fun _ _ => rfl))) pa_nil)))))), ?_⟩
    refine ⟨fun σ' H' => H' = H ∧ σ' = [some (.ref a), some (.ref b)], ?_, ?_⟩
    · refine ⟨.ref a, rfl, a, _, 1, _, rfl, rfl, ha.sq, atI_nat (j := 1) rfl, rfl, _, rfl, ?_⟩
      by_cases hx : x.den = 1
      · rw [decide_eq_true (show V.int (x.den : Int) = V.int 1 by rw [hx]; rfl)]
        refine iteT ⟨.ref b, rfl, b, _, 1, _, rfl, rfl, hb.sq, atI_nat (j := 1) rfl, rfl, _, rfl, ?_⟩
        by_cases hy : y.den = 1
        · rw [decide_eq_true (show V.int (y.den : Int) = V.int 1 by rw [hy]; rfl)]
          refine iteT ⟨.ref a, rfl, a, _, 0, _, rfl, rfl, ha.sq, atI_nat (j := 0) rfl, .ref b, rfl, b, _, 0, _, rfl, rfl, hb.sq, atI_nat (j := 0) rfl, _, _, rfl, rfl, by show 2 ≤ sizeLine; decide, fun p hp => q p _ (same_new hp) ?_⟩
          have e : x + y = ((x.num + y.num : Int) : Rat) := by
            rw [rat_int hx, rat_int hy, ← Rat.intCast_add]; rfl
          rw [e]
          exact rat_mk (.inl upd_same)
        · rw [decide_eq_false (show ¬ V.int (y.den : Int) = V.int 1 from fun z => hy (by have := V.int.inj z; omega))]
          exact iteF ⟨rfl, rfl⟩
      · rw [decide_eq_false (show ¬ V.int (x.den : Int) = V.int 1 from fun z => hx (by have := V.int.inj z; omega))]
        exact iteF ⟨rfl, rfl⟩
    · rintro σ' H' ⟨rfl, rfl⟩
      refine ⟨.ref a, rfl, a, _, 0, _, rfl, rfl, ha.sq, atI_nat (j := 0) rfl, .ref b, rfl, b, _, 1, _, rfl, rfl, hb.sq, atI_nat (j := 1) rfl, _, _, rfl, rfl, wide_mul bx.1 bw.2 (by decide) (by decide) (by decide), ?_⟩
      refine ⟨.ref b, rfl, b, _, 0, _, rfl, rfl, hb.sq, atI_nat (j := 0) rfl, .ref a, rfl, a, _, 1, _, rfl, rfl, ha.sq, atI_nat (j := 1) rfl, _, _, rfl, rfl, wide_mul bw.1 bx.2 (by decide) (by decide) (by decide), _, _, rfl, rfl, ?_⟩
      refine ⟨.ref a, rfl, a, _, 1, _, rfl, rfl, ha.sq, atI_nat (j := 1) rfl, .ref b, rfl, b, _, 1, _, rfl, rfl, hb.sq, atI_nat (j := 1) rfl, _, _, rfl, rfl, wide_mul bx.2 bw.2 (by decide) (by decide) (by decide), ?_⟩
      refine ⟨_, _, rfl, Int.mul_pos (den_pos x) (den_pos y), lt_up (lt_mul bx.2 bw.2) (by decide), fun p H2 s2 i2 => ?_⟩
      rw [add_as] at i2
      exact q p _ s2 i2
abbrev s__law_times : Stmt := topS 67
theorem sc__law_times : FnScope ["x", "y"] ["x", "y"] (defScope s__law_times) := ⟨rfl, rfl, rfl, by decide +kernel, rfl, by decide +kernel, by decide +kernel⟩
def sp_ltimes (K : PySem.W.Frag) : Sp := fun vs H Q _ => ∃ (v u : V) (x y : Rat), vs = [v, u] ∧ Im K H v (rD x) ∧ Im K H u (rD y) ∧ Bd 4400 4400 x ∧ Bd 4400 4400 y ∧ ∀ p H', Same H H' → Im K H' (.ref p) (rD (x * y)) → Q (.ref p) H'
theorem ok__law_times {f : Addr} {fd : FuncData} {k : Nat} (F : Fun K "_law_times" "_law_times" s__law_times f fd) (T : Tx K mg){k1 : Nat} (D__law_ratio : Def P w K mg base k1 "_law_ratio" s__law_ratio ["top", "bottom"] (sp_ratio K)) (e1 : k1 ≤ k) : FnOk P w K mg base CX0 (k + 1) f fd ["x", "y"] (sp_ltimes K) := by
  have nd := sc__law_times.nd
  refine F.ok sc__law_times (fun vs H Q E h => ?_) (fun cdv A outer s H vs Q E hr h => ?_)
  · obtain ⟨_, _, _, _, rfl, _⟩ := h
    rfl
  · obtain ⟨v, u, x, y, rfl, hv, hu, bx, bw, q⟩ := h
    obtain ⟨a, rfl, ha⟩ := rat_inv hv
    obtain ⟨b, rfl, hb⟩ := rat_inv hu
    refine ⟨_, (C8.pss_cut (ps_if (PW.pt (pw_and (pt_cmpR op_eq (pe_ix (kix_tup K) (pv 0) pe_int (fun _ _ => rfl)) pe_int (nomark _)) (pw_and1 (pt_cmpR op_eq (pe_ix (kix_tup K) (pv 1) pe_int (fun _ _ => rfl)) pe_int (nomark _)))))
        (pss_one (ps_ret (pe_tup (pa_cons (pe_op op_mulW (pe_ix (kix_tup K) (pv 0) pe_int (fun _ _ => rfl)) (pe_ix (kix_tup K) (pv 1) pe_int (fun _ _ => rfl))) (pa_cons pe_int pa_nil)))))
        pss_nil)
      (pss_one (ps_ret (pe_def D__law_ratio (hr.mono (by omega)) rfl (pa_cons (pe_op op_mulW (pe_ix (kix_tup K) (pv 0) pe_int (fun _ _ => rfl)) (pe_ix (kix_tup K) (pv 1) pe_int (fun _ _ => rfl))) (pa_cons (pe_op op_mulW (pe_ix (kix_tup K) (pv 0) pe_int (fun _ _ => rfl)) (pe_ix (kix_tup K) (pv 1) pe_int (fun _ _ => rfl))) pa_nil)))))), ?_⟩
    refine ⟨fun σ' H' => H' = H ∧ σ' = [some (.ref a), some (.ref b)], ?_, ?_⟩
    · refine ⟨.ref a, rfl, a, _, 1, _, rfl, rfl, ha.sq, atI_nat (j := 1) rfl, rfl, _, rfl, ?_⟩
      by_cases hx : x.den = 1
      · rw [decide_eq_true (show V.int (x.den : Int) = V.int 1 by rw [hx]; rfl)]
        refine iteT ⟨.ref b, rfl, b, _, 1, _, rfl, rfl, hb.sq, atI_nat (j := 1) rfl, rfl, _, rfl, ?_⟩
        by_cases hy : y.den = 1
        · rw [decide_eq_true (show V.int (y.den : Int) = V.int 1 by rw [hy]; rfl)]
          refine iteT ⟨.ref a, rfl, a, _, 0, _, rfl, rfl, ha.sq, atI_nat (j := 0) rfl, .ref b, rfl, b, _, 0, _, rfl, rfl, hb.sq, atI_nat (j := 0) rfl, _, _, rfl, rfl, wide_mul bx.1 bw.1 (by decide) (by decide) (by decide), by show 2 ≤ sizeLine; decide, fun p hp => q p _ (same_new hp) ?_⟩
          have e : x * y = ((x.num * y.num : Int) : Rat) := by
            rw [rat_int hx, rat_int hy, ← Rat.intCast_mul]; rfl
          rw [e]
          exact rat_mk (.inl upd_same)
        · rw [decide_eq_false (show ¬ V.int (y.den : Int) = V.int 1 from fun z => hy (by have := V.int.inj z; omega))]
          exact iteF ⟨rfl, rfl⟩
      · rw [decide_eq_false (show ¬ V.int (x.den : Int) = V.int 1 from fun z => hx (by have := V.int.inj z; omega))]
        exact iteF ⟨rfl, rfl⟩
    · rintro σ' H' ⟨rfl, rfl⟩
      refine ⟨.ref a, rfl, a, _, 0, _, rfl, rfl, ha.sq, atI_nat (j := 0) rfl, .ref b, rfl, b, _, 0, _, rfl, rfl, hb.sq, atI_nat (j := 0) rfl, _, _, rfl, rfl, wide_mul bx.1 bw.1 (by decide) (by decide) (by decide), ?_⟩
      refine ⟨.ref a, rfl, a, _, 1, _, rfl, rfl, ha.sq, atI_nat (j := 1) rfl, .ref b, rfl, b, _, 1, _, rfl, rfl, hb.sq, atI_nat (j := 1) rfl, _, _, rfl, rfl, wide_mul bx.2 bw.2 (by decide) (by decide) (by decide), ?_⟩
      refine ⟨_, _, rfl, Int.mul_pos (den_pos x) (den_pos y), lt_up (lt_mul bx.2 bw.2) (by decide), fun p H2 s2 i2 => ?_⟩
      rw [mul_as] at i2
      exact q p _ s2 i2
end
end K63

set_option Elab.async false
set_option linter.all false
set_option maxRecDepth 100000
set_option exponentiation.threshold 20000
set_option pp.deepTerms false
set_option pp.deepTerms.threshold 8
namespace K63
open PySem PySem.Spec PyProof.Rows L2 Ly Mt
inductive Fl : Nat → PyData → Prop
  | int (d : Nat) (i : Int) : Fl d (.int i)
  | str (d : Nat) (s : Str) : Fl d (.str s)
  | tup (d : Nat) (ds : List PyData) : ds.length ≤ 8000 → (∀ x ∈ ds, Fl d x) → Fl (d + 1) (.tuple ds)
section
variable {P : Program} {w : World} {K : PySem.W.Frag} {mg : Str → Option Value} {base : Heap}
abbrev s__law_same : Stmt := topS 69
theorem sc__law_same : FnScope ["found", "due", "k"] ["found", "due"] (defScope s__law_same) := ⟨rfl, rfl, rfl, by decide +kernel, rfl, by decide +kernel, by decide +kernel⟩
def sp_same (K : PySem.W.Frag) : Nat → Sp
  | 0 => fun _ _ _ _ => False
  | d + 1 => fun vs H Q _ => ∃ v1 v2 D, vs = [v1, v2] ∧ Im K H v1 D ∧ Im K H v2 D ∧ Fl d D ∧ ∀ H', Same H H' → Q (.bl true) H'
theorem ok_same0 {f : Addr} {fd : FuncData} {k : Nat} (F : Fun K "_law_same" "_law_same" s__law_same f fd) : FnOk P w K mg base CX0 (k + 1) f fd ["found", "due"] (sp_same K 0) := by
  exact F.ok sc__law_same (fun vs H Q E h => h.elim) (fun cdv A outer s H vs Q E hr h => h.elim)
theorem ok__law_same {f : Addr} {fd : FuncData} {k : Nat} (F : Fun K "_law_same" "_law_same" s__law_same f fd) (T : Tx K mg){ki d : Nat} (D__law_same : Def P w K mg base ki "_law_same" s__law_same ["found", "due"] (sp_same K d)) (hk : ki ≤ k) : FnOk P w K mg base CX0 (k + 1) f fd ["found", "due"] (sp_same K (d + 1)) := by
  have nd := sc__law_same.nd
  refine F.ok sc__law_same (fun vs H Q E h => ?_) (fun cdv A outer s H vs Q E hr h => ?_)
  · obtain ⟨_, _, _, rfl, _⟩ := h
    rfl
  · obtain ⟨v1, v2, D, rfl, i1, i2, fl, q⟩ := h
    refine ⟨_, (pss_cons (ps_if (pt_val (pe_callB (kcall_isi K) (by rfl) T.m_isinstance (by decide +kernel) (pa_cons (pv 1) (pa_cons (pe_bltn (v := .ty "tuple") (u := .type "tuple") (by rfl) T.m_tuple (by decide +kernel) rfl) pa_nil))))
        (pss_cons (ps_if (PW.pt (pw_or (pt_not (pt_val (pe_callB (kcall_isi K) (by rfl) T.m_isinstance (by decide +kernel) (pa_cons (pv 0) (pa_cons (pe_bltn (v := .ty "tuple") (u := .type "tuple") (by rfl) T.m_tuple (by decide +kernel) rfl) pa_nil))))) (pw_or1 (pt_cmpR op_ne (pe_callB (kcall_len K) (by rfl) T.m_len PySem.boot_len (pa_cons (pv 0) pa_nil)) (pe_callB (kcall_len K) (by rfl) T.m_len PySem.boot_len (pa_cons (pv 1) pa_nil)) (nomark _)))))
          (pss_one (ps_ret pe_bl))
          pss_nil)
        (pss_one (ps_ret (pe_callB (kcr_all K) (by rfl) T.m_all (by decide +kernel) (pa_cons (pe_lc (own := [("k", 2)]) (g := gName 2) (tt := tYes) rfl nd (pi_range1 rfl T.m_range (pa_cons (pe_callB (kcall_len K) (by rfl) T.m_len PySem.boot_len (pa_cons (pv 1) pa_nil)) pa_nil)) (blkOk_by (by rfl)) (fun _ _ _ _ _ => (pg_name (i := 2) nd rfl (.inl rfl))) (fun _ _ _ _ _ => pts_nil) (fun _ _ _ _ _ => (pe_def D__law_same (hr.mono (by omega)) rfl (pa_cons (pe_ix (kix_tup K) (pv 0) (pv 2) (fun _ _ => rfl)) (pa_cons (pe_ix (kix_tup K) (pv 1) (pv 2) (fun _ _ => rfl)) pa_nil))))) pa_nil)))))
        pss_nil)
      (pss_cons (ps_if (pt_cmp (pc_isN (pv 1)))
        (pss_one (ps_ret (pe_cmp (pc_isN (pv 0)) rfl)))
        pss_nil)
      (pss_cons (ps_if (pt_val (pe_callB (kcall_isi K) (by rfl) T.m_isinstance (by decide +kernel) (pa_cons (pv 1) (pa_cons (pe_bltn (v := .ty "int") (u := .type "int") (by rfl) T.m_int (by decide +kernel) rfl) pa_nil))))
        (pss_one (ps_ret (pe_and (pe_callB (kcall_isi K) (by rfl) T.m_isinstance (by decide +kernel) (pa_cons (pv 0) (pa_cons (pe_bltn (v := .ty "int") (u := .type "int") (by rfl) T.m_int (by decide +kernel) rfl) pa_nil))) (pe_and (pe_not (pe_callB (kcall_isi K) (by rfl) T.m_isinstance (by decide +kernel) (pa_cons (pv 0) (pa_cons (pe_bltn (v := .ty "bool") (u := .type "bool") (by rfl) T.m_bool (by decide +kernel) rfl) pa_nil)))) (pe_one (pe_cmpR op_eq (pv 0) (pv 1) (nomark _)))))))
        pss_nil)
      (pss_one (ps_ret (pe_and (pe_callB (kcall_isi K) (by rfl) T.m_isinstance (by decide +kernel) (pa_cons (pv 0) (pa_cons (pe_bltn (v := .ty "str") (u := .type "str") (by rfl) T.m_str (by decide +kernel) rfl) pa_nil))) (pe_one (pe_cmpR op_eq (pv 0) (pv 1) (nomark _))))))))), ?_⟩
    cases fl with
    | int d i =>
      rw [i1.int_inv, i2.int_inv]
      refine ⟨.int i, rfl, .int i, _, .type "int", _, false, rfl, .ty _, .base (.int i), kit_ty (by decide +kernel), false, rfl, iteF ?_⟩
      refine ⟨.int i, rfl, _, rfl, ?_⟩
      rw [decide_eq_false (show ¬ V.int i = V.non from fun z => nomatch z)]
      refine iteF ⟨.int i, rfl, .int i, _, .type "int", _, true, rfl, .ty _, .base (.int i), kit_ty (by decide +kernel), true, rfl, iteT ?_⟩
      refine ⟨.int i, rfl, .int i, _, .type "int", _, true, rfl, .ty _, .base (.int i), kit_ty (by decide +kernel), true, rfl, iteT ?_⟩
      refine ⟨.int i, rfl, .int i, _, .type "int", _, false, rfl, .ty _, .base (.int i), kit_ty (by decide +kernel), false, rfl, true, rfl, iteT ?_⟩
      refine ⟨.int i, rfl, .int i, rfl, rfl, ?_⟩
      rw [decide_eq_true rfl]
      exact q H (Same.refl H)
    | str d x =>
      rw [i1.str_inv, i2.str_inv]
      refine ⟨.str x, rfl, .str x, _, .type "str", _, false, rfl, .ty _, .base (.str x), kit_ty (by decide +kernel), false, rfl, iteF ?_⟩
      refine ⟨.str x, rfl, _, rfl, ?_⟩
      rw [decide_eq_false (show ¬ V.str x = V.non from fun z => nomatch z)]
      refine iteF ⟨.str x, rfl, .str x, _, .type "str", _, false, rfl, .ty _, .base (.str x), kit_ty (by decide +kernel), false, rfl, iteF ?_⟩
      refine ⟨.str x, rfl, .str x, _, .type "str", _, true, rfl, .ty _, .base (.str x), kit_ty (by decide +kernel), true, rfl, iteT ?_⟩
      refine ⟨.str x, rfl, .str x, rfl, rfl, ?_⟩
      rw [decide_eq_true rfl]
      exact q H (Same.refl H)
    | tup d ds hl hfl =>
      obtain ⟨a, xs, rfl, ha, hxs⟩ := i1.tuple_inv
      obtain ⟨b, ys, rfl, hb, hys⟩ := i2.tuple_inv
      have lx := hxs.length
      have ly := hys.length
      refine ⟨.ref b, rfl, .ref b, _, .type "tuple", _, true, rfl, .ty _, ity hb, kit_ty (by decide +kernel), true, rfl, iteT ?_⟩
      refine ⟨.ref a, rfl, .ref a, _, .type "tuple", _, true, rfl, .ty _, ity ha, kit_ty (by decide +kernel), true, rfl, iteF ?_⟩
      refine ⟨.ref a, rfl, a, xs, rfl, .inr ha.sq, .ref b, rfl, b, ys, rfl, .inr hb.sq, rfl, _, rfl, ?_⟩
      rw [show xs.length = ys.length by omega]
      refine iteNS rfl ?_
      refine ⟨.ref b, rfl, b, ys, rfl, .inr hb.sq, (ys.length : Nat), rfl, by omega, by omega, fun D2 hD => ?_⟩
      refine lc_yes (walk_range (lo := 0) (n := ys.length)) hD (Nat.lt_of_le_of_lt (show ys.length ≤ 8000 by omega) (by decide)) (fun _ _ => trivial) (fun i x H2 H3 R hi sm y yes => ?_) (fun H2 sm eD => ⟨D2, _, rfl, .of eD, ?_⟩)
      · obtain ⟨rfl, rfl⟩ := y
        have hd : ds[i]? = some (ds[i]'(by omega)) := List.getElem?_eq_getElem (by omega)
        generalize ds[i]'(by omega) = di at hd
        obtain ⟨x1, hx1, j1⟩ := hxs.get hd
        obtain ⟨x2, hx2, j2⟩ := hys.get hd
        have k0 : ((0 : Int) + (i : Nat)) = ((i : Nat) : Int) := by omega
        have g1 : atI xs ((0 : Int) + (i : Nat)) = some x1 := by rw [k0]; exact atI_nat hx1
        have g2 : atI ys ((0 : Int) + (i : Nat)) = some x2 := by rw [k0]; exact atI_nat hx2
        exact ⟨rfl, .ref a, rfl, .int _, rfl, a, xs, _, _, rfl, rfl, (ha.mono (tk_same sm)).sq, g1, .ref b, rfl, .int _, rfl, b, ys, _, _, rfl, rfl, (hb.mono (tk_same sm)).sq, g2, x1, x2, di, rfl, Im.mono (tk_same sm) _ j1, Im.mono (tk_same sm) _ j2, hfl di (List.mem_of_getElem? hd), fun H4 sm4 => yes H4 sm4⟩
      · rw [rep_all]
        exact q _ sm
abbrev s__law_dot : Stmt := topS 68
theorem sc__law_dot : FnScope ["xs", "ys", "total", "k"] ["xs", "ys"] (defScope s__law_dot) := ⟨rfl, rfl, rfl, by decide +kernel, rfl, by decide +kernel, by decide +kernel⟩
structure DotJob (r s : List Rat) : Prop where
  len : r.length = s.length
  few : r.length ≤ 1000
  br : ∀ x ∈ r, Bd 4400 4400 x
  bs : ∀ x ∈ s, Bd 4400 4400 x
  bp : ∀ (i : Nat) x y, r[i]? = some x → s[i]? = some y → Bd 4400 4400 (x * y)
  bd : ∀ i, Bd 4400 4400 (dot (r.take i) (s.take i))
def sp_dot (K : PySem.W.Frag) : Sp := fun vs H Q _ => ∃ (v u : V) (r s : List Rat), vs = [v, u] ∧ Im K H v (vD r) ∧ Im K H u (vD s) ∧ DotJob r s ∧ ∀ p H', Same H H' → Im K H' (.ref p) (rD (dot r s)) → Q (.ref p) H'
theorem ok__law_dot {f : Addr} {fd : FuncData} {k : Nat} (F : Fun K "_law_dot" "_law_dot" s__law_dot f fd) (T : Tx K mg){k1 : Nat} (D__law_plus : Def P w K mg base k1 "_law_plus" s__law_plus ["x", "y"] (sp_lplus K)) {k2 : Nat} (D__law_times : Def P w K mg base k2 "_law_times" s__law_times ["x", "y"] (sp_ltimes K)) (e1 : k1 ≤ k) (e2 : k2 ≤ k) : FnOk P w K mg base CX0 (k + 1) f fd ["xs", "ys"] (sp_dot K) := by
  have nd := sc__law_dot.nd
  refine F.ok sc__law_dot (fun vs H Q E h => ?_) (fun cdv A outer s H vs Q E hr h => ?_)
  · obtain ⟨_, _, _, _, rfl, _⟩ := h
    rfl
  · obtain ⟨v, u, r, s, rfl, iv, iu, job, q⟩ := h
    obtain ⟨a, xs, rfl, ha, hx⟩ := vec_inv iv
    obtain ⟨b, ys, rfl, hb, hy⟩ := vec_inv iu
    have lx := all_len hx
    have ly := all_len hy
    have lrs := job.len
    have few := job.few
    refine ⟨_, (pss_cons (ps_set (i := 2) nd rfl (.inl rfl) (pe_tup (pa_cons pe_int (pa_cons pe_int pa_nil))))
      (pss_cons (ps_for PassesOwn.never rfl (pi_range1 rfl T.m_range (pa_cons (pe_callB (kcall_len K) (by rfl) T.m_len PySem.boot_len (pa_cons (pv 0) pa_nil)) pa_nil)) (pg_name (i := 3) nd rfl (.inl rfl))
        (pss_one (ps_if (PW.pt (pw_and (pt_cmpR op_ne (pe_ix (kix_tup K) (pe_ix (kix_tup K) (pv 0) (pv 3) (fun _ _ => rfl)) pe_int (fun _ _ => rfl)) pe_int (nomark _)) (pw_and1 (pt_cmpR op_ne (pe_ix (kix_tup K) (pe_ix (kix_tup K) (pv 1) (pv 3) (fun _ _ => rfl)) pe_int (fun _ _ => rfl)) pe_int (nomark _)))))
          (pss_one (ps_set (i := 2) nd rfl (.inl rfl) (pe_def D__law_plus (hr.mono (by omega)) rfl (pa_cons (pv 2) (pa_cons (pe_def D__law_times (hr.mono (by omega)) rfl (pa_cons (pe_ix (kix_tup K) (pv 0) (pv 3) (fun _ _ => rfl)) (pa_cons (pe_ix (kix_tup K) (pv 1) (pv 3) (fun _ _ => rfl)) pa_nil))) pa_nil)))))
          pss_nil)))
      (pss_one (ps_ret (pv 2))))), ?_⟩
    refine ⟨by show 2 ≤ sizeLine; decide, fun T hT => ?_⟩
    have sT := same_new (o := .tup [V.int 0, .int 1]) hT
    have iT : Im K (upd H T (.tup [V.int 0, .int 1])) (.ref T) (rD 0) := rat_mk (q := 0) (.inl upd_same)
    generalize upd H T (.tup [V.int 0, .int 1]) = H1 at *
    refine ⟨.ref a, rfl, a, xs, rfl, .inr (ha.mono (tk_same sT)).sq, (xs.length : Nat), rfl, by omega, by omega, ?_⟩
    refine for_it (walk_range (lo := 0) (n := xs.length)) (fun i σ Ha => ∃ (tv : V) (y3 : Option V), σ = [some (.ref a), some (.ref b), some tv, y3] ∧ Same H Ha ∧ Im K Ha tv (rD (dot (r.take i) (s.take i)))) ⟨_, _, rfl, sT, by rw [List.take_zero, dot_nil]; exact iT⟩ (fun _ _ _ _ _ => trivial) ?_ ?_
    · rintro i x σ Ha Hb hi ⟨tv, y3, rfl, sm, it⟩ ⟨rfl, rfl⟩
      have k0 : ((0 : Int) + (i : Nat)) = ((i : Nat) : Int) := by omega
      have i1 : i < r.length := by omega
      have i2 : i < s.length := by omega
      obtain ⟨x, ex, ix⟩ := all_at (ImAll.mono (tk_same sm) _ hx) (List.getElem?_eq_getElem i1)
      obtain ⟨y, ey, iy⟩ := all_at (ImAll.mono (tk_same sm) _ hy) (List.getElem?_eq_getElem i2)
      have b1 := job.br _ (List.getElem_mem i1)
      have b2 := job.bs _ (List.getElem_mem i2)
      have b3 := job.bp i _ _ (List.getElem?_eq_getElem i1) (List.getElem?_eq_getElem i2)
      have b4 := job.bd i
      have dt := dot_take (List.getElem?_eq_getElem i1) (List.getElem?_eq_getElem i2)
      generalize r[i] = q1 at *
      generalize s[i] = q2 at *
      obtain ⟨p1, rfl, hp1⟩ := rat_inv ix
      obtain ⟨p2, rfl, hp2⟩ := rat_inv iy
      have g1 : atI xs ((0 : Int) + (i : Nat)) = some (.ref p1) := by rw [k0]; exact atI_nat ex
      have g2 : atI ys ((0 : Int) + (i : Nat)) = some (.ref p2) := by rw [k0]; exact atI_nat ey
      have ha' := (ha.mono (tk_same sm)).sq
      have hb' := (hb.mono (tk_same sm)).sq
      refine ⟨.ref a, rfl, .int _, rfl, a, xs, _, _, rfl, rfl, ha', g1, p1, _, 0, _, rfl, rfl, hp1.sq, atI_nat (j := 0) rfl, rfl, _, rfl, ?_⟩
      by_cases h1 : q1.num = 0
      · rw [decide_eq_true (show V.int q1.num = V.int 0 by rw [h1])]
        refine iteF ⟨_, _, rfl, sm, ?_⟩
        rw [dt, num_zero h1, Rat.zero_mul, Rat.add_zero]
        exact it
      · rw [decide_eq_false (show ¬ V.int q1.num = V.int 0 from fun z => h1 (V.int.inj z))]
        refine iteT ⟨.ref b, rfl, .int _, rfl, b, ys, _, _, rfl, rfl, hb', g2, p2, _, 0, _, rfl, rfl, hp2.sq, atI_nat (j := 0) rfl, rfl, _, rfl, ?_⟩
        by_cases h2 : q2.num = 0
        · rw [decide_eq_true (show V.int q2.num = V.int 0 by rw [h2])]
          refine iteF ⟨_, _, rfl, sm, ?_⟩
          rw [dt, num_zero h2, Rat.mul_zero, Rat.add_zero]
          exact it
        · rw [decide_eq_false (show ¬ V.int q2.num = V.int 0 from fun z => h2 (V.int.inj z))]
          refine iteT ⟨tv, rfl, .ref a, rfl, .int _, rfl, a, xs, _, _, rfl, rfl, ha', g1, .ref b, rfl, .int _, rfl, b, ys, _, _, rfl, rfl, hb', g2, .ref p1, .ref p2, q1, q2, rfl, ix, iy, b1, b2, fun p H5 s5 i5 => ?_⟩
          refine ⟨tv, .ref p, _, _, rfl, Im.mono (tk_same s5) _ it, i5, b4, b3, fun p' H6 s6 i6 => ⟨_, _, rfl, (sm.trans s5).trans s6, ?_⟩⟩
          rw [dt]
          exact i6
    · rintro σ Ha ⟨tv, y3, rfl, sm, it⟩
      rw [List.take_of_length_le (by omega), List.take_of_length_le (by omega)] at it
      obtain ⟨p, rfl, _⟩ := rat_inv it
      exact ⟨.ref p, rfl, q p _ sm it⟩
abbrev s__law_number : Stmt := topS 76
theorem sc__law_number : FnScope ["well"] ["well"] (defScope s__law_number) := ⟨rfl, rfl, rfl, by decide +kernel, rfl, by decide +kernel, by decide +kernel⟩
/-- a drawn ratio -/
def Num (q : Rat) : Prop := q ≠ 0 ∧ ∃ t b : Int, q = Rat.divInt t b ∧ t.natAbs ≤ 11 ∧ (b = 1 ∨ b = 2 ∨ b = 3 ∨ b = 6)
def sp_number (K : PySem.W.Frag) : Sp := fun vs H Q _ => ∃ (c : Addr), vs = [.ref c] ∧ Well H c ∧ ∀ p q H', Well H' c → But c H H' → Num q → Im K H' (.ref p) (rD q) → Q (.ref p) H'
theorem num_of {t b : Int} (ht : t ≠ 0) (h11 : t.natAbs ≤ 11) (hb : b = 1 ∨ b = 2 ∨ b = 3 ∨ b = 6) : Num (Rat.divInt t b) := by
  refine ⟨fun z => ?_, t, b, rfl, h11, hb⟩
  have hb0 : b ≠ 0 := by omega
  rw [← Rat.zero_divInt 1] at z
  have := (Rat.divInt_eq_divInt_iff hb0 (by decide)).mp z
  omega
theorem ok__law_number {f : Addr} {fd : FuncData} {k : Nat} (F : Fun K "_law_number" "_law_number" s__law_number f fd) (T : Tx K mg){k1 : Nat} (D__law_ratio : Def P w K mg base k1 "_law_ratio" s__law_ratio ["top", "bottom"] (sp_ratio K)) {k2 : Nat} (D__law_sip : Def P w K mg base k2 "_law_sip" s__law_sip ["well", "many"] sp_sip) (e1 : k1 ≤ k) (e2 : k2 ≤ k) : FnOk P w K mg base CX0 (k + 1) f fd ["well"] (sp_number K) := by
  have nd := sc__law_number.nd
  refine F.ok sc__law_number (fun vs H Q E h => ?_) (fun cdv A outer s H vs Q E hr h => ?_)
  · obtain ⟨_, rfl, _⟩ := h
    rfl
  · obtain ⟨c, rfl, u, q⟩ := h
    refine ⟨_, (pss_one (ps_ret (pe_def D__law_ratio (hr.mono (by omega)) rfl (pa_cons (pe_ix (kix_list K) (pe_lst (pa_cons pe_int (pa_cons pe_int (pa_cons (pe_un un_neg pe_int) (pa_cons pe_int (pa_cons pe_int (pa_cons (pe_un un_neg pe_int) (pa_cons pe_int (pa_cons pe_int (pa_cons (pe_un un_neg pe_int) (pa_cons pe_int pa_nil))))))))))) (pe_def D__law_sip (hr.mono (by omega)) rfl (pa_cons (pv 0) (pa_cons pe_int pa_nil))) (fun _ _ => rfl)) (pa_cons (pe_ix (kix_list K) (pe_lst (pa_cons pe_int (pa_cons pe_int (pa_cons pe_int (pa_cons pe_int (pa_cons pe_int (pa_cons pe_int (pa_cons pe_int (pa_cons pe_int pa_nil))))))))) (pe_def D__law_sip (hr.mono (by omega)) rfl (pa_cons (pv 0) (pa_cons pe_int pa_nil))) (fun _ _ => rfl)) pa_nil))))), ?_⟩
    refine ⟨_, rfl, _, rfl, _, rfl, by show 10 ≤ sizeLine; decide, fun L hL => ?_⟩
    refine ⟨.ref c, rfl, c, 10, rfl, u.same (same_new hL), by decide, by decide, fun d1 H1 d0 d10 u1 b1 => ?_⟩
    have ne := u.ne hL
    have e1 := b1 L _ ne upd_same
    obtain ⟨t, ht, et⟩ : ∃ t : Int, (t ≠ 0 ∧ t.natAbs ≤ 11) ∧ atI [V.int 1, V.int 1, V.int (-1), V.int 2, V.int 3, V.int (-2), V.int 1, V.int 5, V.int (-7), V.int 11] d1 = some (V.int t) := by
      obtain ⟨n, rfl⟩ := Int.eq_ofNat_of_zero_le d0
      have h : n = 0 ∨ n = 1 ∨ n = 2 ∨ n = 3 ∨ n = 4 ∨ n = 5 ∨ n = 6 ∨ n = 7 ∨ n = 8 ∨ n = 9 := by omega
      rcases h with rfl | rfl | rfl | rfl | rfl | rfl | rfl | rfl | rfl | rfl <;> exact ⟨_, by decide, rfl⟩
    refine ⟨L, _, d1, .int t, rfl, rfl, .of e1, et, by show 8 ≤ sizeLine; decide, fun L2 hL2 => ?_⟩
    have ne2 := u1.ne hL2
    refine ⟨.ref c, rfl, c, 8, rfl, u1.same (same_new hL2), by decide, by decide, fun d2 H2 d20 d28 u2 b2 => ?_⟩
    have e2 := b2 L2 _ ne2 upd_same
    obtain ⟨b, hb, eb⟩ : ∃ b : Int, (b = 1 ∨ b = 2 ∨ b = 3 ∨ b = 6) ∧ atI [V.int 1, V.int 1, V.int 1, V.int 1, V.int 2, V.int 3, V.int 1, V.int 6] d2 = some (V.int b) := by
      obtain ⟨n, rfl⟩ := Int.eq_ofNat_of_zero_le d20
      have h : n = 0 ∨ n = 1 ∨ n = 2 ∨ n = 3 ∨ n = 4 ∨ n = 5 ∨ n = 6 ∨ n = 7 := by omega
      rcases h with rfl | rfl | rfl | rfl | rfl | rfl | rfl | rfl <;> exact ⟨_, by decide, rfl⟩
    refine ⟨L2, _, d2, .int b, rfl, rfl, .of e2, eb, t, b, rfl, by omega, lt_up (a := 3) (by omega) (by decide), fun p H3 s3 i3 => ?_⟩
    have bt : But c H H3 := (((but_same (same_new hL)).trans b1).trans (but_same (same_new hL2))).trans (b2.trans (but_same s3))
    exact q p _ H3 (u2.same s3) bt (num_of ht.1 ht.2 hb) i3
abbrev s__law_place : Stmt := topS 73
theorem sc__law_place : FnScope ["kinds", "head", "row"] ["kinds", "head"] (defScope s__law_place) := ⟨rfl, rfl, rfl, by decide +kernel, rfl, by decide +kernel, by decide +kernel⟩
def sp_place (K : PySem.W.Frag) : Sp := fun vs H Q _ => ∃ (v : V) (f : Str) (ks : List Kd), vs = [v, .str f] ∧ Im K H v (ksD ks) ∧ ks.length ≤ 1000 ∧ f ∈ ks.map (·.1) ∧ ∀ H', Same H H' → Q (.int ((ks.map (·.1)).idxOf f : Nat)) H'
theorem ok__law_place {f : Addr} {fd : FuncData} {k : Nat} (F : Fun K "_law_place" "_law_place" s__law_place f fd) (T : Tx K mg) : FnOk P w K mg base CX0 (k + 1) f fd ["kinds", "head"] (sp_place K) := by
  have nd := sc__law_place.nd
  refine F.ok sc__law_place (fun vs H Q E h => ?_) (fun cdv A outer s H vs Q E hr h => ?_)
  · obtain ⟨_, _, _, rfl, _⟩ := h
    rfl
  · obtain ⟨v, f, ks, rfl, iv, few, hf, q⟩ := h
    obtain ⟨a, xs, rfl, ha, hx⟩ := iv.tuple_inv
    have lx : xs.length = ks.length := all_len hx
    refine ⟨_, (pss_one (ps_ret (pe_bm PySem.F.plainAttrs_list PySem.F.slot_list_index PySem.F.type_list_index mt_index (pe_lc (own := [("row", 2)]) (g := gName 2) (tt := tYes) rfl nd (kpi_tup K (pv 0)) (blkOk_by (by rfl)) (fun _ _ _ _ _ => (pg_name (i := 2) nd rfl (.inl rfl))) (fun _ _ _ _ _ => pts_nil) (fun _ _ _ _ _ => (pe_ix (kix_tup K) (pv 2) pe_int (fun _ _ => rfl)))) (pa_cons (pv 1) pa_nil)))), ?_⟩
    refine ⟨.ref a, rfl, a, rfl, ⟨_, ha.sq⟩, fun D hD => ?_⟩
    refine lc_all (walk_tup (xs := xs)) (fun i Hx => Same H Hx ∧ Hx D = some (.lst (((ks.take i).map (·.1)).map V.str))) ⟨same_new hD, upd_same⟩ (fun i Hx _ z => (ha.mono (tk_same z.1)).sq) (fun i x Hx Hy hi z y => ?_) (fun Hx z => ?_)
    · obtain ⟨sm, eD⟩ := z
      obtain ⟨rfl, hxi⟩ := y
      obtain ⟨kd, hk, ik⟩ := all_get (ImAll.mono (tk_same sm) _ hx) hxi
      obtain ⟨p, x1, x2, rfl, hp, i1, i2⟩ := im_pair ik
      obtain rfl := i1.str_inv
      refine ⟨rfl, .ref p, rfl, p, _, 0, _, rfl, rfl, hp.sq, atI_nat (j := 0) rfl, _, eD, small1000 (by rw [List.length_map, List.length_map, List.length_take]; omega), fun b o e => ?_, ?_⟩
      · rw [upd_ne (ne_of_none e hD)]; exact sm _ _ e
      · rw [upd_same, List.take_add_one, hk, List.map_append, List.map_append]; rfl
    · obtain ⟨sm, eD⟩ := z
      rw [lx, List.take_of_length_le (Nat.le_refl _)] at eD
      have hi := List.idxOf_lt_length_of_mem hf
      have eat : (ks.map (·.1))[(ks.map (·.1)).idxOf f]? = some f := by rw [List.getElem?_eq_getElem hi]; exact congrArg some (List.getElem_idxOf hi)
      refine ⟨.inl ⟨rfl, _, .of eD⟩, .str f, rfl, D, _, .str f, (ks.map (·.1)).idxOf f, .str f, rfl, rfl, .of eD, rfl, flat_strs' _, by rw [List.getElem?_map, eat]; rfl, by rw [eqs, decide_eq_true rfl], fun m z' hm hz => ?_, q _ sm⟩
      rw [List.getElem?_map] at hz
      obtain ⟨g, hg, rfl⟩ := Option.map_eq_some_iff.mp hz
      rw [eqs, decide_eq_false]
      intro e
      have hm' : m < (ks.map (·.1)).findIdx (· == f) := hm
      have h2 := List.not_of_lt_findIdx hm'
      have hml := (List.getElem?_eq_some_iff.mp hg)
      obtain ⟨hl, hv⟩ := hml
      rw [hv, e] at h2
      simp at h2
abbrev s__law_widths : Stmt := topS 74
theorem sc__law_widths : FnScope ["kinds", "dims", "fields", "field"] ["kinds", "dims", "fields"] (defScope s__law_widths) := ⟨rfl, rfl, rfl, by decide +kernel, rfl, by decide +kernel, by decide +kernel⟩
def sp_lwidths (K : PySem.W.Frag) : Sp := fun vs H Q _ => ∃ (v u : V) (l : Addr) (ks : List Kd) (fs : List Str) (dims : List Nat), vs = [v, .ref l, u] ∧ Im K H v (ksD ks) ∧ Im K H u (sD fs) ∧ H l = some (.lst (dims.map fun n : Nat => V.int (n : Nat))) ∧ KindsOk ks ∧ fs.length ≤ 4 ∧ (∀ f ∈ fs, f = "number" ∨ f ∈ ks.map (·.1) ∧ (ks.map (·.1)).idxOf f < dims.length) ∧
  ∀ D H', Same H H' → H D = none → H' D = some (.lst ((fs.map (wd (ks.map (·.1)) dims)).map fun n : Nat => V.int (n : Nat))) → Q (.ref D) H'
theorem num_not {ks : List Kd} (ok : KindsOk ks) : ("number" : Str) ∉ ks.map (·.1) := fun z => by
  obtain ⟨k, hk, e⟩ := List.mem_map.mp z
  obtain ⟨_, c, hc, hh⟩ := ok.nm k hk
  rw [e] at hc
  have e2 : ("number" : Str).cps[0]? = some 110 := by decide +kernel
  rw [e2] at hc
  obtain rfl := Option.some.inj hc
  exact absurd hh (by decide +kernel)
theorem ok__law_widths {f : Addr} {fd : FuncData} {k : Nat} (F : Fun K "_law_widths" "_law_widths" s__law_widths f fd) (T : Tx K mg){k1 : Nat} (D__law_place : Def P w K mg base k1 "_law_place" s__law_place ["kinds", "head"] (sp_place K)) (e1 : k1 ≤ k) : FnOk P w K mg base CX0 (k + 1) f fd ["kinds", "dims", "fields"] (sp_lwidths K) := by
  have nd := sc__law_widths.nd
  refine F.ok sc__law_widths (fun vs H Q E h => ?_) (fun cdv A outer s H vs Q E hr h => ?_)
  · obtain ⟨_, _, _, _, _, _, rfl, _⟩ := h
    rfl
  · obtain ⟨v, u, l, ks, fs, dims, rfl, iv, iu, hl, ok, few, hf, q⟩ := h
    obtain ⟨a, xs, rfl, ha, hx⟩ := iu.tuple_inv
    obtain rfl := im_strs hx
    refine ⟨_, (pss_one (ps_ret (pe_lc (own := [("field", 3)]) (g := gName 3) (tt := tYes) rfl nd (kpi_tup K (pv 2)) (blkOk_by (by rfl)) (fun _ _ _ _ _ => (pg_name (i := 3) nd rfl (.inl rfl))) (fun _ _ _ _ _ => pts_nil) (fun _ _ _ _ _ => (pe_ifExp (pt_cmpR op_eq (pv 3) pe_str (nomark _)) pe_int (pe_ix (kix_list K) (pv 1) (pe_def D__law_place (hr.mono (by omega)) rfl (pa_cons (pv 0) (pa_cons (pv 3) pa_nil))) (fun _ _ => rfl))))))), ?_⟩
    refine ⟨.ref a, rfl, a, rfl, ⟨_, ha.sq⟩, fun D hD => ?_⟩
    refine lc_all (walk_tup (xs := fs.map V.str)) (fun i Hx => Same H Hx ∧ Hx D = some (.lst (((fs.take i).map (wd (ks.map (·.1)) dims)).map fun n : Nat => V.int (n : Nat)))) ⟨same_new hD, upd_same⟩ (fun i Hx _ z => (ha.mono (tk_same z.1)).sq) (fun i x Hx Hy hi z y => ?_) (fun Hx z => ?_)
    · obtain ⟨sm, eD⟩ := z
      obtain ⟨rfl, hxi⟩ := y
      rw [List.getElem?_map] at hxi
      obtain ⟨f, hfi, rfl⟩ := Option.map_eq_some_iff.mp hxi
      have fin : ∀ (n : Nat) H9, Same Hy H9 → n = wd (ks.map (·.1)) dims f → ∃ acc, H9 D = some (.lst acc) ∧ acc.length < sizeLine ∧ Same H (upd H9 D (.lst (acc ++ [V.int (n : Nat)]))) ∧ (upd H9 D (.lst (acc ++ [V.int (n : Nat)]))) D = some (.lst (((fs.take (i + 1)).map (wd (ks.map (·.1)) dims)).map fun n : Nat => V.int (n : Nat))) := fun n H9 s9 en => by
        refine ⟨_, s9 _ _ eD, small1000 (by rw [List.length_map, List.length_map, List.length_take]; omega), fun b o e => ?_, ?_⟩
        · rw [upd_ne (ne_of_none e hD)]; exact s9 _ _ (sm _ _ e)
        · rw [upd_same, List.take_add_one, hfi, List.map_append, List.map_append, en]; rfl
      refine ⟨rfl, .str f, rfl, rfl, _, rfl, ?_⟩
      rw [dec_str]
      by_cases h1 : f = "number"
      · rw [decide_eq_true h1]
        refine iteT (fin 2 _ (Same.refl _) ?_)
        unfold wd
        rw [if_neg (by rw [h1]; exact num_not ok)]
      · rw [decide_eq_false h1]
        obtain ⟨hin, hlt⟩ := (hf f (List.mem_of_getElem? hfi)).resolve_left h1
        have k6 := ok.few
        refine iteF ⟨.ref l, rfl, v, rfl, .str f, rfl, v, f, ks, rfl, Im.mono (tk_same sm) _ iv, by omega, hin, fun H9 s9 => ?_⟩
        refine ⟨l, _, _, .int ((dims.getD ((ks.map (·.1)).idxOf f) 0 : Nat) : Int), rfl, rfl, .of (s9 _ _ (sm _ _ hl)), atI_nat ?_, fin _ _ s9 ?_⟩
        · rw [List.getElem?_map, List.getD_eq_getElem?_getD, List.getElem?_eq_getElem hlt]; rfl
        · unfold wd
          rw [if_pos hin]
    · obtain ⟨sm, eD⟩ := z
      rw [List.length_map, List.take_of_length_le (Nat.le_refl _)] at eD
      exact q D Hx sm hD eD
abbrev s__law_choices : Stmt := topS 75
theorem sc__law_choices : FnScope ["sizes", "found", "size", "more", "row", "x"] ["sizes"] (defScope s__law_choices) := ⟨rfl, rfl, rfl, by decide +kernel, rfl, by decide +kernel, by decide +kernel⟩
def choiceStep (found : List (List Nat)) (size : Nat) : List (List Nat) := found.flatMap fun row => (List.range size).map fun x => row ++ [x]
def choices (sizes : List Nat) : List (List Nat) := sizes.foldl choiceStep [[]]
theorem choices_snoc {sizes : List Nat} {i n : Nat} (h : sizes[i]? = some n) : choices (sizes.take (i + 1)) = choiceStep (choices (sizes.take i)) n := by
  unfold choices
  rw [List.take_add_one, h]
  show (sizes.take i ++ [n]).foldl _ _ = _
  rw [List.foldl_append]; rfl
theorem all_map {K : PySem.W.Frag} {H : Hp} {α β : Type} {f : α → PyData} {g : β → α} {xs : List V} {l : List β} (h : ImAll K H xs (l.map fun b => f (g b))) : ImAll K H xs ((l.map g).map f) := by
  rw [List.map_map]; exact h
def sp_choices (K : PySem.W.Frag) : Sp := fun vs H Q _ => ∃ (l : Addr) (sizes : List Nat), vs = [.ref l] ∧ H l = some (.lst (sizes.map fun n : Nat => V.int (n : Nat))) ∧ (∀ n ∈ sizes, n ≤ 1000) ∧ (∀ i, (choices (sizes.take i)).length ≤ 1000) ∧ (∀ i, ∀ r ∈ choices (sizes.take i), r.length ≤ 900) ∧
  ∀ D ws H', Same H H' → H D = none → H' D = some (.lst ws) → ImAll K H' ws ((choices sizes).map nsD) → Q (.ref D) H'
set_option maxHeartbeats 1000000 in
theorem ok__law_choices {f : Addr} {fd : FuncData} {k : Nat} (F : Fun K "_law_choices" "_law_choices" s__law_choices f fd) (T : Tx K mg) : FnOk P w K mg base CX0 (k + 1) f fd ["sizes"] (sp_choices K) := by
  have nd := sc__law_choices.nd
  refine F.ok sc__law_choices (fun vs H Q E h => ?_) (fun cdv A outer s H vs Q E hr h => ?_)
  · obtain ⟨_, _, rfl, _⟩ := h
    rfl
  · obtain ⟨l, sizes, rfl, hl, hsz, hch, hrl, q⟩ := h
    refine ⟨_, (pss_cons (ps_set (i := 1) nd rfl (.inl rfl) (pe_lst (pa_cons (pe_tup pa_nil) pa_nil)))
      (pss_cons (ps_for PassesOwn.never rfl (kpi_list K (pv 0)) (pg_name (i := 2) nd rfl (.inl rfl))
        (pss_cons (ps_set (i := 3) nd rfl (.inl rfl) (pe_lst pa_nil))
        (pss_cons (ps_for PassesOwn.never rfl (kpi_list K (pv 1)) (pg_name (i := 4) nd rfl (.inr rfl))
          (pss_one (ps_expr (pe_bm PySem.F.plainAttrs_list PySem.F.slot_list_extend PySem.F.type_list_extend mt_extend (pv 3) (pa_cons (pe_lc (own := [("x", 5)]) (g := gName 5) (tt := tYes) rfl nd (pi_range1 rfl T.m_range (pa_cons (pv 2) pa_nil)) (blkOk_by (by rfl)) (fun _ _ _ _ _ => (pg_name (i := 5) nd rfl (.inl rfl))) (fun _ _ _ _ _ => pts_nil) (fun _ _ _ _ _ => (pe_op (kop_catA K) (pv 4) (pe_tup (pa_cons (pv 5) pa_nil))))) pa_nil)))))
        (pss_one (ps_set (i := 1) nd rfl (.inl rfl) (pv 3))))))
      (pss_one (ps_ret (pv 1))))), ?_⟩
    refine ⟨by show 0 ≤ sizeLine; decide, fun T hT => ⟨by show 1 ≤ sizeLine; decide, fun F0 hF => ?_⟩⟩
    have sT := same_new (o := .tup []) hT
    have iT : Im K (upd H T (.tup [])) (.ref T) (nsD []) := .tup (.inl upd_same) .nil
    have hF0 : H F0 = none := sT.free hF
    have sF := same_new (o := .lst [.ref T]) hF
    have s0 := sT.trans sF
    have iF := Im.mono (tk_same sF) _ iT
    have eF : (upd (upd H T (.tup [])) F0 (.lst [.ref T])) F0 = some (.lst [.ref T]) := upd_same
    generalize upd (upd H T (.tup [])) F0 (.lst [.ref T]) = H1 at *
    refine ⟨.ref l, rfl, l, rfl, ⟨_, .of (s0 _ _ hl)⟩, ?_⟩
    refine for_it (walk_list (xs := sizes.map fun n : Nat => V.int (n : Nat))) (fun i σ Ha => ∃ (y2 y3 y4 : Option V) (Fi : Addr) (ws : List V), σ = [some (.ref l), some (.ref Fi), y2, y3, y4, none] ∧ Same H Ha ∧ H Fi = none ∧ Ha Fi = some (.lst ws) ∧ ImAll K Ha ws ((choices (sizes.take i)).map nsD)) ⟨_, _, _, F0, _, rfl, s0, hF0, eF, .cons iF .nil⟩ (fun i σ Ha _ z => ?_) ?_ ?_
    · obtain ⟨_, _, _, _, _, _, sm, _⟩ := z
      exact .of (sm _ _ hl)
    · rintro i x σ Ha Hb hi ⟨y2, y3, y4, Fi, ws, rfl, sm, hFi, eFi, im⟩ ⟨rfl, hxi⟩
      rw [List.getElem?_map] at hxi
      obtain ⟨n, hn, rfl⟩ := Option.map_eq_some_iff.mp hxi
      have n1 := hsz n (List.mem_of_getElem? hn)
      have lws : ws.length = (choices (sizes.take i)).length := all_len im
      have c1 := hch i
      refine ⟨by show 0 ≤ sizeLine; decide, fun M hM => ?_⟩
      have sM := same_new (o := .lst []) hM
      have eM : (upd Hb M (.lst [])) M = some (.lst []) := upd_same
      have hM0 : H M = none := sm.free hM
      generalize upd Hb M (.lst []) = H2 at *
      refine ⟨.ref Fi, rfl, Fi, rfl, ⟨_, .of (sM _ _ eFi)⟩, ?_⟩
      have nFM : Fi ≠ M := ne_of_none eFi hM
      refine for_it (walk_list (xs := ws)) (fun j σ Hc => ∃ (y4 : Option V) (vs : List V), σ = [some (.ref l), some (.ref Fi), some (.int (n : Nat)), some (.ref M), y4, none] ∧ Same Hb Hc ∧ Hc M = some (.lst vs) ∧ ImAll K Hc vs ((choiceStep ((choices (sizes.take i)).take j) n).map nsD)) ⟨_, [], rfl, sM, eM, .nil⟩ (fun j σ Hc _ z => ?_) ?_ ?_
      · obtain ⟨_, _, _, s5, _⟩ := z
        exact .of (s5 _ _ eFi)
      · rintro j x σ Hc Hd hj ⟨y4, vs, rfl, s5, eM5, im5⟩ ⟨rfl, hxj⟩
        obtain ⟨row, hrow, irow⟩ := all_get (ImAll.mono (tk_same s5) _ im) hxj
        obtain ⟨pr, rs, rfl, hpr, hrs⟩ := irow.tuple_inv
        have lrs : rs.length = row.length := all_len hrs
        have r9 := hrl i row (List.mem_of_getElem? hrow)
        refine ⟨.ref M, rfl, .inl ⟨rfl, _, .of eM5⟩, .int (n : Nat), rfl, (n : Nat), rfl, by omega, by omega, fun D hD => ?_⟩
        have nMD : M ≠ D := ne_of_none eM5 hD
        refine lc_all (walk_range (lo := 0) (n := (n : Int).toNat)) (fun s Hx => Same Hd Hx ∧ ∃ us, Hx D = some (.lst us) ∧ ImAll K Hx us ((List.range s).map fun x => nsD (row ++ [x]))) ⟨same_new hD, [], upd_same, .nil⟩ (fun _ _ _ _ => trivial) (fun s x Hx Hy hs z y => ?_) (fun Hx z => ?_)
        · obtain ⟨s7, us, eD, iD⟩ := z
          obtain ⟨rfl, rfl⟩ := y
          rw [Int.toNat_natCast] at hs
          refine ⟨rfl, .ref pr, rfl, .int _, rfl, by show 1 ≤ sizeLine; decide, fun T2 hT2 => ?_⟩
          have sT2 := same_new (o := .tup [V.int (0 + (s : Nat))]) hT2
          refine cat_any (hpr.mono (tk_same (s7.trans sT2))) (.inl upd_same) (by rw [List.length_singleton]; omega) fun p H9 s9 ip => ?_
          have s10 := sT2.trans s9
          refine ⟨us, s10 _ _ eD, small1000 (by rw [all_len (f := fun x => nsD (row ++ [x])) iD, List.length_range]; omega), fun b o e => ?_, _, upd_same, ?_⟩
          · rw [upd_ne (ne_of_none e hD)]; exact s10 _ _ (s7 _ _ e)
          · rw [List.range_succ, List.map_append]
            refine (ImAll.mono ((tk_same s10).trans (tk_lst (s10 _ _ eD))) _ iD).snoc (Im.mono (tk_lst (s10 _ _ eD)) _ (.tup ip ?_))
            rw [List.map_append]
            refine ImAll.app (ImAll.mono (tk_same (s7.trans s10)) _ hrs) (.cons ?_ .nil)
            have e0 : (0 : Int) + (s : Nat) = ((s : Nat) : Int) := by omega
            rw [e0]
            exact .int _
        · obtain ⟨s7, us, eD, iD⟩ := z
          rw [Int.toNat_natCast] at iD
          have eM7 := s7 _ _ eM5
          have lus : us.length = n := by rw [all_len (f := fun x => nsD (row ++ [x])) iD, List.length_range]
          have lvs : vs.length ≤ 1000 * 1000 := by
            rw [all_len im5]
            unfold choiceStep
            rw [List.length_flatMap]
            simp only [List.length_map, List.length_range]
            rw [List.map_const', List.sum_replicate_nat, List.length_take]
            exact Nat.mul_le_mul (by omega) n1
          refine ⟨M, D, vs, us, rfl, rfl, eM7, eD, Nat.le_trans (show vs.length + us.length ≤ 1001000 by omega) (by decide), _, vs ++ us, rfl, fun b o e => ?_, upd_same, ?_⟩
          · rw [upd_ne (ne_of_none e hM)]; exact s7 _ _ (s5 _ _ e)
          · rw [List.take_add_one, hrow]
            unfold choiceStep
            show ImAll K _ _ (List.map nsD ((((choices (sizes.take i)).take j) ++ [row]).flatMap _))
            rw [List.flatMap_append, List.flatMap_cons, List.flatMap_nil, List.append_nil, List.map_append]
            exact ImAll.app (ImAll.mono ((tk_same s7).trans (tk_lst eM7)) _ im5) (all_map (g := fun x => row ++ [x]) (ImAll.mono (tk_lst eM7) _ iD))
      · rintro σ Hc ⟨y4, vs, rfl, s5, eM5, im5⟩
        rw [lws, List.take_of_length_le (Nat.le_refl _)] at im5
        refine ⟨.ref M, rfl, _, _, _, M, vs, rfl, sm.trans s5, hM0, eM5, ?_⟩
        rw [choices_snoc hn]
        exact im5
    · rintro σ Ha ⟨y2, y3, y4, Fi, ws, rfl, sm, hFi, eFi, im⟩
      rw [List.length_map, List.take_of_length_le (Nat.le_refl _)] at im
      exact ⟨.ref Fi, rfl, q Fi ws _ sm hFi eFi im⟩
end
end K63

set_option Elab.async false
set_option linter.all false
set_option maxRecDepth 100000
set_option exponentiation.threshold 20000
set_option pp.deepTerms false
set_option pp.deepTerms.threshold 8
namespace K63
open PySem PySem.Spec PyProof.Rows L2 Ly Mt
def aheads : List Str := ["", "Q", "Ab", "Z9z"]
def behinds : List Str := ["", "x", "7", "Bc", "", "N0a1"]
def letterS (t : Nat) : Str := ⟨#[65 + t]⟩
def headS (a t b : Nat) : Str := (aheads.getD a noS ++ letterS t) ++ behinds.getD b noS
def alen (a : Nat) : Nat := (aheads.getD a noS).length
def nameB (z : Str) : Bool := decide (1 ≤ z.length) && (decide (z.length ≤ 10) && (decide (z ≠ "fun") && (decide (z ≠ "kind") && (decide (z ≠ "number") && ((match z.cps[0]? with | some c => !digC c | none => false) && z.cps.toList.all (fun c => lowC c || highC c || digC c))))))
theorem nameB_ok {z : Str} (h : nameB z = true) : NameOk z := by
  unfold nameB at h
  simp only [Bool.and_eq_true, decide_eq_true_eq] at h
  obtain ⟨h1, h2, h3, h4, h5, h6, h7⟩ := h
  refine ⟨⟨h1, h2⟩, ⟨h3, h4, h5⟩, ?_, fun c hc => List.all_eq_true.mp h7 c hc⟩
  cases e : z.cps[0]? with
  | none => rw [e] at h6; cases h6
  | some c =>
    rw [e] at h6
    exact ⟨c, rfl, by simpa using h6⟩
def headB (a t b : Nat) : Bool := nameB (headS a t b) && ((match (headS a t b).cps[0]? with | some c => highC c | none => false) && decide ((headS a t b).cps[alen a]? = some (65 + t)))
theorem heads_all : ∀ a < 4, ∀ t < 26, ∀ b < 6, headB a t b = true := by decide +kernel
def lowOf (z : Str) : Str := Txt.lower ⟨#[z.cps.getD 0 0]⟩ ++ cutS z (some 1) none
def lowB (a t b : Nat) : Bool := nameB (lowOf (headS a t b)) && ((match (lowOf (headS a t b)).cps[0]? with | some c => lowC c | none => false) && decide ((lowOf (headS a t b)).cps[alen a]? = some ((if a = 0 then 97 else 65) + t)))
theorem lows_all : ∀ a < 4, ∀ t < 26, ∀ b < 6, lowB a t b = true := by decide +kernel
structure HeadsOk (n : Nat) (hs : List Str) : Prop where
  len : hs.length = n
  ex : ∃ a s, a < 4 ∧ s < 26 ∧ ∀ (k : Nat) h, hs[k]? = some h → ∃ b, b < 6 ∧ h = headS a ((s + k * 7) % 26) b
theorem HeadsOk.high {n : Nat} {hs : List Str} (ok : HeadsOk n hs) : ∀ h ∈ hs, High h := fun h hh => by
  obtain ⟨a, s, ha, hs', hall⟩ := ok.ex
  obtain ⟨k, hk⟩ := List.getElem?_of_mem hh
  obtain ⟨b, hb, rfl⟩ := hall k h hk
  have z := heads_all a ha ((s + k * 7) % 26) (Nat.mod_lt _ (by decide)) b hb
  unfold headB at z
  rw [Bool.and_eq_true, Bool.and_eq_true] at z
  obtain ⟨z1, z2, _⟩ := z
  refine ⟨nameB_ok z1, ?_⟩
  cases e : (headS a ((s + k * 7) % 26) b).cps[0]? with
  | none => rw [e] at z2; cases z2
  | some c => rw [e] at z2; exact ⟨c, rfl, z2⟩
theorem shift_inj {s i j : Nat} (hi : i < 26) (hj : j < 26) (h : (s + i * 7) % 26 = (s + j * 7) % 26) : i = j := by omega
theorem HeadsOk.nd {n : Nat} {hs : List Str} (ok : HeadsOk n hs) (h26 : n ≤ 26) : hs.Nodup := by
  obtain ⟨a, s, ha, hs', hall⟩ := ok.ex
  have len := ok.len
  refine List.pairwise_iff_getElem.mpr fun i j hi hj lt e => ?_
  obtain ⟨b, hb, e1⟩ := hall i _ (List.getElem?_eq_getElem hi)
  obtain ⟨b', hb', e2⟩ := hall j _ (List.getElem?_eq_getElem hj)
  have z1 := heads_all a ha ((s + i * 7) % 26) (Nat.mod_lt _ (by decide)) b hb
  have z2 := heads_all a ha ((s + j * 7) % 26) (Nat.mod_lt _ (by decide)) b' hb'
  unfold headB at z1 z2
  rw [Bool.and_eq_true, Bool.and_eq_true] at z1 z2
  have f1 := of_decide_eq_true z1.2.2
  have f2 := of_decide_eq_true z2.2.2
  rw [← e1, e, e2, f2] at f1
  have := Option.some.inj f1
  have := shift_inj (s := s) (i := i) (j := j) (by omega) (by omega) (by omega)
  omega
theorem HeadsOk.low {n : Nat} {hs : List Str} (ok : HeadsOk n hs) : ∀ h ∈ hs, NameOk (lowOf h) ∧ ∃ c, (lowOf h).cps[0]? = some c ∧ lowC c = true := fun h hh => by
  obtain ⟨a, s, ha, hs', hall⟩ := ok.ex
  obtain ⟨k, hk⟩ := List.getElem?_of_mem hh
  obtain ⟨b, hb, rfl⟩ := hall k h hk
  have z := lows_all a ha ((s + k * 7) % 26) (Nat.mod_lt _ (by decide)) b hb
  unfold lowB at z
  rw [Bool.and_eq_true, Bool.and_eq_true] at z
  obtain ⟨z1, z2, _⟩ := z
  refine ⟨nameB_ok z1, ?_⟩
  cases e : (lowOf (headS a ((s + k * 7) % 26) b)).cps[0]? with
  | none => rw [e] at z2; cases z2
  | some c => rw [e] at z2; exact ⟨c, rfl, z2⟩
theorem HeadsOk.lnd {n : Nat} {hs : List Str} (ok : HeadsOk n hs) (h26 : n ≤ 26) : (hs.map lowOf).Nodup := by
  obtain ⟨a, s, ha, hs', hall⟩ := ok.ex
  have len := ok.len
  refine List.pairwise_iff_getElem.mpr fun i j hi hj lt e => ?_
  rw [List.getElem_map, List.getElem_map] at e
  rw [List.length_map] at hi hj
  obtain ⟨b, hb, e1⟩ := hall i _ (List.getElem?_eq_getElem hi)
  obtain ⟨b', hb', e2⟩ := hall j _ (List.getElem?_eq_getElem hj)
  have z1 := lows_all a ha ((s + i * 7) % 26) (Nat.mod_lt _ (by decide)) b hb
  have z2 := lows_all a ha ((s + j * 7) % 26) (Nat.mod_lt _ (by decide)) b' hb'
  unfold lowB at z1 z2
  rw [Bool.and_eq_true, Bool.and_eq_true] at z1 z2
  have f1 := of_decide_eq_true z1.2.2
  have f2 := of_decide_eq_true z2.2.2
  rw [← e1, e, e2, f2] at f1
  have := Option.some.inj f1
  have := shift_inj (s := s) (i := i) (j := j) (by omega) (by omega) (by omega)
  omega
theorem HeadsOk.snoc {n : Nat} {hs : List Str} {a s b : Nat} (len : hs.length = n) (hall : ∀ (k : Nat) h, hs[k]? = some h → ∃ b, b < 6 ∧ h = headS a ((s + k * 7) % 26) b) (hb : b < 6) : ∀ (k : Nat) h, (hs ++ [headS a ((s + n * 7) % 26) b])[k]? = some h → ∃ b, b < 6 ∧ h = headS a ((s + k * 7) % 26) b := fun k h hk => by
  by_cases hlt : k < hs.length
  · rw [List.getElem?_append_left hlt] at hk
    exact hall k h hk
  · rw [List.getElem?_append_right (by omega)] at hk
    have hk0 : k - hs.length = 0 := by
      by_cases h0 : k - hs.length = 0
      · exact h0
      · rw [List.getElem?_eq_none (by rw [List.length_singleton]; omega)] at hk; cases hk
    rw [hk0] at hk
    have e : k = n := by omega
    rw [e]
    exact ⟨b, hb, (Option.some.inj hk).symm⟩
theorem app_len (x y : Str) : (x ++ y).length = x.length + y.length := Array.size_append
theorem alen_le : ∀ a < 4, (aheads.getD a noS).length ≤ 3 := by decide +kernel
theorem blen_le : ∀ b < 6, (behinds.getD b noS).length ≤ 4 := by decide +kernel
theorem highs_at : ∀ t < 26, highs.cps.toList[t]? = some (65 + t) := by decide +kernel
theorem aheads_at : ∀ a < 4, (aheads.map V.str)[a]? = some (.str (aheads.getD a noS)) := fun a ha => by
  rw [List.getElem?_map, List.getD_eq_getElem?_getD, List.getElem?_eq_getElem (show a < aheads.length from ha)]; rfl
theorem behinds_at : ∀ a < 6, (behinds.map V.str)[a]? = some (.str (behinds.getD a noS)) := fun a ha => by
  rw [List.getElem?_map, List.getD_eq_getElem?_getD, List.getElem?_eq_getElem (show a < behinds.length from ha)]; rfl
section
variable {P : Program} {w : World} {K : PySem.W.Frag} {mg : Str → Option Value} {base : Heap}
abbrev s__law_heads : Stmt := topS 70
theorem sc__law_heads : FnScope ["well", "many", "ahead", "behind", "shift", "letters", "found", "k"] ["well", "many"] (defScope s__law_heads) := ⟨rfl, rfl, rfl, by decide +kernel, rfl, by decide +kernel, by decide +kernel⟩
def sp_heads : Sp := fun vs H Q _ => ∃ (c : Addr) (n : Nat), vs = [.ref c, .int (n : Nat)] ∧ Well H c ∧ n ≤ 100 ∧ ∀ D hs H', Well H' c → But c H H' → H D = none → H' D = some (.lst (hs.map V.str)) → HeadsOk n hs → Q (.ref D) H'
set_option maxHeartbeats 1000000 in
theorem ok__law_heads {f : Addr} {fd : FuncData} {k : Nat} (F : Fun K "_law_heads" "_law_heads" s__law_heads f fd) (T : Tx K mg){k1 : Nat} (D__law_sip : Def P w K mg base k1 "_law_sip" s__law_sip ["well", "many"] sp_sip) (e1 : k1 ≤ k) : FnOk P w K mg base CX0 (k + 1) f fd ["well", "many"] sp_heads := by
  have nd := sc__law_heads.nd
  refine F.ok sc__law_heads (fun vs H Q E h => ?_) (fun cdv A outer s H vs Q E hr h => ?_)
  · obtain ⟨_, _, rfl, _⟩ := h
    rfl
  · obtain ⟨c, n, rfl, u, few, q⟩ := h
    refine ⟨_, (pss_cons (ps_set (i := 2) nd rfl (.inl rfl) (pe_ix (kix_list K) (pe_lst (pa_cons pe_str (pa_cons pe_str (pa_cons pe_str (pa_cons pe_str pa_nil))))) (pe_def D__law_sip (hr.mono (by omega)) rfl (pa_cons (pv 0) (pa_cons pe_int pa_nil))) (fun _ _ => rfl)))
      (pss_cons (ps_set (i := 3) nd rfl (.inl rfl) (pe_lst (pa_cons pe_str (pa_cons pe_str (pa_cons pe_str (pa_cons pe_str (pa_cons pe_str (pa_cons pe_str pa_nil))))))))
      (pss_cons (ps_set (i := 4) nd rfl (.inl rfl) (pe_def D__law_sip (hr.mono (by omega)) rfl (pa_cons (pv 0) (pa_cons pe_int pa_nil))))
      (pss_cons (ps_set (i := 5) nd rfl (.inl rfl) pe_str)
      (pss_cons (ps_set (i := 6) nd rfl (.inl rfl) (pe_lst pa_nil))
      (pss_cons (ps_for PassesOwn.never rfl (pi_range1 rfl T.m_range (pa_cons (pv 1) pa_nil)) (pg_name (i := 7) nd rfl (.inl rfl))
        (pss_one (ps_expr (pe_bm PySem.F.plainAttrs_list PySem.F.slot_list_append PySem.F.type_list_append mt_append (pv 6) (pa_cons (pe_op op_add_str (pe_op op_add_str (pv 2) (pe_ix ix_str (pv 5) (pe_op op_modN (pe_callTy call_int1 (by rfl) T.m_int (by decide +kernel) (pa_cons (pe_op op_add (pv 4) (pe_op op_mulW (pv 7) pe_int)) pa_nil)) pe_int) (fun _ _ => rfl))) (pe_ix (kix_list K) (pv 3) (pe_def D__law_sip (hr.mono (by omega)) rfl (pa_cons (pv 0) (pa_cons pe_int pa_nil))) (fun _ _ => rfl))) pa_nil)))))
      (pss_one (ps_ret (pv 6))))))))), ?_⟩
    refine ⟨by show 4 ≤ sizeLine; decide, fun L hL => ?_⟩
    refine ⟨.ref c, rfl, c, 4, rfl, u.same (same_new hL), by decide, by decide, fun d1 H1 d0 d4 u1 b1 => ?_⟩
    have eL := b1 L _ (u.ne hL) upd_same
    obtain ⟨a, rfl⟩ := Int.eq_ofNat_of_zero_le d0
    have a4 : a < 4 := by omega
    have B1 : But c H H1 := (but_same (same_new hL)).trans b1
    refine ⟨L, aheads.map V.str, _, _, rfl, rfl, .of eL, atI_nat (aheads_at a a4), by show 6 ≤ sizeLine; decide, fun B hB => ?_⟩
    have nBc := u1.ne hB
    refine ⟨.ref c, rfl, c, 26, rfl, u1.same (same_new hB), by decide, by decide, fun d2 H2 d20 d26 u2 b2 => ?_⟩
    have eB := b2 B _ nBc upd_same
    obtain ⟨s, rfl⟩ := Int.eq_ofNat_of_zero_le d20
    have s26 : s < 26 := by omega
    have B2 : But c H H2 := (B1.trans (but_same (same_new hB))).trans b2
    refine ⟨by show 0 ≤ sizeLine; decide, fun F0 hF => ?_⟩
    have hF0 : H F0 = none := B2.free u2 hF
    have nFc := u2.ne hF
    have u3 : Well (upd H2 F0 (.lst [])) c := u2.same (same_new hF)
    have eB3 := same_new (o := .lst []) hF _ _ eB
    have nBF : B ≠ F0 := ne_of_none eB hF
    refine ⟨.int (n : Nat), rfl, (n : Nat), rfl, by omega, by omega, ?_⟩
    refine for_it (walk_range (lo := 0) (n := (n : Int).toNat)) (fun i σ Ha => ∃ (y7 : Option V) (hs : List Str), σ = [some (.ref c), some (.int (n : Nat)), some (.str (aheads.getD a noS)), some (.ref B), some (.int (s : Nat)), some (.str highs), some (.ref F0), y7] ∧ Well Ha c ∧ But c H Ha ∧ Ha B = some (.lst (behinds.map V.str)) ∧ Ha F0 = some (.lst (hs.map V.str)) ∧ hs.length = i ∧ ∀ (k : Nat) h, hs[k]? = some h → ∃ b, b < 6 ∧ h = headS a ((s + k * 7) % 26) b) ⟨_, [], rfl, u3, B2.trans (but_same (same_new hF)), eB3, upd_same, rfl, fun k h hk => by simp at hk⟩ (fun _ _ _ _ _ => trivial) ?_ ?_
    · rintro i x σ Ha Hb hi ⟨y7, hs, rfl, ua, ba, eBa, eFa, len, hall⟩ ⟨rfl, rfl⟩
      rw [Int.toNat_natCast] at hi
      have em : ((s : Nat) + (0 + (i : Nat)) * 7 : Int).fmod 26 = (((s + i * 7) % 26 : Nat) : Int) := by
        rw [Int.fmod_eq_emod_of_nonneg _ (by decide)]
        omega
      have t26 : (s + i * 7) % 26 < 26 := Nat.mod_lt _ (by decide)
      have al := alen_le a a4
      refine ⟨.ref F0, rfl, .inl ⟨rfl, _, .of eFa⟩, .str (aheads.getD a noS), rfl, .str highs, rfl, .int (s : Nat), rfl, .int (0 + (i : Nat)), rfl, _, _, rfl, rfl, wide_mul (a := 30) (b := 3) (by omega) (by decide) (by decide) (by decide) (by decide), _, _, rfl, rfl, .inl ⟨_, rfl, _, _, rfl, rfl, (by show (26 : Int) ≠ 0; decide), highs, _, 65 + (s + i * 7) % 26, rfl, rfl, (by decide +kernel), ?_, _, _, rfl, rfl, ?_, ?_⟩⟩
      · rw [em]
        exact atI_nat (highs_at _ t26)
      · exact Nat.le_trans (show _ + 1 ≤ 1000 by omega) (by decide)
      refine ⟨.ref B, rfl, .ref c, rfl, c, 6, rfl, ua, by decide, by decide, fun d5 H5 d50 d56 u5 b5 => ?_⟩
      obtain ⟨b, rfl⟩ := Int.eq_ofNat_of_zero_le d50
      have b6 : b < 6 := by omega
      have bl := blen_le b b6
      have eF5 := b5 _ _ nFc eFa
      refine ⟨B, _, _, _, rfl, rfl, .of (b5 _ _ nBc eBa), atI_nat (behinds_at b b6), _, _, rfl, rfl, ?_, F0, _, _, rfl, rfl, eF5, small1000 (by rw [List.length_map]; omega), ?_⟩
      · refine Nat.le_trans (show _ ≤ 1000 from ?_) (by decide)
        rw [app_len]
        have : (letterS ((s + i * 7) % 26)).length = 1 := rfl
        show (aheads.getD a noS).length + (letterS ((s + i * 7) % 26)).length + _ ≤ 1000
        omega
      · refine ⟨_, hs ++ [headS a ((s + i * 7) % 26) b], rfl, u5.upd nFc, fun x o nx e => ?_, ?_, ?_, ?_, ?_⟩
        · rw [upd_ne (ne_of_none e hF0)]; exact b5 _ _ nx (ba _ _ nx e)
        · rw [upd_ne nBF]; exact b5 _ _ nBc eBa
        · rw [upd_same, List.map_append]; rfl
        · rw [List.length_append, List.length_singleton]; omega
        · have := HeadsOk.snoc (n := i) (b := b) len hall b6
          exact this
    · rintro σ Ha ⟨y7, hs, rfl, ua, ba, eBa, eFa, len, hall⟩
      exact ⟨.ref F0, rfl, q F0 hs _ ua ba hF0 eFa ⟨by rw [len]; exact Int.toNat_natCast n, a, s, a4, s26, hall⟩⟩
end
end K63

set_option Elab.async false
set_option linter.all false
set_option maxRecDepth 100000
set_option exponentiation.threshold 20000
set_option pp.deepTerms false
set_option pp.deepTerms.threshold 8
namespace K63
open PySem PySem.Spec PyProof.Rows L2 Ly Mt
theorem ImAll.rev {K : PySem.W.Frag} {H : Hp} : ∀ {xs : List V} {ds : List PyData}, ImAll K H xs ds → ImAll K H xs.reverse ds.reverse
  | _, _, .nil => .nil
  | _, _, .cons a r => by
    rw [List.reverse_cons, List.reverse_cons]
    exact (ImAll.rev r).snoc a
/-- a loop over range(a if c else b) -/
theorem for_ifK {tA : TT} {ta tb : TE} {g : TG} {body rest : TS} {D : Ends} {σ : L2.St} {H : Hp} (Pn : Nat → Hp → Prop) (key : ∀ Q : VK, (∀ (n : Nat) H', Pn n H' → Q (.int (n : Nat)) H') → tIf tA ta tb σ H Q)
    (fin : ∀ (n : Nat) H', Pn n H' → tSeq (tFor (iRng1 (tCons (tC (.int (n : Nat))) tNil)) g body) rest D σ H') : tSeq (tFor (iRng1 (tCons (tIf tA ta tb) tNil)) g body) rest D σ H :=
  key _ fun n H' p => fin n H' p
/-- kinds as the law draws them -/
structure Drawn (hs1 hs2 : List Str) (i : Nat) (ks : List Kd) : Prop where
  len : ks.length = i
  nm : ks.map (·.1) = hs1.take i
  nd : ((allMk ks).map (·.1)).Nodup
  at_ : ∀ m ∈ allMk ks, ∃ t, t < i * 3 ∧ hs2[t]? = some m.1
  mks : ∀ k ∈ ks, 1 ≤ k.2.length ∧ k.2.length ≤ 3
  flds : ∀ k ∈ ks, ∀ m ∈ k.2, m.2.length ≤ 3 ∧ ∀ f ∈ m.2, f = "number" ∨ f ∈ hs1
structure Small (ks : List Kd) : Prop where
  few : ks.length ≤ 3
  mks : ∀ k ∈ ks, k.2.length ≤ 3
  flds : ∀ k ∈ ks, ∀ m ∈ k.2, m.2.length ≤ 3
theorem mk_nodup {hs : List Str} (nd : hs.Nodup) {mks : List Mk} {a : Nat} (h : ∀ (t : Nat) m, mks[t]? = some m → hs[a + t]? = some m.1) : (mks.map (·.1)).Nodup := by
  refine List.pairwise_iff_getElem.mpr fun i j hi hj lt e => ?_
  rw [List.length_map] at hi hj
  rw [List.getElem_map, List.getElem_map] at e
  have h1 := h i _ (List.getElem?_eq_getElem hi)
  have h2 := h j _ (List.getElem?_eq_getElem hj)
  rw [e] at h1
  have := (List.getElem?_inj (List.getElem?_eq_some_iff.mp h1).1 nd).mp (h1.trans h2.symm)
  omega
theorem Drawn.snoc {hs1 hs2 : List Str} {i : Nat} {ks : List Kd} (d : Drawn hs1 hs2 i ks) (nd2 : hs2.Nodup) {h : Str} (hh : hs1[i]? = some h) {mks : List Mk} (l1 : 1 ≤ mks.length) (l3 : mks.length ≤ 3) (hn : (mks.map (·.1)).Nodup) (hat : ∀ m ∈ mks, ∃ t, t < 3 ∧ hs2[i * 3 + t]? = some m.1)
    (hf : ∀ m ∈ mks, m.2.length ≤ 3 ∧ ∀ f ∈ m.2, f = "number" ∨ f ∈ hs1) : Drawn hs1 hs2 (i + 1) (ks ++ [(h, mks)]) := by
  have ea : allMk (ks ++ [(h, mks)]) = allMk ks ++ mks := by
    unfold allMk
    rw [List.flatMap_append, List.flatMap_cons, List.flatMap_nil, List.append_nil]
  refine ⟨?_, ?_, ?_, fun m hm => ?_, fun k hk => ?_, fun k hk => ?_⟩
  · rw [List.length_append, d.len]; rfl
  · rw [List.map_append, d.nm, List.take_add_one, hh]; rfl
  · rw [ea, List.map_append]
    refine List.nodup_append.mpr ⟨d.nd, hn, fun a ha b hb e => ?_⟩
    obtain ⟨m1, hm1, rfl⟩ := List.mem_map.mp ha
    obtain ⟨m2, hm2, rfl⟩ := List.mem_map.mp hb
    obtain ⟨t1, ht1, e1⟩ := d.at_ m1 hm1
    obtain ⟨t2, ht2, e2⟩ := hat m2 hm2
    rw [e] at e1
    have := (List.getElem?_inj (List.getElem?_eq_some_iff.mp e1).1 nd2).mp (e1.trans e2.symm)
    omega
  · rw [ea, List.mem_append] at hm
    rcases hm with hm | hm
    · obtain ⟨t, ht, e⟩ := d.at_ m hm
      exact ⟨t, by omega, e⟩
    · obtain ⟨t, ht, e⟩ := hat m hm
      exact ⟨_, by omega, e⟩
  · rw [List.mem_append, List.mem_singleton] at hk
    rcases hk with hk | rfl
    · exact d.mks k hk
    · exact ⟨l1, l3⟩
  · rw [List.mem_append, List.mem_singleton] at hk
    rcases hk with hk | rfl
    · exact d.flds k hk
    · exact hf
theorem Drawn.ok {hs1 hs2 : List Str} {n : Nat} {ks : List Kd} (d : Drawn hs1 hs2 n ks) (h1 : HeadsOk n hs1) (h2 : HeadsOk (n * 3) hs2) (n1 : 1 ≤ n) (n3 : n ≤ 3) : KindsOk ks ∧ Small ks := by
  have len := d.len
  have nm := d.nm
  have l1 := h1.len
  rw [List.take_of_length_le (by omega)] at nm
  refine ⟨⟨by omega, fun k hk => ?_, fun k hk => ?_, fun k hk m hm => ⟨?_, ?_⟩, ?_, d.nd, fun k hk m hm f hf => ?_⟩, ⟨by omega, fun k hk => (d.mks k hk).2, fun k hk m hm => (d.flds k hk m hm).1⟩⟩
  · refine h1.high _ ?_
    rw [← nm]
    exact List.mem_map.mpr ⟨k, hk, rfl⟩
  · have := d.mks k hk
    omega
  · obtain ⟨t, _, e⟩ := d.at_ m (List.mem_flatMap.mpr ⟨k, hk, hm⟩)
    exact h2.high _ (List.mem_of_getElem? e)
  · have := (d.flds k hk m hm).1
    omega
  · rw [nm]; exact h1.nd (by omega)
  · rw [nm]; exact (d.flds k hk m hm).2 f hf
section
variable {P : Program} {w : World} {K : PySem.W.Frag} {mg : Str → Option Value} {base : Heap}
abbrev s__law_kinds : Stmt := topS 71
theorem sc__law_kinds : FnScope ["well", "top", "wide", "numbers", "many", "heads", "tails", "kinds", "k", "makers", "m", "fields", "f", "at"] ["well", "top", "wide", "numbers"] (defScope s__law_kinds) := ⟨rfl, rfl, rfl, by decide +kernel, rfl, by decide +kernel, by decide +kernel⟩
def sp_kinds (K : PySem.W.Frag) : Sp := fun vs H Q _ => ∃ (c : Addr), vs = [.ref c, .int 3, .int 3, .int 1] ∧ Well H c ∧ ∀ p ks H', Well H' c → But c H H' → KindsOk ks → Small ks → Im K H' (.ref p) (ksD ks) → Q (.ref p) H'
set_option maxHeartbeats 2000000 in
theorem ok__law_kinds {f : Addr} {fd : FuncData} {k : Nat} (F : Fun K "_law_kinds" "_law_kinds" s__law_kinds f fd) (T : Tx K mg){k1 : Nat} (D__law_sip : Def P w K mg base k1 "_law_sip" s__law_sip ["well", "many"] sp_sip) {k2 : Nat} (D__law_heads : Def P w K mg base k2 "_law_heads" s__law_heads ["well", "many"] sp_heads) (e1 : k1 ≤ k) (e2 : k2 ≤ k) : FnOk P w K mg base CX0 (k + 1) f fd ["well", "top", "wide", "numbers"] (sp_kinds K) := by
  have nd := sc__law_kinds.nd
  refine F.ok sc__law_kinds (fun vs H Q E h => ?_) (fun cdv A outer s H vs Q E hr h => ?_)
  · obtain ⟨_, rfl, _⟩ := h
    rfl
  · obtain ⟨c, rfl, u, q⟩ := h
    refine ⟨_, (pss_cons (ps_set (i := 4) nd rfl (.inl rfl) (pe_op op_add pe_int (pe_def D__law_sip (hr.mono (by omega)) rfl (pa_cons (pv 0) (pa_cons (pv 1) pa_nil)))))
      (pss_cons (ps_par (i := 5) (j := 6) (by rfl) nd rfl rfl (by decide) rfl rfl (pa_cons (pe_def D__law_heads (hr.mono (by omega)) rfl (pa_cons (pv 0) (pa_cons (pv 4) pa_nil))) (pa_cons (pe_def D__law_heads (hr.mono (by omega)) rfl (pa_cons (pv 0) (pa_cons (pe_op op_mulW (pv 4) pe_int) pa_nil))) pa_nil)) (by rfl))
      (pss_cons (ps_set (i := 7) nd rfl (.inl rfl) (pe_lst pa_nil))
      (pss_cons (ps_for PassesOwn.never rfl (pi_range1 rfl T.m_range (pa_cons (pv 4) pa_nil)) (pg_name (i := 8) nd rfl (.inl rfl))
        (pss_cons (ps_set (i := 9) nd rfl (.inl rfl) (pe_lst pa_nil))
        (pss_cons (ps_for PassesOwn.never rfl (pi_range1 rfl T.m_range (pa_cons (pe_ix (kix_list K) (pe_lst (pa_cons pe_int (pa_cons pe_int (pa_cons pe_int (pa_cons pe_int pa_nil))))) (pe_def D__law_sip (hr.mono (by omega)) rfl (pa_cons (pv 0) (pa_cons pe_int pa_nil))) (fun _ _ => rfl)) pa_nil)) (pg_name (i := 10) nd rfl (.inl rfl))
          (pss_cons (ps_set (i := 11) nd rfl (.inl rfl) (pe_lst pa_nil))
          (pss_cons (ps_for PassesOwn.never rfl (pi_range1 rfl T.m_range (pa_cons (pe_ifExp (PW.pt (pw_and (pt_cmpR op_eq (pv 10) pe_int (nomark _)) (pw_and1 (pt_cmpR op_gt (pe_def D__law_sip (hr.mono (by omega)) rfl (pa_cons (pv 0) (pa_cons pe_int pa_nil))) pe_int (nomark _))))) pe_int (pe_def D__law_sip (hr.mono (by omega)) rfl (pa_cons (pv 0) (pa_cons (pe_op op_add (pv 2) pe_int) pa_nil)))) pa_nil)) (pg_name (i := 12) nd rfl (.inl rfl))
            (pss_cons (ps_set (i := 13) nd rfl (.inl rfl) (pe_def D__law_sip (hr.mono (by omega)) rfl (pa_cons (pv 0) (pa_cons (pe_op op_add (pv 4) (pv 3)) pa_nil))))
            (pss_one (ps_expr (pe_bm PySem.F.plainAttrs_list PySem.F.slot_list_append PySem.F.type_list_append mt_append (pv 11) (pa_cons (pe_ifExp (pt_cmpR op_lt (pv 13) (pv 4) (nomark _)) (pe_ix (kix_list K) (pv 5) (pv 13) (fun _ _ => rfl)) pe_str) pa_nil))))))
          (pss_one (ps_expr (pe_bm PySem.F.plainAttrs_list PySem.F.slot_list_append PySem.F.type_list_append mt_append (pv 9) (pa_cons (pe_tup (pa_cons (pe_ix (kix_list K) (pv 6) (pe_op op_add (pe_op op_mulW (pv 8) pe_int) (pv 10)) (fun _ _ => rfl)) (pa_cons (pe_callTy (kcall_tuple K) (by rfl) T.m_tuple (by decide +kernel) (pa_cons (pv 11) pa_nil)) pa_nil))) pa_nil)))))))
        (C8.pss_cut (ps_if (pt_cmpR op_eq (pe_def D__law_sip (hr.mono (by omega)) rfl (pa_cons (pv 0) (pa_cons pe_int pa_nil))) pe_int (nomark _))
          (pss_one (ps_expr (pe_bm0 PySem.F.plainAttrs_list PySem.F.slot_list_reverse PySem.F.type_list_reverse mt_reverse (pv 9) )))
          pss_nil)
        (pss_one (ps_expr (pe_bm PySem.F.plainAttrs_list PySem.F.slot_list_append PySem.F.type_list_append mt_append (pv 7) (pa_cons (pe_tup (pa_cons (pe_ix (kix_list K) (pv 5) (pv 8) (fun _ _ => rfl)) (pa_cons (pe_callTy (kcall_tuple K) (by rfl) T.m_tuple (by decide +kernel) (pa_cons (pv 9) pa_nil)) pa_nil))) pa_nil))))))))
      (pss_one (ps_ret (pe_callTy (kcall_tuple K) (by rfl) T.m_tuple (by decide +kernel) (pa_cons (pv 7) pa_nil)))))))), ?_⟩
    refine ⟨.ref c, rfl, .int 3, rfl, c, 3, rfl, u, by decide, by decide, fun d1 H1 d0 d3 u1 b1 => ?_⟩
    obtain ⟨n0, rfl⟩ := Int.eq_ofNat_of_zero_le d0
    obtain ⟨n, hn⟩ : ∃ n, n = 1 + n0 := ⟨_, rfl⟩
    have en : (1 : Int) + (n0 : Int) = (n : Nat) := by omega
    refine ⟨_, _, rfl, rfl, ?_⟩
    show gName 4 (V.int ((1 : Int) + (n0 : Int))) _ _ _
    rw [en]
    have n1 : 1 ≤ n := by omega
    have n3 : n ≤ 3 := by omega
    refine ⟨.ref c, rfl, .int (n : Nat), rfl, c, n, rfl, u1, by omega, fun D1 hs1 H2 u2 b2 hD1 eD1 ok1 => ?_⟩
    refine ⟨.ref c, rfl, .int (n : Nat), rfl, _, _, rfl, rfl, wide_mul (a := 3) (b := 3) (by omega) (by decide) (by decide) (by decide) (by decide), c, n * 3, by rw [show ((n * 3 : Nat) : Int) = (n : Int) * 3 by omega]; rfl, u2, by omega, fun D2 hs2 H3 u3 b3 hD2 eD2 ok2 => ?_⟩
    have nD1 : D1 ≠ c := u1.ne hD1
    have eD1' := b3 _ _ nD1 eD1
    have nD2 : D2 ≠ c := u2.ne hD2
    refine ⟨_, _, rfl, ?_⟩
    refine ⟨by show 0 ≤ sizeLine; decide, fun KL hKL => ?_⟩
    have B3 : But c H H3 := (b1.trans b2).trans b3
    have nd1 := ok1.nd (by omega)
    have nd2 := ok2.nd (by omega)
    have l1 := ok1.len
    have l2 := ok2.len
    have nKc := u3.ne hKL
    have hKL0 : H KL = none := B3.free u3 hKL
    refine ⟨.int (n : Nat), rfl, (n : Nat), rfl, by omega, by omega, ?_⟩
    refine for_it (walk_range (lo := 0) (n := (n : Int).toNat)) (fun i σ Ha => ∃ (y8 y9 y10 y11 y12 y13 : Option V) (ws : List V) (ks : List Kd), σ = [some (.ref c), some (.int 3), some (.int 3), some (.int 1), some (.int (n : Nat)), some (.ref D1), some (.ref D2), some (.ref KL), y8, y9, y10, y11, y12, y13] ∧ Well Ha c ∧ But c H3 Ha ∧ Ha KL = some (.lst ws) ∧ ImAll K Ha ws (ks.map kdD) ∧ Drawn hs1 hs2 i ks) ⟨_, _, _, _, _, _, [], [], rfl, u3.same (same_new hKL), but_same (same_new hKL), upd_same, .nil, ⟨rfl, rfl, .nil, fun m hm => by simp [allMk] at hm, fun k hk => by simp at hk, fun k hk => by simp at hk⟩⟩ (fun _ _ _ _ _ => trivial) ?_ ?_
    · rintro i x σ Ha Hb hi ⟨y8, y9, y10, y11, y12, y13, ws, ks, rfl, ua, ba, eKL, im, dr⟩ ⟨rfl, rfl⟩
      rw [Int.toNat_natCast] at hi
      have ei : (0 : Int) + (i : Nat) = (i : Nat) := by omega
      show gName 8 (V.int ((0 : Int) + (i : Nat))) _ _ _
      rw [ei]
      refine ⟨by show 0 ≤ sizeLine; decide, fun ML hML => ⟨by show 4 ≤ sizeLine; decide, fun CL hCL => ?_⟩⟩
      have sML := same_new (o := .lst []) hML
      have eML : (upd Hb ML (.lst [])) ML = some (.lst []) := upd_same
      have uM := ua.same sML
      have nMc := ua.ne hML
      have hML0 : H3 ML = none := ba.free ua hML
      have nKM : KL ≠ ML := ne_of_none eKL hML
      generalize upd Hb ML (.lst []) = H4 at *
      refine ⟨.ref c, rfl, c, 4, rfl, uM.same (same_new hCL), by decide, by decide, fun d5 H5 d50 d54 u5 b5 => ?_⟩
      have eCL := b5 _ _ (uM.ne hCL) upd_same
      have B5 : But c H4 H5 := (but_same (same_new hCL)).trans b5
      obtain ⟨cm, hcm, ecm⟩ : ∃ cm : Nat, (1 ≤ cm ∧ cm ≤ 3) ∧ atI [V.int 2, V.int 3, V.int 2, V.int 1] d5 = some (V.int (cm : Nat)) := by
        obtain ⟨z, rfl⟩ := Int.eq_ofNat_of_zero_le d50
        have h : z = 0 ∨ z = 1 ∨ z = 2 ∨ z = 3 := by omega
        rcases h with rfl | rfl | rfl | rfl
        · exact ⟨2, by decide, rfl⟩
        · exact ⟨3, by decide, rfl⟩
        · exact ⟨2, by decide, rfl⟩
        · exact ⟨1, by decide, rfl⟩
      refine ⟨CL, _, d5, .int (cm : Nat), rfl, rfl, .of eCL, ecm, (cm : Nat), rfl, by omega, by omega, ?_⟩
      have BA5 : But c Hb H5 := (but_same sML).trans B5
      refine for_it (walk_range (lo := 0) (n := (cm : Int).toNat)) (fun j σ Hc => ∃ (y10 y11 y12 y13 : Option V) (vs : List V) (mks : List Mk), σ = [some (.ref c), some (.int 3), some (.int 3), some (.int 1), some (.int (n : Nat)), some (.ref D1), some (.ref D2), some (.ref KL), some (.int (i : Nat)), some (.ref ML), y10, y11, y12, y13] ∧ Well Hc c ∧ But c Hb Hc ∧ Hc ML = some (.lst vs) ∧ ImAll K Hc vs (mks.map mkD) ∧ mks.length = j ∧ (∀ (t : Nat) m, mks[t]? = some m → hs2[i * 3 + t]? = some m.1) ∧ ∀ m ∈ mks, m.2.length ≤ 3 ∧ ∀ f ∈ m.2, f = "number" ∨ f ∈ hs1) ⟨_, _, _, _, [], [], rfl, u5, BA5, B5 _ _ nMc eML, .nil, rfl, fun t m h => by simp at h, fun m h => by simp at h⟩ (fun _ _ _ _ _ => trivial) ?_ ?_
      · rintro j x σ Hc Hd hj ⟨y10, y11, y12, y13, vs, mks, rfl, uc, bc, eMc, imM, lenM, hatM, hfM⟩ ⟨rfl, rfl⟩
        rw [Int.toNat_natCast] at hj
        have ej : (0 : Int) + (j : Nat) = (j : Nat) := by omega
        show gName 10 (V.int ((0 : Int) + (j : Nat))) _ _ _
        rw [ej]
        refine ⟨by show 0 ≤ sizeLine; decide, fun FL hFL => ?_⟩
        have sFL := same_new (o := .lst []) hFL
        have eFL : (upd Hd FL (.lst [])) FL = some (.lst []) := upd_same
        have uF := uc.same sFL
        have nFc := uc.ne hFL
        have hFLb : Hb FL = none := bc.free uc hFL
        have nMF : ML ≠ FL := ne_of_none eMc hFL
        generalize upd Hd FL (.lst []) = H6 at *
        dsimp only [gName]
        refine for_ifK (fun cnt H' => cnt ≤ 3 ∧ Well H' c ∧ But c H6 H') ?_ ?_
        rotate_left
        · rintro cnt H7 ⟨c3, u7, b7⟩
          refine ⟨(cnt : Nat), rfl, by omega, by omega, ?_⟩
          refine for_it (walk_range (lo := 0) (n := (cnt : Int).toNat)) (fun t σ Hx => ∃ (y12 y13 : Option V) (fs : List Str), σ = [some (.ref c), some (.int 3), some (.int 3), some (.int 1), some (.int (n : Nat)), some (.ref D1), some (.ref D2), some (.ref KL), some (.int (i : Nat)), some (.ref ML), some (.int (j : Nat)), some (.ref FL), y12, y13] ∧ Well Hx c ∧ But c Hd Hx ∧ Hx FL = some (.lst (fs.map V.str)) ∧ fs.length = t ∧ ∀ f ∈ fs, f = "number" ∨ f ∈ hs1) ⟨_, _, [], rfl, u7, (but_same sFL).trans b7, b7 _ _ nFc eFL, rfl, fun f h => by simp at h⟩ (fun _ _ _ _ _ => trivial) ?_ ?_
          · rintro t x σ Hx Hy ht ⟨y12, y13, fs, rfl, ux, bx, eFx, lenF, hfF⟩ ⟨rfl, rfl⟩
            rw [Int.toNat_natCast] at ht
            refine ⟨.ref c, rfl, .int (n : Nat), rfl, .int 1, rfl, _, _, rfl, rfl, c, (n : Int) + 1, rfl, ux, by omega, by omega, fun d8 H8 d80 d81 u8 b8 => ?_⟩
            obtain ⟨at', rfl⟩ := Int.eq_ofNat_of_zero_le d80
            have fin : ∀ f : Str, (f = "number" ∨ f ∈ hs1) → ∃ l xs v, V.ref FL = .ref l ∧ [V.str f] = [v] ∧ H8 l = some (.lst xs) ∧ xs.length < sizeLine ∧ (∃ (y12 y13' : Option V) (fs : List Str), [some (V.ref c), some (.int 3), some (.int 3), some (.int 1), some (.int (n : Nat)), some (.ref D1), some (.ref D2), some (.ref KL), some (.int (i : Nat)), some (.ref ML), some (.int (j : Nat)), some (.ref FL), some (.int (0 + (t : Nat))), some (.int (at' : Nat))] = [some (.ref c), some (.int 3), some (.int 3), some (.int 1), some (.int (n : Nat)), some (.ref D1), some (.ref D2), some (.ref KL), some (.int (i : Nat)), some (.ref ML), some (.int (j : Nat)), some (.ref FL), y12, y13'] ∧ Well (upd H8 l (.lst (xs ++ [v]))) c ∧ But c Hd (upd H8 l (.lst (xs ++ [v]))) ∧ (upd H8 l (.lst (xs ++ [v]))) FL = some (.lst (fs.map V.str)) ∧ fs.length = t + 1 ∧ ∀ f ∈ fs, f = "number" ∨ f ∈ hs1) := fun f hf => by
              refine ⟨FL, _, .str f, rfl, rfl, b8 _ _ nFc eFx, small1000 (by rw [List.length_map]; omega), _, _, fs ++ [f], rfl, u8.upd nFc, fun b o nb e => ?_, ?_, ?_, fun g hg => ?_⟩
              · rw [upd_ne (ne_of_none e hFL)]; exact b8 _ _ nb (bx _ _ nb e)
              · rw [upd_same, List.map_append]; rfl
              · rw [List.length_append, List.length_singleton, lenF]
              · rw [List.mem_append, List.mem_singleton] at hg
                rcases hg with hg | rfl
                · exact hfF g hg
                · exact hf
            refine ⟨.ref FL, rfl, .inl ⟨rfl, _, .of (b8 _ _ nFc eFx)⟩, .int (at' : Nat), rfl, .int (n : Nat), rfl, _, _, rfl, rfl, _, rfl, ?_⟩
            by_cases hlt : (at' : Int) < (n : Nat)
            · rw [decide_eq_true hlt]
              have hl : at' < hs1.length := by omega
              have eD8 : H8 D1 = some (.lst (hs1.map V.str)) := b8 _ _ nD1 (bx _ _ nD1 (bc _ _ nD1 (ba _ _ nD1 eD1')))
              refine iteT ⟨.ref D1, rfl, .int (at' : Nat), rfl, D1, _, _, .str (hs1[at']), rfl, rfl, .of eD8, atI_nat (by rw [List.getElem?_map, List.getElem?_eq_getElem hl]; rfl), ?_⟩
              exact fin _ (.inr (List.getElem_mem hl))
            · rw [decide_eq_false hlt]
              exact iteF (fin _ (.inl rfl))
          · rintro σ Hx ⟨y12, y13, fs, rfl, ux, bx, eFx, lenF, hfF⟩
            rw [Int.toNat_natCast] at lenF
            have nD2x : Hx D2 = some (.lst (hs2.map V.str)) := bx _ _ nD2 (bc _ _ nD2 (ba _ _ nD2 eD2))
            have hl2 : i * 3 + j < hs2.length := by omega
            refine ⟨.ref ML, rfl, .inl ⟨rfl, _, .of (bx _ _ nMc eMc)⟩, .ref D2, rfl, .int (i : Nat), rfl, _, _, rfl, rfl, wide_mul (a := 3) (b := 3) (by omega) (by decide) (by decide) (by decide) (by decide), .int (j : Nat), rfl, _, _, rfl, rfl, D2, _, _, .str (hs2[i * 3 + j]), rfl, rfl, .of nD2x, ?_, .ref FL, rfl, FL, _, rfl, .inl ⟨.of eFx, fun l hl => ⟨by show 2 ≤ sizeLine; decide, fun T hT => ?_⟩⟩⟩
            · rw [show (i : Int) * 3 + (j : Nat) = ((i * 3 + j : Nat) : Int) by omega]
              exact atI_nat (by rw [List.getElem?_map, List.getElem?_eq_getElem hl2]; rfl)
            have sl := same_new (o := .tup (fs.map V.str)) hl
            have sT := same_new (o := .tup [.str (hs2[i * 3 + j]), .ref l]) hT
            have eMT := sT _ _ (sl _ _ (bx _ _ nMc eMc))
            have it : Im K (upd (upd Hx l (.tup (fs.map V.str))) T (.tup [.str (hs2[i * 3 + j]), .ref l])) (.ref T) (mkD (hs2[i * 3 + j], fs)) := .tup (.inl upd_same) (.cons (.str _) (.cons (.tup (.inl (sT _ _ upd_same)) (strs_im fs)) .nil))
            have bT : But c Hd (upd (upd Hx l (.tup (fs.map V.str))) T (.tup [.str (hs2[i * 3 + j]), .ref l])) := bx.trans (but_same (sl.trans sT))
            have uT := ux.same (sl.trans sT)
            generalize upd (upd Hx l (.tup (fs.map V.str))) T (.tup [.str (hs2[i * 3 + j]), .ref l]) = H9 at *
            have lvs : vs.length ≤ 3 := by rw [all_len imM]; omega
            refine ⟨ML, vs, .ref T, rfl, rfl, eMT, small1000 (by omega), _, _, _, _, vs ++ [.ref T], mks ++ [(hs2[i * 3 + j], fs)], rfl, uT.upd nMc, fun b o nb e => ?_, upd_same, ?_, ?_, fun t m hm => ?_, fun m hm => ?_⟩
            · rw [upd_ne (ne_of_none e hML)]
              exact bT _ _ nb (bc _ _ nb e)
            · rw [List.map_append]
              exact (ImAll.mono ((bT.tk uc).trans (tk_lst eMT)) _ imM).snoc (Im.mono (tk_lst eMT) _ it)
            · rw [List.length_append, lenM]; rfl
            · by_cases h : t < mks.length
              · rw [List.getElem?_append_left h] at hm
                exact hatM t m hm
              · rw [List.getElem?_append_right (by omega)] at hm
                have ht := (List.getElem?_eq_some_iff.mp hm).1
                rw [List.length_singleton] at ht
                have e0 : t - mks.length = 0 := by omega
                rw [e0] at hm
                obtain rfl := Option.some.inj hm
                have et : t = j := by omega
                rw [et, List.getElem?_eq_getElem hl2]
            · rw [List.mem_append, List.mem_singleton] at hm
              rcases hm with hm | rfl
              · exact hfM m hm
              · exact ⟨by show fs.length ≤ 3; omega, hfF⟩
        · intro Q' hQ
          refine ⟨.int (j : Nat), rfl, rfl, _, rfl, ?_⟩
          by_cases h0 : j = 0
          · rw [decide_eq_true (show V.int (j : Nat) = V.int 0 by rw [h0]; rfl)]
            refine iteT ⟨.ref c, rfl, c, 8, rfl, uF, by decide, by decide, fun d8 H8 d80 d88 u8 b8 => ⟨_, _, rfl, rfl, _, rfl, ?_⟩⟩
            by_cases hp : d8 > 0
            · rw [decide_eq_true hp]
              exact iteT (hQ 0 H8 ⟨by decide, u8, b8⟩)
            · rw [decide_eq_false hp]
              refine iteF ⟨.ref c, rfl, .int 3, rfl, _, _, rfl, rfl, c, 4, rfl, u8, by decide, by decide, fun d9 H9 d90 d94 u9 b9 => ?_⟩
              obtain ⟨z, rfl⟩ := Int.eq_ofNat_of_zero_le d90
              exact hQ z H9 ⟨by omega, u9, b8.trans b9⟩
          · rw [decide_eq_false (show ¬ V.int (j : Nat) = V.int 0 from fun z => h0 (by have := V.int.inj z; omega))]
            refine iteF (iteF ⟨.ref c, rfl, .int 3, rfl, _, _, rfl, rfl, c, 4, rfl, uF, by decide, by decide, fun d9 H9 d90 d94 u9 b9 => ?_⟩)
            obtain ⟨z, rfl⟩ := Int.eq_ofNat_of_zero_le d90
            exact hQ z H9 ⟨by omega, u9, b9⟩
      · rintro σ Hc ⟨y10, y11, y12, y13, vs, mks, rfl, uc, bc, eMc, imM, lenM, hatM, hfM⟩
        rw [Int.toNat_natCast] at lenM
        have ndM := mk_nodup nd2 hatM
        have memM : ∀ m ∈ mks, ∃ t, t < 3 ∧ hs2[i * 3 + t]? = some m.1 := fun m hm => by
          obtain ⟨t, ht⟩ := List.getElem?_of_mem hm
          have := (List.getElem?_eq_some_iff.mp ht).1
          exact ⟨t, by omega, hatM t m ht⟩
        refine ⟨fun σ' H' => ∃ (vs : List V) (mks : List Mk), σ' = [some (.ref c), some (.int 3), some (.int 3), some (.int 1), some (.int (n : Nat)), some (.ref D1), some (.ref D2), some (.ref KL), some (.int (i : Nat)), some (.ref ML), y10, y11, y12, y13] ∧ Well H' c ∧ But c Hb H' ∧ H' ML = some (.lst vs) ∧ ImAll K H' vs (mks.map mkD) ∧ 1 ≤ mks.length ∧ mks.length ≤ 3 ∧ (mks.map (·.1)).Nodup ∧ (∀ m ∈ mks, ∃ t, t < 3 ∧ hs2[i * 3 + t]? = some m.1) ∧ ∀ m ∈ mks, m.2.length ≤ 3 ∧ ∀ f ∈ m.2, f = "number" ∨ f ∈ hs1, ?_, ?_⟩
        · refine ⟨.ref c, rfl, c, 2, rfl, uc, by decide, by decide, fun d9 H9 d90 d92 u9 b9 => ⟨rfl, _, rfl, ?_⟩⟩
          have eM9 := b9 _ _ nMc eMc
          have im9 := ImAll.mono (b9.tk uc) _ imM
          by_cases h0 : d9 = 0
          · rw [decide_eq_true (show V.int d9 = V.int 0 by rw [h0])]
            refine iteT ⟨.ref ML, rfl, .inl ⟨rfl, _, .of eM9⟩, ML, vs, rfl, rfl, eM9, vs.reverse, mks.reverse, rfl, u9.upd nMc, fun b o nb e => ?_, upd_same, ?_, by rw [List.length_reverse]; omega, by rw [List.length_reverse]; omega, ?_, fun m hm => memM m (List.mem_reverse.mp hm), fun m hm => hfM m (List.mem_reverse.mp hm)⟩
            · rw [upd_ne (ne_of_none e hML)]
              exact b9 _ _ nb (bc _ _ nb e)
            · rw [List.map_reverse]
              exact ImAll.rev (ImAll.mono (tk_lst eM9) _ im9)
            · rw [List.map_reverse]
              exact List.pairwise_reverse.mpr (ndM.imp fun h => Ne.symm h)
          · rw [decide_eq_false (show ¬ V.int d9 = V.int 0 from fun z => h0 (V.int.inj z))]
            exact iteF ⟨vs, mks, rfl, u9, bc.trans b9, eM9, im9, by omega, by omega, ndM, memM, hfM⟩
        · rintro σ' H9 ⟨vs, mks, rfl, u9, b9, eM9, im9, m1, m3, ndM, memM, hfM⟩
          have nKb := b9 _ _ nKc eKL
          have lh : i < hs1.length := by omega
          have eD9 : H9 D1 = some (.lst (hs1.map V.str)) := b9 _ _ nD1 (ba _ _ nD1 eD1')
          refine ⟨.ref KL, rfl, .inl ⟨rfl, _, .of nKb⟩, .ref D1, rfl, .int (i : Nat), rfl, D1, _, _, .str (hs1[i]), rfl, rfl, .of eD9, atI_nat (by rw [List.getElem?_map, List.getElem?_eq_getElem lh]; rfl), .ref ML, rfl, ML, vs, rfl, .inl ⟨.of eM9, fun l hl => ⟨by show 2 ≤ sizeLine; decide, fun T hT => ?_⟩⟩⟩
          have sl := same_new (o := .tup vs) hl
          have sT := same_new (o := .tup [.str (hs1[i]), .ref l]) hT
          have it : Im K (upd (upd H9 l (.tup vs)) T (.tup [.str (hs1[i]), .ref l])) (.ref T) (kdD (hs1[i], mks)) := .tup (.inl upd_same) (.cons (.str _) (.cons (.tup (.inl (sT _ _ upd_same)) (ImAll.mono (tk_same (sl.trans sT)) _ im9)) .nil))
          have bT : But c Hb (upd (upd H9 l (.tup vs)) T (.tup [.str (hs1[i]), .ref l])) := b9.trans (but_same (sl.trans sT))
          have uT := u9.same (sl.trans sT)
          have eKT := sT _ _ (sl _ _ nKb)
          generalize upd (upd H9 l (.tup vs)) T (.tup [.str (hs1[i]), .ref l]) = HT at *
          have lws : ws.length = i := by rw [all_len im, dr.len]
          refine ⟨KL, ws, .ref T, rfl, rfl, eKT, small1000 (by omega), _, _, _, _, _, _, ws ++ [.ref T], ks ++ [(hs1[i], mks)], rfl, uT.upd nKc, fun b o nb e => ?_, upd_same, ?_, dr.snoc nd2 (List.getElem?_eq_getElem lh) m1 m3 ndM memM hfM⟩
          · rw [upd_ne (ne_of_none e hKL)]
            exact bT _ _ nb (ba _ _ nb e)
          · rw [List.map_append]
            exact (ImAll.mono ((bT.tk ua).trans (tk_lst eKT)) _ im).snoc (Im.mono (tk_lst eKT) _ it)
    · rintro σ Ha ⟨y8, y9, y10, y11, y12, y13, ws, ks, rfl, ua, ba, eKL, im, dr⟩
      rw [Int.toNat_natCast] at dr
      obtain ⟨okk, sm⟩ := dr.ok ok1 ok2 n1 n3
      refine ⟨.ref KL, rfl, KL, ws, rfl, .inl ⟨.of eKL, fun l hl => q l ks _ (ua.same (same_new hl)) ((B3.trans ba).trans (but_same (same_new hl))) okk sm (.tup (.inl upd_same) (ImAll.mono (tk_new hl) _ im))⟩⟩
end
end K63

set_option Elab.async false
set_option linter.all false
set_option maxRecDepth 100000
set_option exponentiation.threshold 20000
set_option pp.deepTerms false
set_option pp.deepTerms.threshold 8
namespace K63
open PySem PySem.Spec PyProof.Rows L2 Ly Mt
def prD (r : Str × Str) : PyData := .tuple [.str r.1, .str r.2]
structure RdHeads (ks : List Kd) (rs : List (Str × Str)) : Prop where
  low : ∀ r ∈ rs, NameOk r.1 ∧ ∃ c, r.1.cps[0]? = some c ∧ lowC c = true
  nd : (rs.map (·.1)).Nodup
  kind : ∀ r ∈ rs, r.2 ∈ ks.map (·.1)
theorem kpe_bm0 {X : Cx} (K : PySem.W.Frag) {o : Expr} {to : TE} {name : Str} {apos cpos : Pos} {T id : String} {r : V → List V → Hp → VK → Prop} (pa : PlainAttrs T) (slot : Slot T name id) (hty : typeOf (.builtin id) = pure (.type "method_descriptor")) (hm : MtR X id r) (ho : PE X o to)
    (hbase : attributeBase o name X.env (eval o X.env) = eval o X.env := by rfl) (hline : (apos.endLine == cpos.line) = true := by rfl) (e : X.K = K := by rfl) : PE X (.Call (.Attribute o name apos) [] [] cpos) (tBM0 K T r to) := by
  subst e
  exact pe_bm0 pa slot hty hm ho hbase hline
/-- n drawn ratios added: sixths, not great -/
def Cf (n : Nat) (q : Rat) : Prop := ∃ t : Int, q * 6 = (t : Rat) ∧ t.natAbs ≤ 66 * n
theorem cf_zero (n : Nat) : Cf n 0 := ⟨0, by rw [Rat.zero_mul]; rfl, by simp⟩
theorem Cf.mono {n m : Nat} {q : Rat} (h : Cf n q) (hn : n ≤ m) : Cf m q := by
  obtain ⟨t, e, b⟩ := h
  exact ⟨t, e, Nat.le_trans b (Nat.mul_le_mul (Nat.le_refl _) hn)⟩
theorem Cf.add {n m : Nat} {x y : Rat} (h : Cf n x) (k : Cf m y) : Cf (n + m) (x + y) := by
  obtain ⟨t, e, b⟩ := h
  obtain ⟨u, f, d⟩ := k
  refine ⟨t + u, ?_, ?_⟩
  · rw [Rat.add_mul, e, f, Rat.intCast_add]
  · have := Int.natAbs_add_le t u
    omega
theorem cf_num {q : Rat} (h : Num q) : Cf 1 q := by
  obtain ⟨_, t, b, rfl, ht, hb⟩ := h
  have key : ∀ m : Int, m * b = 6 → b ≠ 0 → Rat.divInt t b * 6 = ((t * m : Int) : Rat) := fun m hm hb0 => by
    have e6 : (6 : Rat) = Rat.divInt 6 1 := rfl
    have e1 : ((t * m : Int) : Rat) = Rat.divInt (t * m) 1 := by
      have : ((t * m : Int) : Rat) = Rat.divInt ((t * m : Int) : Rat).num ((t * m : Int) : Rat).den := (Rat.num_divInt_den _).symm
      exact this
    rw [e6, e1, Rat.divInt_mul_divInt]
    rw [Int.mul_one]
    refine (Rat.divInt_eq_divInt_iff hb0 (by decide)).mpr ?_
    rw [← hm, Int.mul_one, Int.mul_assoc]
  rcases hb with rfl | rfl | rfl | rfl
  · exact ⟨_, key 6 (by decide) (by decide), by omega⟩
  · exact ⟨_, key 3 (by decide) (by decide), by omega⟩
  · exact ⟨_, key 2 (by decide) (by decide), by omega⟩
  · exact ⟨_, key 1 (by decide) (by decide), by omega⟩
section
variable {P : Program} {w : World} {K : PySem.W.Frag} {mg : Str → Option Value} {base : Heap}
abbrev s__law_reads : Stmt := topS 72
theorem sc__law_reads : FnScope ["well", "kinds", "many", "lows", "word"] ["well", "kinds", "many"] (defScope s__law_reads) := ⟨rfl, rfl, rfl, by decide +kernel, rfl, by decide +kernel, by decide +kernel⟩
def sp_lreads (K : PySem.W.Frag) : Sp := fun vs H Q _ => ∃ (c : Addr) (v : V) (n : Nat) (ks : List Kd), vs = [.ref c, v, .int (n : Nat)] ∧ Well H c ∧ n ≤ 20 ∧ Im K H v (ksD ks) ∧ KindsOk ks ∧ ∀ D ws rs H', Well H' c → But c H H' → H D = none → H' D = some (.lst ws) → ImAll K H' ws (rs.map prD) → rs.length = n → RdHeads ks rs → Q (.ref D) H'
set_option maxHeartbeats 1000000 in
theorem ok__law_reads {f : Addr} {fd : FuncData} {k : Nat} (F : Fun K "_law_reads" "_law_reads" s__law_reads f fd) (T : Tx K mg){k1 : Nat} (D__law_sip : Def P w K mg base k1 "_law_sip" s__law_sip ["well", "many"] sp_sip) {k2 : Nat} (D__law_heads : Def P w K mg base k2 "_law_heads" s__law_heads ["well", "many"] sp_heads) (e1 : k1 ≤ k) (e2 : k2 ≤ k) : FnOk P w K mg base CX0 (k + 1) f fd ["well", "kinds", "many"] (sp_lreads K) := by
  have nd := sc__law_reads.nd
  refine F.ok sc__law_reads (fun vs H Q E h => ?_) (fun cdv A outer s H vs Q E hr h => ?_)
  · obtain ⟨_, _, _, _, rfl, _⟩ := h
    rfl
  · obtain ⟨c, v, n, ks, rfl, u, n20, iv, ok, q⟩ := h
    obtain ⟨ka, kx, rfl, hka, hkx⟩ := iv.tuple_inv
    have lk : kx.length = ks.length := all_len hkx
    have kf := ok.few
    refine ⟨_, (pss_cons (ps_setLc (i := 3) (own := [("word", 4)]) (g := gName 4) (tt := tYes) rfl nd rfl rfl (sw_true rfl rfl rfl (by decide +kernel)) (kpi_list K (pe_def D__law_heads (hr.mono (by omega)) rfl (pa_cons (pv 0) (pa_cons (pv 2) pa_nil)))) (blkOk_by (by rfl)) (fun _ _ _ _ _ => (pg_name (i := 4) nd rfl (.inl rfl))) (fun _ _ _ _ _ => pts_nil) (fun _ _ _ _ _ => (pe_op op_add_str (kpe_bm0 K PySem.F.plainAttrs_str PySem.F.slot_str_lower PySem.F.type_str_lower mt_lower (pe_ix ix_str (pv 4) pe_int (fun _ _ => rfl))) (pe_slice sl_str (pv 4) (po_some pe_int) po_none))))
      (pss_one (ps_ret (pe_lc (own := [("word", 4)]) (g := gName 4) (tt := tYes) rfl nd (kpi_list K (pv 3)) (blkOk_by (by rfl)) (fun _ _ _ _ _ => (pg_name (i := 4) nd rfl (.inl rfl))) (fun _ _ _ _ _ => pts_nil) (fun _ _ _ _ _ => (pe_tup (pa_cons (pv 4) (pa_cons (pe_ix (kix_tup K) (pe_ix (kix_tup K) (pv 1) (pe_def D__law_sip (hr.mono (by omega)) rfl (pa_cons (pv 0) (pa_cons (pe_callB (kcall_len K) (by rfl) T.m_len PySem.boot_len (pa_cons (pv 1) pa_nil)) pa_nil))) (fun _ _ => rfl)) pe_int (fun _ _ => rfl)) pa_nil)))))))), ?_⟩
    refine ⟨.ref c, rfl, .int (n : Nat), rfl, c, n, rfl, u, by omega, fun D1 hs H1 u1 b1 hD1 eD1 ok1 => ⟨D1, rfl, ⟨_, .of eD1⟩, fun D hD => ?_⟩⟩
    have l1 := ok1.len
    refine lc_all (walk_list (xs := hs.map V.str)) (fun i Hx => Same H1 Hx ∧ Hx D = some (.lst (((hs.take i).map lowOf).map V.str))) ⟨same_new hD, upd_same⟩ (fun i Hx _ z => .of (z.1 _ _ eD1)) (fun i x Hx Hy hi z y => ?_) (fun Hx z => ?_)
    · obtain ⟨sm, eD⟩ := z
      obtain ⟨rfl, hxi⟩ := y
      rw [List.getElem?_map] at hxi
      obtain ⟨h, hh, rfl⟩ := Option.map_eq_some_iff.mp hxi
      have hm := List.mem_of_getElem? hh
      obtain ⟨hok, c0, hc0, _⟩ := ok1.high h hm
      have hl := hok.len
      have ec : h.cps.getD 0 0 = c0 := by
        rw [Array.getD_eq_getD_getElem?, hc0]; rfl
      refine ⟨rfl, .str h, rfl, h, 0, c0, rfl, rfl, Nat.le_of_lt (small1000 (by omega)), atI_nat (j := 0) (by rw [Array.getElem?_toList]; exact hc0), rfl, ⟨#[c0]⟩, rfl, rfl, (by show 1 ≤ 5592405; decide), .str h, rfl, 1, rfl, h, rfl, Nat.le_of_lt (small1000 (by omega)), _, _, rfl, rfl, ?_, ?_⟩
      · have hlow := (ok1.low h hm).1.len
        have e : (lowOf h).length = (Txt.lower ⟨#[c0]⟩).length + (cutS h (some 1) none).length := by
          unfold lowOf
          rw [ec]
          exact app_len _ _
        rw [← e]
        exact Nat.le_of_lt (small1000 (by omega))
      · have e : Txt.lower ⟨#[c0]⟩ ++ cutS h (some 1) none = lowOf h := by
          unfold lowOf
          rw [ec]
        rw [e]
        refine ⟨_, eD, small1000 (by rw [List.length_map, List.length_map, List.length_take]; omega), fun b o eb => ?_, ?_⟩
        · rw [upd_ne (ne_of_none eb hD)]; exact sm _ _ eb
        · rw [upd_same, List.take_add_one, hh, List.map_append, List.map_append]; rfl
    · obtain ⟨sm, eD⟩ := z
      rw [List.length_map, List.take_of_length_le (Nat.le_refl _)] at eD
      have ux := u1.same sm
      have bx : But c H Hx := b1.trans (but_same sm)
      have nDc := u1.ne hD
      refine ⟨.ref D, rfl, D, rfl, ⟨_, .of eD⟩, fun D2 hD2 => ?_⟩
      have hD20 : H D2 = none := bx.free ux hD2
      refine lc_all (walk_list (xs := (hs.map lowOf).map V.str)) (fun i Hz => Well Hz c ∧ But c Hx Hz ∧ ∃ ws rs, Hz D2 = some (.lst ws) ∧ ImAll K Hz ws (rs.map prD) ∧ rs.map (·.1) = (hs.map lowOf).take i ∧ ∀ r ∈ rs, r.2 ∈ ks.map (·.1)) ⟨ux.same (same_new hD2), but_same (same_new hD2), [], [], upd_same, .nil, rfl, fun r hr => by simp at hr⟩ (fun i Hz _ z => .of (z.2.1 _ _ nDc eD)) (fun i x Hz Hy hi z y => ?_) (fun Hz z => ?_)
      · obtain ⟨uz, bz, ws, rs, eD2, im, hn, hk⟩ := z
        obtain ⟨rfl, hxi⟩ := y
        rw [List.getElem?_map] at hxi
        obtain ⟨h, hh, rfl⟩ := Option.map_eq_some_iff.mp hxi
        have tz := (bx.trans bz).tk u
        refine ⟨rfl, .str h, rfl, .ref ka, rfl, .ref c, rfl, .ref ka, rfl, ka, kx, rfl, .inr (hka.mono tz).sq, c, (kx.length : Nat), rfl, uz, by omega, by omega, fun d8 H8 d80 d81 u8 b8 => ?_⟩
        obtain ⟨i8, rfl⟩ := Int.eq_ofNat_of_zero_le d80
        have li : i8 < ks.length := by omega
        have t8 := (bx.trans (bz.trans b8)).tk u
        obtain ⟨y, ey, iy⟩ := all_at (ImAll.mono t8 _ hkx) (List.getElem?_eq_getElem li)
        obtain ⟨pk, w1, w2, rfl, hpk, iw1, iw2⟩ := im_pair iy
        obtain rfl := iw1.str_inv
        have nD2 := ux.ne hD2
        have eD8 := b8 _ _ nD2 eD2
        refine ⟨ka, kx, _, .ref pk, rfl, rfl, (hka.mono t8).sq, atI_nat ey, pk, _, 0, _, rfl, rfl, hpk.sq, atI_nat (j := 0) rfl, by show 2 ≤ sizeLine; decide, fun T hT => ?_⟩
        have sT := same_new (o := .tup [.str h, .str (ks[i8]).1]) hT
        have eDT := sT _ _ eD8
        have lrs : rs.length = i := by
          have := congrArg List.length hn
          rw [List.length_map, List.length_take, List.length_map] at this
          rw [List.length_map, List.length_map] at hi
          omega
        rw [List.length_map, List.length_map] at hi
        refine ⟨ws, eDT, small1000 (by rw [all_len im]; omega), (u8.same sT).upd nD2, fun b o nb e => ?_, _, rs ++ [(h, (ks[i8]).1)], upd_same, ?_, ?_, fun r hr => ?_⟩
        · rw [upd_ne (ne_of_none e hD2)]
          exact sT _ _ (b8 _ _ nb (bz _ _ nb e))
        · rw [List.map_append]
          exact (ImAll.mono (((b8.tk uz).trans (tk_same sT)).trans (tk_lst eDT)) _ im).snoc (Im.mono (tk_lst eDT) _ (.tup (.inl upd_same) (.cons (.str _) (.cons (.str _) .nil))))
        · rw [List.map_append, hn, List.take_add_one, hh]; rfl
        · rw [List.mem_append, List.mem_singleton] at hr
          rcases hr with hr | rfl
          · exact hk r hr
          · exact List.mem_map.mpr ⟨_, List.getElem_mem li, rfl⟩
      · obtain ⟨uz, bz, ws, rs, eD2, im, hn, hk⟩ := z
        rw [List.length_map, List.length_map] at hn
        rw [List.take_of_length_le (by rw [List.length_map]; exact Nat.le_refl _)] at hn
        have lrs : rs.length = n := by
          have := congrArg List.length hn
          rw [List.length_map, List.length_map] at this
          omega
        refine q D2 ws rs Hz uz (bx.trans bz) hD20 eD2 im lrs ⟨fun r hr => ?_, by rw [hn]; exact ok1.lnd (by omega), hk⟩
        have : r.1 ∈ hs.map lowOf := by rw [← hn]; exact List.mem_map.mpr ⟨r, hr, rfl⟩
        obtain ⟨h, hh, e⟩ := List.mem_map.mp this
        rw [← e]
        exact ok1.low h hh
abbrev s__law_told_reads : Stmt := topS 77
theorem sc__law_told_reads : FnScope ["well", "kinds", "dims", "reads", "told", "word", "head", "entries", "at"] ["well", "kinds", "dims", "reads"] (defScope s__law_told_reads) := ⟨rfl, rfl, rfl, by decide +kernel, rfl, by decide +kernel, by decide +kernel⟩
structure Told (ks : List Kd) (dims : List Nat) (rs : List (Str × Str)) (rd : List Rd) : Prop where
  heads : rd.map (fun r => (r.1, r.2.1)) = rs
  len : ∀ r ∈ rd, r.2.2.length = dims.getD ((ks.map (·.1)).idxOf r.2.1) 0
  cf : ∀ r ∈ rd, ∀ q ∈ r.2.2, Cf 1 q
def sp_told (K : PySem.W.Frag) : Sp := fun vs H Q _ => ∃ (c : Addr) (v : V) (dl rl : Addr) (ks : List Kd) (dims : List Nat) (ws : List V) (rs : List (Str × Str)), vs = [.ref c, v, .ref dl, .ref rl] ∧ Well H c ∧ Im K H v (ksD ks) ∧ KindsOk ks ∧ dl ≠ c ∧ rl ≠ c ∧ H dl = some (.lst (dims.map fun n : Nat => V.int (n : Nat))) ∧ dims.length = ks.length ∧ (∀ d ∈ dims, d ≤ 100) ∧ H rl = some (.lst ws) ∧ ImAll K H ws (rs.map prD) ∧ rs.length ≤ 20 ∧ (∀ r ∈ rs, r.2 ∈ ks.map (·.1)) ∧
  ∀ p rd H', Well H' c → But c H H' → Im K H' (.ref p) (rdsD rd) → Told ks dims rs rd → Q (.ref p) H'
set_option maxHeartbeats 1000000 in
theorem ok__law_told_reads {f : Addr} {fd : FuncData} {k : Nat} (F : Fun K "_law_told_reads" "_law_told_reads" s__law_told_reads f fd) (T : Tx K mg){k1 : Nat} (D__law_sip : Def P w K mg base k1 "_law_sip" s__law_sip ["well", "many"] sp_sip) {k2 : Nat} (D__law_place : Def P w K mg base k2 "_law_place" s__law_place ["kinds", "head"] (sp_place K)) {k3 : Nat} (D__law_number : Def P w K mg base k3 "_law_number" s__law_number ["well"] (sp_number K)) (e1 : k1 ≤ k) (e2 : k2 ≤ k) (e3 : k3 ≤ k) : FnOk P w K mg base CX0 (k + 1) f fd ["well", "kinds", "dims", "reads"] (sp_told K) := by
  have nd := sc__law_told_reads.nd
  refine F.ok sc__law_told_reads (fun vs H Q E h => ?_) (fun cdv A outer s H vs Q E hr h => ?_)
  · obtain ⟨_, _, _, _, _, _, _, _, rfl, _⟩ := h
    rfl
  · obtain ⟨c, v, dl, rl, ks, dims, ws, rs, rfl, u, iv, ok, ndc, nrc, edl, ld, d100, erl, irs, r20, hrk, q⟩ := h
    have lws : ws.length = rs.length := all_len irs
    have kf := ok.few
    refine ⟨_, (pss_cons (ps_set (i := 4) nd rfl (.inl rfl) (pe_lst pa_nil))
      (pss_cons (ps_for PassesOwn.never rfl (kpi_list K (pv 3)) (kpg_tup K (n := 2) rfl (pgs_cons (pg_name (i := 5) nd rfl (.inl rfl)) (pgs_cons (pg_name (i := 6) nd rfl (.inl rfl)) pgs_nil)))
        (pss_cons (ps_setLc (i := 7) (own := [("at", 8)]) (g := gName 8) (tt := tYes) rfl nd rfl rfl (sw_true rfl rfl rfl (by decide +kernel)) (pi_range1 rfl T.m_range (pa_cons (pe_ix (kix_list K) (pv 2) (pe_def D__law_place (hr.mono (by omega)) rfl (pa_cons (pv 1) (pa_cons (pv 6) pa_nil))) (fun _ _ => rfl)) pa_nil)) (blkOk_by (by rfl)) (fun _ _ _ _ _ => (pg_name (i := 8) nd rfl (.inl rfl))) (fun _ _ _ _ _ => pts_nil) (fun _ _ _ _ _ => (pe_ifExp (pt_cmpR op_gt (pe_def D__law_sip (hr.mono (by omega)) rfl (pa_cons (pv 0) (pa_cons pe_int pa_nil))) pe_int (nomark _)) (pe_def D__law_number (hr.mono (by omega)) rfl (pa_cons (pv 0) pa_nil)) (pe_tup (pa_cons pe_int (pa_cons pe_int pa_nil))))))
        (pss_one (ps_expr (pe_bm PySem.F.plainAttrs_list PySem.F.slot_list_append PySem.F.type_list_append mt_append (pv 4) (pa_cons (pe_tup (pa_cons (pv 5) (pa_cons (pv 6) (pa_cons (pe_callTy (kcall_tuple K) (by rfl) T.m_tuple (by decide +kernel) (pa_cons (pv 7) pa_nil)) pa_nil)))) pa_nil))))))
      (pss_one (ps_ret (pe_callTy (kcall_tuple K) (by rfl) T.m_tuple (by decide +kernel) (pa_cons (pv 4) pa_nil)))))), ?_⟩
    refine ⟨by show 0 ≤ sizeLine; decide, fun TL hTL => ?_⟩
    have nTc := u.ne hTL
    refine ⟨.ref rl, rfl, rl, rfl, ⟨_, .of (same_new hTL _ _ erl)⟩, ?_⟩
    refine for_it (walk_list (xs := ws)) (fun i σ Ha => ∃ (y5 y6 y7 : Option V) (us : List V) (rd : List Rd), σ = [some (.ref c), some v, some (.ref dl), some (.ref rl), some (.ref TL), y5, y6, y7, none] ∧ Well Ha c ∧ But c H Ha ∧ Ha TL = some (.lst us) ∧ ImAll K Ha us (rd.map rdD) ∧ Told ks dims (rs.take i) rd) ⟨_, _, _, [], [], rfl, u.same (same_new hTL), but_same (same_new hTL), upd_same, .nil, ⟨rfl, fun r hr => by simp at hr, fun r hr => by simp at hr⟩⟩ (fun i σ Ha _ z => ?_) ?_ ?_
    · obtain ⟨_, _, _, _, _, _, ua, ba, _⟩ := z
      exact .of (ba _ _ nrc erl)
    · rintro i x σ Ha Hb hi ⟨y5, y6, y7, us, rd, rfl, ua, ba, eT, im, td⟩ ⟨rfl, hxi⟩
      obtain ⟨r, hr', ir⟩ := all_get (ImAll.mono (ba.tk u) _ irs) hxi
      obtain ⟨pr, w1, w2, rfl, hpr, iw1, iw2⟩ := im_pair ir
      obtain rfl := iw1.str_inv
      obtain rfl := iw2.str_inv
      have hin := hrk r (List.mem_of_getElem? hr')
      have hidx := List.idxOf_lt_length_of_mem hin
      rw [List.length_map] at hidx
      obtain ⟨dm, hdm⟩ : ∃ dm, dims[(ks.map (·.1)).idxOf r.2]? = some dm := ⟨_, List.getElem?_eq_getElem (by omega)⟩
      have dm1 := d100 dm (List.mem_of_getElem? hdm)
      have edm : dims.getD ((ks.map (·.1)).idxOf r.2) 0 = dm := by rw [List.getD_eq_getElem?_getD, hdm]; rfl
      refine ⟨pr, _, rfl, hpr.sq, rfl, .str r.1, _, rfl, .str r.2, _, rfl, rfl, ?_⟩
      refine ⟨.ref dl, rfl, v, rfl, .str r.2, rfl, v, r.2, ks, rfl, Im.mono (ba.tk u) _ iv, by omega, hin, fun H4 s4 => ?_⟩
      have u4 := ua.same s4
      have b4 : But c H H4 := ba.trans (but_same s4)
      refine ⟨dl, _, _, .int (dm : Nat), rfl, rfl, .of (b4 _ _ ndc edl), atI_nat (by rw [List.getElem?_map, hdm]; rfl), (dm : Nat), rfl, by omega, by omega, fun D hD => ?_⟩
      have nDc := u4.ne hD
      refine lc_all (walk_range (lo := 0) (n := (dm : Int).toNat)) (fun s Hx => Well Hx c ∧ But c H4 Hx ∧ ∃ zs qs, Hx D = some (.lst zs) ∧ ImAll K Hx zs (qs.map rD) ∧ qs.length = s ∧ ∀ q ∈ qs, Cf 1 q) ⟨u4.same (same_new hD), but_same (same_new hD), [], [], upd_same, .nil, rfl, fun q hq => by simp at hq⟩ (fun _ _ _ _ => trivial) (fun s x Hx Hy hs z y => ?_) (fun Hx z => ?_)
      · obtain ⟨ux, bx, zs, qs, eD, iD, lq, cq⟩ := z
        obtain ⟨rfl, rfl⟩ := y
        rw [Int.toNat_natCast] at hs
        have fin : ∀ (y : V) (q0 : Rat) H9, Well H9 c → But c Hy H9 → Im K H9 y (rD q0) → Cf 1 q0 → ∃ acc, H9 D = some (.lst acc) ∧ acc.length < sizeLine ∧ Well (upd H9 D (.lst (acc ++ [y]))) c ∧ But c H4 (upd H9 D (.lst (acc ++ [y]))) ∧ ∃ (zs : List V) (qs : List Rat), (upd H9 D (.lst (acc ++ [y]))) D = some (.lst zs) ∧ ImAll K (upd H9 D (.lst (acc ++ [y]))) zs (qs.map rD) ∧ qs.length = s + 1 ∧ ∀ q ∈ qs, Cf 1 q := fun y q0 H9 u9 b9 i9 c9 => by
          have eD9 := b9 _ _ nDc eD
          refine ⟨zs, eD9, small1000 (by rw [all_len iD]; omega), u9.upd nDc, fun b o nb e => ?_, zs ++ [y], qs ++ [q0], upd_same, ?_, by rw [List.length_append, lq]; rfl, fun q hq => ?_⟩
          · rw [upd_ne (ne_of_none e hD)]; exact b9 _ _ nb (bx _ _ nb e)
          · rw [List.map_append]
            exact (ImAll.mono ((b9.tk ux).trans (tk_lst eD9)) _ iD).snoc (Im.mono (tk_lst eD9) _ i9)
          · rw [List.mem_append, List.mem_singleton] at hq
            rcases hq with hq | rfl
            · exact cq q hq
            · exact c9
        refine ⟨rfl, .ref c, rfl, c, 4, rfl, ux, by decide, by decide, fun d8 H8 d80 d84 u8 b8 => ⟨_, _, rfl, rfl, _, rfl, ?_⟩⟩
        by_cases hp : d8 > 0
        · rw [decide_eq_true hp]
          exact iteT ⟨.ref c, rfl, c, rfl, u8, fun p q0 H9 u9 b9 nq i9 => fin _ q0 H9 u9 (b8.trans b9) i9 (cf_num nq)⟩
        · rw [decide_eq_false hp]
          refine iteF ⟨by show 2 ≤ sizeLine; decide, fun T hT => fin _ 0 _ (u8.same (same_new hT)) (b8.trans (but_same (same_new hT))) (rat_mk (q := 0) (.inl upd_same)) (cf_zero 1)⟩
      · obtain ⟨ux, bx, zs, qs, eD, iD, lq, cq⟩ := z
        rw [Int.toNat_natCast] at lq
        have eTx := bx _ _ nTc (s4 _ _ eT)
        refine ⟨.ref TL, rfl, .inl ⟨rfl, _, .of eTx⟩, .str r.1, rfl, .str r.2, rfl, .ref D, rfl, D, zs, rfl, .inl ⟨.of eD, fun l hl => ⟨by show 3 ≤ sizeLine; decide, fun T hT => ?_⟩⟩⟩
        have sl := same_new (o := .tup zs) hl
        have sT := same_new (o := .tup [.str r.1, .str r.2, .ref l]) hT
        have eTT := sT _ _ (sl _ _ eTx)
        have it : Im K (upd (upd Hx l (.tup zs)) T (.tup [.str r.1, .str r.2, .ref l])) (.ref T) (rdD (r.1, r.2, qs)) := .tup (.inl upd_same) (.cons (.str _) (.cons (.str _) (.cons (.tup (.inl (sT _ _ upd_same)) (ImAll.mono (tk_same (sl.trans sT)) _ iD)) .nil)))
        have bT : But c Hb (upd (upd Hx l (.tup zs)) T (.tup [.str r.1, .str r.2, .ref l])) := ((but_same s4).trans bx).trans (but_same (sl.trans sT))
        have uT := ux.same (sl.trans sT)
        generalize upd (upd Hx l (.tup zs)) T (.tup [.str r.1, .str r.2, .ref l]) = HT at *
        have lrd : rd.length ≤ 20 := by
          have := congrArg List.length td.heads
          rw [List.length_map, List.length_take] at this
          omega
        refine ⟨TL, us, .ref T, rfl, rfl, eTT, small1000 (by rw [all_len im]; omega), _, _, _, us ++ [.ref T], rd ++ [(r.1, r.2, qs)], rfl, uT.upd nTc, fun b o nb e => ?_, upd_same, ?_, ⟨?_, fun x hx => ?_, fun x hx => ?_⟩⟩
        · rw [upd_ne (ne_of_none e hTL)]
          exact bT _ _ nb (ba _ _ nb e)
        · rw [List.map_append]
          exact (ImAll.mono ((bT.tk ua).trans (tk_lst eTT)) _ im).snoc (Im.mono (tk_lst eTT) _ it)
        · rw [List.map_append, td.heads, List.take_add_one, hr']; rfl
        · rw [List.mem_append, List.mem_singleton] at hx
          rcases hx with hx | rfl
          · exact td.len x hx
          · show qs.length = _
            rw [lq]; exact edm.symm
        · rw [List.mem_append, List.mem_singleton] at hx
          rcases hx with hx | rfl
          · exact td.cf x hx
          · exact cq
    · rintro σ Ha ⟨y5, y6, y7, us, rd, rfl, ua, ba, eT, im, td⟩
      rw [lws, List.take_of_length_le (Nat.le_refl _)] at td
      exact ⟨.ref TL, rfl, TL, us, rfl, .inl ⟨.of eT, fun l hl => q l rd _ (ua.same (same_new hl)) (ba.trans (but_same (same_new hl))) (.tup (.inl upd_same) (ImAll.mono (tk_new hl) _ im)) td⟩⟩
end
end K63

set_option Elab.async false
set_option linter.all false
set_option maxRecDepth 100000
set_option exponentiation.threshold 20000
set_option pp.deepTerms false
set_option pp.deepTerms.threshold 8
namespace K63
open PySem PySem.Spec PyProof.Rows L2 Ly Mt
/-! ### the order of terms -/
def nlt : List Nat → List Nat → Bool
  | x :: a, y :: b => decide (x < y) || (decide (x = y) && nlt a b)
  | _, _ => false
theorem lex_int (x y : Nat) (r t : List (Int ⊕ List Nat)) (b : Bool) (h : PyProof.Rows.lexLt PyProof.Rows.itemOrd r t = b) : PyProof.Rows.lexLt PyProof.Rows.itemOrd (Sum.inl (x : Int) :: r) (Sum.inl (y : Int) :: t) = (decide (x < y) || (decide (x = y) && b)) := by
  rw [PyProof.Rows.lex_cons, h]
  show (decide ((x : Int) < y) || (!decide ((y : Int) < x) && b)) = _
  by_cases h1 : x < y
  · rw [decide_eq_true h1, decide_eq_true (show (x : Int) < y by omega)]; rfl
  · rw [decide_eq_false h1, decide_eq_false (show ¬ (x : Int) < y by omega)]
    by_cases h2 : x = y
    · rw [decide_eq_true h2, decide_eq_false (show ¬ (y : Int) < x by omega)]; rfl
    · rw [decide_eq_false h2, decide_eq_true (show (y : Int) < x by omega)]; rfl
theorem lex_nats : ∀ (a b : List Nat), a.length = b.length → PyProof.Rows.lexLt PyProof.Rows.itemOrd (PySem.W.keyToksAll (a.map nD) ++ [Sum.inl 0]) (PySem.W.keyToksAll (b.map nD) ++ [Sum.inl 0]) = nlt a b
  | [], [], _ => rfl
  | x :: a, y :: b, h => by
    have ih := lex_nats a b (by simpa using h)
    show PyProof.Rows.lexLt PyProof.Rows.itemOrd (Sum.inl 1 :: (Sum.inl (x : Int) :: (PySem.W.keyToksAll (a.map nD) ++ [Sum.inl 0]))) (Sum.inl 1 :: (Sum.inl (y : Int) :: (PySem.W.keyToksAll (b.map nD) ++ [Sum.inl 0]))) = _
    rw [PyProof.Rows.lex_self]
    exact lex_int x y _ _ _ ih
def key (t : Tm) : List Nat := t.1 :: t.2.1
theorem lt_keyT {s t : Tm} (h : s.2.1.length = t.2.1.length) : PySem.W.dataLt (keyT s) (keyT t) = nlt (key s) (key t) := by
  show PyProof.Rows.lexLt PyProof.Rows.itemOrd (Sum.inl 1 :: (Sum.inl (s.1 : Int) :: (Sum.inl 1 :: (PySem.W.keyToksAll (s.2.1.map nD) ++ [Sum.inl 0])))) (Sum.inl 1 :: (Sum.inl (t.1 : Int) :: (Sum.inl 1 :: (PySem.W.keyToksAll (t.2.1.map nD) ++ [Sum.inl 0])))) = _
  rw [PyProof.Rows.lex_self]
  refine lex_int _ _ _ _ _ ?_
  rw [PyProof.Rows.lex_self]
  exact lex_nats _ _ h
theorem nlt_snoc : ∀ (r : List Nat) {x y : Nat}, x < y → nlt (r ++ [x]) (r ++ [y]) = true
  | [], x, y, h => by
    show (decide (x < y) || (decide (x = y) && false)) = true
    rw [decide_eq_true h]; rfl
  | a :: r, x, y, h => by
    show (decide (a < a) || (decide (a = a) && nlt (r ++ [x]) (r ++ [y]))) = true
    rw [nlt_snoc r h, decide_eq_true rfl]; simp
theorem nlt_more : ∀ {a b : List Nat} {x y : Nat}, nlt a b = true → nlt (a ++ [x]) (b ++ [y]) = true
  | [], _, _, _, h => by simp [nlt] at h
  | _ :: _, [], _, _, h => by simp [nlt] at h
  | p :: a, q :: b, x, y, h => by
    show (decide (p < q) || (decide (p = q) && nlt (a ++ [x]) (b ++ [y]))) = true
    have h' : (decide (p < q) || (decide (p = q) && nlt a b)) = true := h
    rw [Bool.or_eq_true, Bool.and_eq_true] at h' ⊢
    rcases h' with h1 | ⟨h1, h2⟩
    · exact .inl h1
    · exact .inr ⟨h1, nlt_more h2⟩
structure ChOk (sizes : List Nat) (l : List (List Nat)) : Prop where
  asc : l.Pairwise fun a b => nlt a b = true
  each : ∀ r ∈ l, r.length = sizes.length ∧ ∀ (i c n : Nat), r[i]? = some c → sizes[i]? = some n → c < n
theorem ChOk.step {sizes : List Nat} {l : List (List Nat)} (h : ChOk sizes l) (n : Nat) : ChOk (sizes ++ [n]) (choiceStep l n) := by
  refine ⟨?_, fun r hr => ?_⟩
  · unfold choiceStep
    refine List.pairwise_flatMap.mpr ⟨fun a _ => ?_, h.asc.imp fun {a b} hab x hx y hy => ?_⟩
    · refine List.pairwise_map.mpr (List.pairwise_lt_range.imp fun {x y} hxy => nlt_snoc a hxy)
    · obtain ⟨p, _, rfl⟩ := List.mem_map.mp hx
      obtain ⟨q, _, rfl⟩ := List.mem_map.mp hy
      exact nlt_more hab
  · obtain ⟨a, ha, hx⟩ := List.mem_flatMap.mp hr
    obtain ⟨x, hx', rfl⟩ := List.mem_map.mp hx
    obtain ⟨l1, l2⟩ := h.each a ha
    refine ⟨by rw [List.length_append, List.length_append, l1]; rfl, fun i c m hc hm => ?_⟩
    by_cases hi : i < a.length
    · rw [List.getElem?_append_left hi] at hc
      rw [List.getElem?_append_left (by omega)] at hm
      exact l2 i c m hc hm
    · rw [List.getElem?_append_right (by omega)] at hc hm
      have hlt := (List.getElem?_eq_some_iff.mp hc).1
      rw [List.length_singleton] at hlt
      rw [show i - a.length = 0 by omega] at hc
      rw [show i - sizes.length = 0 by omega] at hm
      obtain rfl : x = c := by simpa using hc
      obtain rfl : n = m := by simpa using hm
      exact List.mem_range.mp hx'
theorem fold_ok : ∀ (rest sizes : List Nat) (l : List (List Nat)), ChOk sizes l → ChOk (sizes ++ rest) (rest.foldl choiceStep l)
  | [], sizes, l, h => by rw [List.append_nil]; exact h
  | n :: rest, sizes, l, h => by
    have := fold_ok rest (sizes ++ [n]) (choiceStep l n) (h.step n)
    rw [List.append_assoc] at this
    exact this
theorem choices_ok (sizes : List Nat) : ChOk sizes (choices sizes) := by
  refine fold_ok sizes [] [[]] ⟨List.pairwise_singleton _ _, fun r hr => ?_⟩
  obtain rfl := List.mem_singleton.mp hr
  exact ⟨rfl, fun i c n hc => by simp at hc⟩
theorem step_len (l : List (List Nat)) (n : Nat) : (choiceStep l n).length = l.length * n := by
  unfold choiceStep
  rw [List.length_flatMap]
  simp only [List.length_map, List.length_range]
  rw [List.map_const', List.sum_replicate_nat]
theorem fold_len {b : Nat} : ∀ (rest : List Nat) (l : List (List Nat)), (∀ n ∈ rest, n ≤ b) → (rest.foldl choiceStep l).length ≤ l.length * b ^ rest.length
  | [], l, _ => by simp
  | n :: rest, l, h => by
    have h1 := fold_len rest (choiceStep l n) fun m hm => h m (List.mem_cons_of_mem _ hm)
    rw [step_len] at h1
    have hn := h n (List.mem_cons_self ..)
    rw [List.foldl_cons, List.length_cons, Nat.pow_succ]
    refine Nat.le_trans h1 ?_
    rw [Nat.mul_comm (b ^ rest.length) b, ← Nat.mul_assoc]
    exact Nat.mul_le_mul (Nat.mul_le_mul (Nat.le_refl _) hn) (Nat.le_refl _)
theorem choices_few {sizes : List Nat} (h : ∀ n ∈ sizes, n ≤ 3) (l4 : sizes.length ≤ 4) (i : Nat) : (choices (sizes.take i)).length ≤ 81 := by
  have h1 := fold_len (b := 3) (sizes.take i) [[]] fun n hn => h n (List.mem_of_mem_take hn)
  have l : (sizes.take i).length ≤ 4 := by rw [List.length_take]; omega
  have h2 : 3 ^ (sizes.take i).length ≤ 3 ^ 4 := Nat.pow_le_pow_right (by decide) l
  have h3 : [([] : List Nat)].length * 3 ^ (sizes.take i).length = 3 ^ (sizes.take i).length := by rw [List.length_singleton, Nat.one_mul]
  rw [h3] at h1
  exact Nat.le_trans h1 h2
end K63

set_option Elab.async false
set_option linter.all false
set_option maxRecDepth 100000
set_option exponentiation.threshold 20000
set_option pp.deepTerms false
set_option pp.deepTerms.threshold 8
namespace K63
open PySem PySem.Spec PyProof.Rows L2 Ly Mt
/-- a drawn form -/
structure Shp (ks : List Kd) (rs : List (Str × Str)) (F : Form) : Prop where
  ok : FormOk 1 F
  hk : F.ks = ks
  hr : F.rds.map (fun r => (r.1, r.2.1)) = rs
  cf : ∀ row ∈ F.maps, ∀ ts ∈ row, ts.length ≤ 100 ∧ ∀ t ∈ ts, Cf 8 t.2.2
  rcf : ∀ r ∈ F.rds, ∀ q ∈ r.2.2, Cf 8 q
/-- a drawn row of terms -/
def CellOk (ks : List Kd) (dims : List Nat) (i : Nat) (m : Mk) (ts : List Tm) : Prop := TermsOk (dims.getD i 0) (m.2.map (wd (ks.map (·.1)) dims)) 4000 ts ∧ ts.length ≤ 100 ∧ ∀ t ∈ ts, Cf 8 t.2.2
def RowOk (ks : List Kd) (dims : List Nat) (i : Nat) (row : List (List Tm)) : Prop := ∀ kd, ks[i]? = some kd → row.length = kd.2.length ∧ ∀ (j : Nat) m ts, kd.2[j]? = some m → row[j]? = some ts → CellOk ks dims i m ts
theorem get_snoc {α : Type} {l : List α} {a x : α} {i : Nat} (h : (l ++ [a])[i]? = some x) : l[i]? = some x ∨ (i = l.length ∧ x = a) := by
  by_cases hi : i < l.length
  · rw [List.getElem?_append_left hi] at h
    exact .inl h
  · rw [List.getElem?_append_right (by omega)] at h
    have hlt := (List.getElem?_eq_some_iff.mp h).1
    rw [List.length_singleton] at hlt
    rw [show i - l.length = 0 by omega] at h
    exact .inr ⟨by omega, (Option.some.inj h).symm⟩
theorem shp_mk {ks : List Kd} {rs : List (Str × Str)} {dims : List Nat} {maps : List (List (List Tm))} {rd : List Rd} (ok : KindsOk ks) (ld : dims.length = ks.length) (hd : ∀ d ∈ dims, d ≤ 16) (sd : dims.sum ≤ 32) (lm : maps.length = ks.length) (hm : ∀ (i : Nat) row, maps[i]? = some row → RowOk ks dims i row)
    (rh : RdHeads ks rs) (r20 : rs.length ≤ 20) (td : Told ks dims rs rd) : Shp ks rs ⟨ks, dims, maps, rd⟩ := by
  have eh := td.heads
  have lrd : rd.length = rs.length := by
    have := congrArg List.length eh
    rwa [List.length_map] at this
  have mem : ∀ r ∈ rd, (r.1, r.2.1) ∈ rs := fun r hr => by rw [← eh]; exact List.mem_map.mpr ⟨r, hr, rfl⟩
  refine ⟨⟨by decide, ok, ld, hd, sd, lm, fun i kd row hk hr => (hm i row hr kd hk).1, fun i kd row hk hr j m ts hj ht => ?_, ⟨by show rd.length ≤ 60; omega, fun r hr => rh.low _ (mem r hr), ?_, fun r hr => ⟨rh.kind _ (mem r hr), td.len r hr⟩⟩⟩, rfl, eh, fun row hrow ts hts => ?_, fun r hr q hq => (td.cf r hr q hq).mono (by decide)⟩
  · exact ((hm i row hr kd hk).2 j m ts hj ht).1
  · have e : rd.map (·.1) = rs.map (·.1) := by
      rw [← eh, List.map_map]; rfl
    show (rd.map (·.1)).Nodup
    rw [e]
    exact rh.nd
  · obtain ⟨i, hi⟩ := List.getElem?_of_mem hrow
    have hik : i < ks.length := by
      have h1 : i < maps.length := (List.getElem?_eq_some_iff.mp hi).1
      omega
    obtain ⟨l1, l2⟩ := hm i row hi _ (List.getElem?_eq_getElem hik)
    obtain ⟨j, hj⟩ := List.getElem?_of_mem hts
    have hjk : j < ks[i].2.length := by
      have := (List.getElem?_eq_some_iff.mp hj).1
      omega
    exact (l2 j _ _ (List.getElem?_eq_getElem hjk) hj).2
/-- the terms that the draws leave of the choices -/
structure Left (ch : List (List Nat)) (i : Nat) (ts : List Tm) : Prop where
  few : ts.length ≤ i
  asc : ts.Pairwise fun a b => nlt (key a) (key b) = true
  mem : ∀ t ∈ ts, ∃ j, j < i ∧ ch[j]? = some (key t)
  num : ∀ t ∈ ts, Num t.2.2
theorem Left.up {ch : List (List Nat)} {i : Nat} {ts : List Tm} (h : Left ch i ts) : Left ch (i + 1) ts :=
  ⟨Nat.le_succ_of_le h.few, h.asc, fun t ht => let ⟨j, hj, e⟩ := h.mem t ht; ⟨j, by omega, e⟩, h.num⟩
theorem Left.snoc {sizes : List Nat} {i : Nat} {ts : List Tm} (h : Left (choices sizes) i ts) {t : Tm} (e : (choices sizes)[i]? = some (key t)) (n : Num t.2.2) : Left (choices sizes) (i + 1) (ts ++ [t]) := by
  refine ⟨?_, ?_, fun s hs => ?_, fun s hs => ?_⟩
  · rw [List.length_append, List.length_singleton]
    have := h.few
    omega
  · refine List.pairwise_append.mpr ⟨h.asc, List.pairwise_singleton _ _, fun a ha b hb => ?_⟩
    obtain rfl := List.mem_singleton.mp hb
    obtain ⟨j, hj, ej⟩ := h.mem a ha
    obtain ⟨h1, e1⟩ := List.getElem?_eq_some_iff.mp ej
    obtain ⟨h2, e2⟩ := List.getElem?_eq_some_iff.mp e
    have := List.pairwise_iff_getElem.mp (choices_ok sizes).asc j i h1 h2 hj
    rw [e1, e2] at this
    exact this
  · rw [List.mem_append, List.mem_singleton] at hs
    rcases hs with hs | rfl
    · obtain ⟨j, hj, e⟩ := h.mem s hs
      exact ⟨j, by omega, e⟩
    · exact ⟨i, by omega, e⟩
  · rw [List.mem_append, List.mem_singleton] at hs
    rcases hs with hs | rfl
    · exact h.num s hs
    · exact n
theorem Left.ok {dim : Nat} {ws : List Nat} {i : Nat} {ts : List Tm} (h : Left (choices (dim :: ws)) i ts) (i81 : i ≤ 81) : TermsOk dim ws 4000 ts ∧ ts.length ≤ 100 ∧ ∀ t ∈ ts, Cf 8 t.2.2 := by
  have few := h.few
  have ech : ∀ t ∈ ts, t.2.1.length = ws.length ∧ t.1 < dim ∧ ∀ (i c n : Nat), t.2.1[i]? = some c → ws[i]? = some n → c < n := fun t ht => by
    obtain ⟨j, _, e⟩ := h.mem t ht
    obtain ⟨l1, l2⟩ := (choices_ok (dim :: ws)).each _ (List.mem_of_getElem? e)
    exact ⟨by simpa [key] using l1, l2 0 t.1 dim rfl rfl, fun i c n hc hn => l2 (i + 1) c n hc hn⟩
  refine ⟨⟨by omega, fun t ht => ?_, fun j a b ha hb => ?_⟩, by omega, fun t ht => (cf_num (h.num t ht)).mono (by decide)⟩
  · obtain ⟨a, b, c⟩ := ech t ht
    exact ⟨b, a, c, (h.num t ht).1⟩
  · obtain ⟨h1, e1⟩ := List.getElem?_eq_some_iff.mp ha
    obtain ⟨h2, e2⟩ := List.getElem?_eq_some_iff.mp hb
    have := List.pairwise_iff_getElem.mp h.asc j (j + 1) h1 h2 (by omega)
    rw [e1, e2] at this
    have la := (ech a (List.mem_of_getElem? ha)).1
    have lb := (ech b (List.mem_of_getElem? hb)).1
    rw [lt_keyT (by omega)]
    exact this
section
variable {P : Program} {w : World} {K : PySem.W.Frag} {mg : Str → Option Value} {base : Heap}
abbrev s__law_shape : Stmt := topS 78
theorem sc__law_shape : FnScope ["well", "kinds", "dims", "reads", "maps", "k", "row", "word", "fields", "share", "terms", "cols"] ["well", "kinds", "dims", "reads"] (defScope s__law_shape) := ⟨rfl, rfl, rfl, by decide +kernel, rfl, by decide +kernel, by decide +kernel⟩
def sp_shape (K : PySem.W.Frag) : Sp := fun vs H Q _ => ∃ (c : Addr) (v : V) (dl rl : Addr) (ks : List Kd) (dims : List Nat) (ws : List V) (rs : List (Str × Str)), vs = [.ref c, v, .ref dl, .ref rl] ∧ Well H c ∧ Im K H v (ksD ks) ∧ KindsOk ks ∧ Small ks ∧ dl ≠ c ∧ rl ≠ c ∧ H dl = some (.lst (dims.map fun n : Nat => V.int (n : Nat))) ∧ dims.length = ks.length ∧ (∀ d ∈ dims, d ≤ 3) ∧ H rl = some (.lst ws) ∧ ImAll K H ws (rs.map prD) ∧ rs.length ≤ 20 ∧ RdHeads ks rs ∧
  ∀ p F H', Well H' c → But c H H' → Im K H' (.ref p) (fmD F) → Shp ks rs F → Q (.ref p) H'
theorem sum_le : ∀ (l : List Nat) (b : Nat), (∀ d ∈ l, d ≤ b) → l.sum ≤ l.length * b
  | [], b, _ => by simp
  | d :: l, b, h => by
    have h1 := h d (List.mem_cons_self ..)
    have h2 := sum_le l b fun x hx => h x (List.mem_cons_of_mem _ hx)
    rw [List.sum_cons, List.length_cons, Nat.add_mul]
    omega
set_option maxHeartbeats 2000000 in
theorem ok__law_shape {f : Addr} {fd : FuncData} {k : Nat} (F : Fun K "_law_shape" "_law_shape" s__law_shape f fd) (T : Tx K mg){k1 : Nat} (D__law_sip : Def P w K mg base k1 "_law_sip" s__law_sip ["well", "many"] sp_sip) {k2 : Nat} (D__law_choices : Def P w K mg base k2 "_law_choices" s__law_choices ["sizes"] (sp_choices K)) {k3 : Nat} (D__law_number : Def P w K mg base k3 "_law_number" s__law_number ["well"] (sp_number K)) {k4 : Nat} (D__law_widths : Def P w K mg base k4 "_law_widths" s__law_widths ["kinds", "dims", "fields"] (sp_lwidths K)) {k5 : Nat} (D__law_told_reads : Def P w K mg base k5 "_law_told_reads" s__law_told_reads ["well", "kinds", "dims", "reads"] (sp_told K)) (e1 : k1 ≤ k) (e2 : k2 ≤ k) (e3 : k3 ≤ k) (e4 : k4 ≤ k) (e5 : k5 ≤ k) : FnOk P w K mg base CX0 (k + 1) f fd ["well", "kinds", "dims", "reads"] (sp_shape K) := by
  have nd := sc__law_shape.nd
  refine F.ok sc__law_shape (fun vs H Q E h => ?_) (fun cdv A outer s H vs Q E hr h => ?_)
  · obtain ⟨_, _, _, _, _, _, _, _, rfl, _⟩ := h
    rfl
  · obtain ⟨c, v, dl, rl, ks, dims, ws, rs, rfl, u, iv, ok, sm, ndc, nrc, edl, ld, d3, erl, irs, r20, rh, q⟩ := h
    obtain ⟨ka, kx, rfl, hka, hkx⟩ := iv.tuple_inv
    have lk : kx.length = ks.length := all_len hkx
    have kf := sm.few
    refine ⟨_, (pss_cons (ps_set (i := 4) nd rfl (.inl rfl) (pe_lst pa_nil))
      (pss_cons (ps_for PassesOwn.never rfl (pi_range1 rfl T.m_range (pa_cons (pe_callB (kcall_len K) (by rfl) T.m_len PySem.boot_len (pa_cons (pv 1) pa_nil)) pa_nil)) (pg_name (i := 5) nd rfl (.inl rfl))
        (pss_cons (ps_set (i := 6) nd rfl (.inl rfl) (pe_lst pa_nil))
        (pss_cons (ps_for PassesOwn.never rfl (kpi_tup K (pe_ix (kix_tup K) (pe_ix (kix_tup K) (pv 1) (pv 5) (fun _ _ => rfl)) pe_int (fun _ _ => rfl))) (kpg_tup K (n := 2) rfl (pgs_cons (pg_name (i := 7) nd rfl (.inl rfl)) (pgs_cons (pg_name (i := 8) nd rfl (.inl rfl)) pgs_nil)))
          (pss_cons (ps_set (i := 9) nd rfl (.inl rfl) (pe_op op_add pe_int (pe_def D__law_sip (hr.mono (by omega)) rfl (pa_cons (pv 0) (pa_cons pe_int pa_nil)))))
          (pss_cons (ps_set (i := 10) nd rfl (.inl rfl) (pe_lst pa_nil))
          (pss_cons (ps_for PassesOwn.never rfl (kpi_list K (pe_def D__law_choices (hr.mono (by omega)) rfl (pa_cons (pe_op op_cat (pe_lst (pa_cons (pe_ix (kix_list K) (pv 2) (pv 5) (fun _ _ => rfl)) pa_nil)) (pe_def D__law_widths (hr.mono (by omega)) rfl (pa_cons (pv 1) (pa_cons (pv 2) (pa_cons (pv 8) pa_nil))))) pa_nil))) (pg_name (i := 11) nd rfl (.inl rfl))
            (pss_one (ps_if (pt_cmpR op_lt (pe_def D__law_sip (hr.mono (by omega)) rfl (pa_cons (pv 0) (pa_cons pe_int pa_nil))) (pv 9) (nomark _))
              (pss_one (ps_expr (pe_bm PySem.F.plainAttrs_list PySem.F.slot_list_append PySem.F.type_list_append mt_append (pv 10) (pa_cons (pe_tup (pa_cons (pe_ix (kix_tup K) (pv 11) pe_int (fun _ _ => rfl)) (pa_cons (pe_slice (ksl_tupA K) (pv 11) (po_some pe_int) po_none) (pa_cons (pe_def D__law_number (hr.mono (by omega)) rfl (pa_cons (pv 0) pa_nil)) pa_nil)))) pa_nil))))
              pss_nil)))
          (pss_one (ps_expr (pe_bm PySem.F.plainAttrs_list PySem.F.slot_list_append PySem.F.type_list_append mt_append (pv 6) (pa_cons (pe_callTy (kcall_tuple K) (by rfl) T.m_tuple (by decide +kernel) (pa_cons (pv 10) pa_nil)) pa_nil))))))))
        (pss_one (ps_expr (pe_bm PySem.F.plainAttrs_list PySem.F.slot_list_append PySem.F.type_list_append mt_append (pv 4) (pa_cons (pe_callTy (kcall_tuple K) (by rfl) T.m_tuple (by decide +kernel) (pa_cons (pv 6) pa_nil)) pa_nil)))))))
      (pss_one (ps_ret (pe_tup (pa_cons (pv 1) (pa_cons (pe_callTy (kcall_tuple K) (by rfl) T.m_tuple (by decide +kernel) (pa_cons (pv 2) pa_nil)) (pa_cons (pe_callTy (kcall_tuple K) (by rfl) T.m_tuple (by decide +kernel) (pa_cons (pv 4) pa_nil)) (pa_cons (pe_def D__law_told_reads (hr.mono (by omega)) rfl (pa_cons (pv 0) (pa_cons (pv 1) (pa_cons (pv 2) (pa_cons (pv 3) pa_nil))))) pa_nil))))))))), ?_⟩
    refine ⟨by show 0 ≤ sizeLine; decide, fun ML hML => ?_⟩
    have nMc := u.ne hML
    refine ⟨.ref ka, rfl, ka, kx, rfl, .inr (hka.mono (tk_new hML)).sq, (kx.length : Nat), rfl, by omega, by omega, ?_⟩
    refine for_it (walk_range (lo := 0) (n := (kx.length : Int).toNat)) (fun i σ Ha => ∃ (y5 y6 y7 y8 y9 y10 y11 : Option V) (us : List V) (mps : List (List (List Tm))), σ = [some (.ref c), some (.ref ka), some (.ref dl), some (.ref rl), some (.ref ML), y5, y6, y7, y8, y9, y10, y11] ∧ Well Ha c ∧ But c H Ha ∧ Ha ML = some (.lst us) ∧ ImAll K Ha us (mps.map mrD) ∧ mps.length = i ∧ ∀ (i : Nat) row, mps[i]? = some row → RowOk ks dims i row) ⟨_, _, _, _, _, _, _, [], [], rfl, u.same (same_new hML), but_same (same_new hML), upd_same, .nil, rfl, fun i row h => by simp at h⟩ (fun _ _ _ _ _ => trivial) ?_ ?_
    · rintro i x σ Ha Hb hi ⟨y5, y6, y7, y8, y9, y10, y11, us, mps, rfl, ua, ba, eM, im, lm, hrow⟩ ⟨rfl, rfl⟩
      rw [Int.toNat_natCast] at hi
      show gName 5 (V.int ((0 : Int) + (i : Nat))) _ _ _
      rw [show (0 : Int) + (i : Nat) = (i : Nat) by omega]
      obtain ⟨kd, hkd⟩ : ∃ kd, ks[i]? = some kd := ⟨_, List.getElem?_eq_getElem (by omega)⟩
      have kmem := List.mem_of_getElem? hkd
      obtain ⟨dm, hdm⟩ : ∃ dm, dims[i]? = some dm := ⟨_, List.getElem?_eq_getElem (by omega)⟩
      have dm3 := d3 dm (List.mem_of_getElem? hdm)
      refine ⟨by show 0 ≤ sizeLine; decide, fun RL hRL => ?_⟩
      have sRL := same_new (o := .lst []) hRL
      have eRL : (upd Hb RL (.lst [])) RL = some (.lst []) := upd_same
      have uR := ua.same sRL
      have nRc := ua.ne hRL
      have nMR : ML ≠ RL := ne_of_none eM hRL
      have hRL0 : H RL = none := ba.free ua hRL
      have bR : But c H (upd Hb RL (.lst [])) := ba.trans (but_same sRL)
      have bR' : But c Hb (upd Hb RL (.lst [])) := but_same sRL
      generalize upd Hb RL (.lst []) = H2 at *
      obtain ⟨x, ex, ix⟩ := all_at (ImAll.mono (bR.tk u) _ hkx) hkd
      obtain ⟨pk, w1, w2, rfl, hpk, iw1, iw2⟩ := im_pair ix
      obtain ⟨pm, ms, rfl, hpm, hms⟩ := iw2.tuple_inv
      have lms : ms.length = kd.2.length := all_len hms
      have k3' := sm.mks kd kmem
      refine ⟨.ref ka, rfl, .int (i : Nat), rfl, ka, kx, _, .ref pk, rfl, rfl, (hka.mono (bR.tk u)).sq, atI_nat ex, pk, _, 1, _, rfl, rfl, hpk.sq, atI_nat (j := 1) rfl, pm, rfl, ⟨_, hpm.sq⟩, ?_⟩
      refine for_it (walk_tup (xs := ms)) (fun j σ Hc => ∃ (y7 y8 y9 y10 y11 : Option V) (zs : List V) (row : List (List Tm)), σ = [some (.ref c), some (.ref ka), some (.ref dl), some (.ref rl), some (.ref ML), some (.int (i : Nat)), some (.ref RL), y7, y8, y9, y10, y11] ∧ Well Hc c ∧ But c Hb Hc ∧ ITup K Hc pm ms ∧ ImAll K Hc ms (kd.2.map mkD) ∧ Hc RL = some (.lst zs) ∧ ImAll K Hc zs (row.map tsD) ∧ row.length = j ∧ ∀ (j : Nat) m ts, kd.2[j]? = some m → row[j]? = some ts → CellOk ks dims i m ts) ⟨_, _, _, _, _, [], [], rfl, uR, bR', hpm, hms, eRL, .nil, rfl, fun j m ts _ h => by simp at h⟩ (fun j σ Hc _ z => ?_) ?_ ?_
      · obtain ⟨_, _, _, _, _, _, _, _, _, _, hp, _⟩ := z
        exact hp.sq
      · rintro j x σ Hc Hd hj ⟨y7, y8, y9, y10, y11, zs, row, rfl, uc, bc, hpm, hms, eR, iR, lrow, hcell⟩ ⟨rfl, hxj⟩
        obtain ⟨m, hm, imm⟩ := all_get hms hxj
        obtain ⟨pp, w3, w4, rfl, hpp, iw3, iw4⟩ := im_pair imm
        obtain rfl := iw3.str_inv
        obtain ⟨pf, fs, rfl, hpf, hfs⟩ := iw4.tuple_inv
        have f3 := sm.flds kd kmem m (List.mem_of_getElem? hm)
        have bH := ba.trans bc
        refine ⟨pp, _, rfl, hpp.sq, rfl, .str m.1, _, rfl, .ref pf, _, rfl, rfl, ?_⟩
        refine ⟨.ref c, rfl, c, 3, rfl, uc, by decide, by decide, fun d8 H8 d80 d83 u8 b8 => ⟨_, _, rfl, rfl, ?_⟩⟩
        refine ⟨by show 0 ≤ sizeLine; decide, fun TL hTL => ?_⟩
        have sTL := same_new (o := .lst []) hTL
        have nTc := u8.ne hTL
        have hTLd : Hd TL = none := b8.free u8 hTL
        have eTL : (upd H8 TL (.lst [])) TL = some (.lst []) := upd_same
        have u9 := u8.same sTL
        have b9 : But c Hd (upd H8 TL (.lst [])) := b8.trans (but_same sTL)
        have nRT : RL ≠ TL := ne_of_none (b8 _ _ nRc eR) hTL
        generalize upd H8 TL (.lst []) = H9 at *
        have bH9 := bH.trans b9
        have eat : (dims.map fun n : Nat => V.int (n : Nat))[i]? = some (.int (dm : Nat)) := by rw [List.getElem?_map, hdm]; rfl
        refine ⟨.ref dl, rfl, .int (i : Nat), rfl, dl, _, _, .int (dm : Nat), rfl, rfl, .of (bH9 _ _ ndc edl), atI_nat eat, by show 1 ≤ sizeLine; decide, fun A2 hA2 => ?_⟩
        have sA2 := same_new (o := .lst [.int (dm : Nat)]) hA2
        have eA2 : (upd H9 A2 (.lst [.int (dm : Nat)])) A2 = some (.lst [.int (dm : Nat)]) := upd_same
        have hA2T : TL ≠ A2 := ne_of_none eTL hA2
        generalize upd H9 A2 (.lst [.int (dm : Nat)]) = H10 at *
        have bH10 : But c H H10 := bH9.trans (but_same sA2)
        have b10 : But c Hd H10 := b9.trans (but_same sA2)
        have hfl : ∀ f ∈ m.2, f = "number" ∨ f ∈ ks.map (·.1) ∧ (ks.map (·.1)).idxOf f < dims.length := fun f hf => by
          rcases ok.flds kd kmem m (List.mem_of_getElem? hm) f hf with h | h
          · exact .inl h
          · have := List.idxOf_lt_length_of_mem h
            rw [List.length_map] at this
            exact .inr ⟨h, by omega⟩
        refine ⟨.ref ka, rfl, .ref dl, rfl, .ref pf, rfl, .ref ka, .ref pf, dl, ks, m.2, dims, rfl, Im.mono (bH10.tk u) _ iv, .tup (hpf.mono (b10.tk uc)) (ImAll.mono (b10.tk uc) _ hfs), bH10 _ _ ndc edl, ok, by omega, hfl, fun WL H11 s11 hWL eWL => ?_⟩
        refine ⟨A2, WL, _, _, rfl, rfl, s11 _ _ eA2, eWL, ?_, fun SL hSL => ?_⟩
        · simp only [List.length_map, List.length_singleton]
          exact Nat.le_trans (show 1 + m.2.length ≤ 1000 by omega) (by decide)
        have sSL := same_new (o := .lst ([V.int (dm : Nat)] ++ (m.2.map (wd (ks.map (·.1)) dims)).map fun n : Nat => V.int (n : Nat))) hSL
        have eSL : (upd H11 SL (.lst ([V.int (dm : Nat)] ++ (m.2.map (wd (ks.map (·.1)) dims)).map fun n : Nat => V.int (n : Nat)))) SL = some (.lst ((dm :: m.2.map (wd (ks.map (·.1)) dims)).map fun n : Nat => V.int (n : Nat))) := upd_same
        generalize upd H11 SL (.lst ([V.int (dm : Nat)] ++ (m.2.map (wd (ks.map (·.1)) dims)).map fun n : Nat => V.int (n : Nat))) = H12 at *
        have wd3 : ∀ n ∈ dm :: m.2.map (wd (ks.map (·.1)) dims), n ≤ 3 := fun n hn => by
          rcases List.mem_cons.mp hn with rfl | hn
          · exact dm3
          · obtain ⟨f, hf, rfl⟩ := List.mem_map.mp hn
            unfold wd
            split
            · rw [List.getD_eq_getElem?_getD]
              by_cases h : (ks.map (·.1)).idxOf f < dims.length
              · rw [List.getElem?_eq_getElem h]
                exact d3 _ (List.getElem_mem h)
              · rw [List.getElem?_eq_none (by omega)]; decide
            · decide
        have wl4 : (dm :: m.2.map (wd (ks.map (·.1)) dims)).length ≤ 4 := by rw [List.length_cons, List.length_map]; omega
        refine ⟨SL, _, rfl, eSL, fun n hn => by have := wd3 n hn; omega, fun t => by have := choices_few wd3 wl4 t; omega, fun t r hr => ?_, fun CL cs H13 s13 hCL eCL iCL => ⟨CL, rfl, ⟨_, .of eCL⟩, ?_⟩⟩
        · have := ((choices_ok _).each r hr).1
          rw [List.length_take] at this
          omega
        have s913 : Same H9 H13 := ((sA2.trans s11).trans sSL).trans s13
        have u13 := u9.same s913
        have b13 : But c Hd H13 := b9.trans (but_same s913)
        have eT13 := s913 _ _ eTL
        have nCc : CL ≠ c := (((u9.same sA2).same s11).same sSL).ne hCL
        have nCT : CL ≠ TL := (ne_of_none (sSL _ _ (s11 _ _ (sA2 _ _ eTL))) hCL).symm
        have lcs : cs.length = (choices (dm :: m.2.map (wd (ks.map (·.1)) dims))).length := all_len iCL
        have c81 := choices_few wd3 wl4 (dm :: m.2.map (wd (ks.map (·.1)) dims)).length
        rw [List.take_of_length_le (Nat.le_refl _)] at c81
        refine for_it (walk_list (xs := cs)) (fun t σ Hx => ∃ (y11 : Option V) (tv : List V) (ts : List Tm), σ = [some (.ref c), some (.ref ka), some (.ref dl), some (.ref rl), some (.ref ML), some (.int (i : Nat)), some (.ref RL), some (.str m.1), some (.ref pf), some (.int (1 + d8)), some (.ref TL), y11] ∧ Well Hx c ∧ But c Hd Hx ∧ Hx CL = some (.lst cs) ∧ ImAll K Hx cs ((choices (dm :: m.2.map (wd (ks.map (·.1)) dims))).map nsD) ∧ Hx TL = some (.lst tv) ∧ ImAll K Hx tv (ts.map tmD) ∧ Left (choices (dm :: m.2.map (wd (ks.map (·.1)) dims))) t ts) ⟨_, [], [], rfl, u13, b13, eCL, iCL, eT13, .nil, ⟨Nat.le_refl _, .nil, fun t h => by simp at h, fun t h => by simp at h⟩⟩ (fun t σ Hx _ z => ?_) ?_ ?_
        · obtain ⟨_, _, _, _, _, _, eC, _⟩ := z
          exact .of eC
        · rintro t x σ Hx Hy ht ⟨y11, tv, ts, rfl, ux, bx, eC, iC, eT, iT, lf⟩ ⟨rfl, hxt⟩
          obtain ⟨r, hr', ir⟩ := all_get iC hxt
          obtain ⟨p, rv, rfl, hp, hrv⟩ := ir.tuple_inv
          obtain rfl := im_nats hrv
          have lr := ((choices_ok _).each r (List.mem_of_getElem? hr')).1
          obtain ⟨r0, rest, rfl⟩ : ∃ r0 rest, r = r0 :: rest := by
            cases r with
            | nil => simp at lr
            | cons a b => exact ⟨a, b, rfl⟩
          refine ⟨.ref c, rfl, c, 4, rfl, ux, by decide, by decide, fun d9 H14 d90 d94 u14 b14 => ⟨.int (1 + d8), rfl, _, _, rfl, rfl, _, rfl, ?_⟩⟩
          have eT14 := b14 _ _ nTc eT
          have eC14 := b14 _ _ nCc eC
          have t14 := b14.tk ux
          by_cases hs : d9 < 1 + d8
          · rw [decide_eq_true hs]
            refine iteT ⟨.ref TL, rfl, .inl ⟨rfl, _, .of eT14⟩, .ref p, rfl, p, _, 0, .int (r0 : Nat), rfl, rfl, (hp.mono t14).sq, atI_nat (j := 0) rfl, .ref p, rfl, 1, rfl, ?_⟩
            dsimp only [tNoPart]
            refine sl_any (hp.mono t14) fun p2 H15 s15 ip2 => ?_
            rw [show cutV ((r0 :: rest).map fun n : Nat => V.int (n : Nat)) (some 1) none = rest.map fun n : Nat => V.int (n : Nat) from cut_drop (n := 1) (by rw [List.length_map, List.length_cons]; omega)] at ip2
            refine ⟨.ref c, rfl, c, rfl, u14.same s15, fun p3 q0 H16 u16 b16 nq i16 => ⟨by show 3 ≤ sizeLine; decide, fun T hT => ?_⟩⟩
            have sT := same_new (o := .tup [.int (r0 : Nat), .ref p2, .ref p3]) hT
            have b17 : But c H14 (upd H16 T (.tup [.int (r0 : Nat), .ref p2, .ref p3])) := ((but_same s15).trans b16).trans (but_same sT)
            have it : Im K (upd H16 T (.tup [.int (r0 : Nat), .ref p2, .ref p3])) (.ref T) (tmD (r0, rest, q0)) := .tup (.inl upd_same) (.cons (.int _) (.cons (.tup ((ip2.mono (b16.tk (u14.same s15))).mono (tk_same sT)) (nats_im rest)) (.cons (Im.mono (tk_same sT) _ i16) .nil)))
            have u17 := u16.same sT
            generalize upd H16 T (.tup [.int (r0 : Nat), .ref p2, .ref p3]) = H17 at *
            have eT17 := b17 _ _ nTc eT14
            have ltv : tv.length ≤ 81 := by
              have := lf.few
              rw [all_len iT]; omega
            have t17 := t14.trans (b17.tk u14)
            refine ⟨TL, tv, .ref T, rfl, rfl, eT17, small1000 (by omega), _, tv ++ [.ref T], ts ++ [(r0, rest, q0)], rfl, u17.upd nTc, fun b o nb e => ?_, ?_, ImAll.mono (t17.trans (tk_lst eT17)) _ iC, upd_same, ?_, lf.snoc hr' nq⟩
            · rw [upd_ne (ne_of_none e hTLd)]
              exact b17 _ _ nb (b14 _ _ nb (bx _ _ nb e))
            · rw [upd_ne nCT]
              exact b17 _ _ nCc eC14
            · rw [List.map_append]
              exact (ImAll.mono (t17.trans (tk_lst eT17)) _ iT).snoc (Im.mono (tk_lst eT17) _ it)
          · rw [decide_eq_false hs]
            exact iteF ⟨_, tv, ts, rfl, u14, bx.trans b14, eC14, ImAll.mono t14 _ iC, eT14, ImAll.mono t14 _ iT, lf.up⟩
        · rintro σ Hx ⟨y11, tv, ts, rfl, ux, bx, eC, iC, eT, iT, lf⟩
          rw [lcs] at lf
          have eRx := bx _ _ nRc eR
          refine ⟨.ref RL, rfl, .inl ⟨rfl, _, .of eRx⟩, .ref TL, rfl, TL, tv, rfl, .inl ⟨.of eT, fun l hl => ?_⟩⟩
          have sl := same_new (o := .tup tv) hl
          have il : Im K (upd Hx l (.tup tv)) (.ref l) (tsD ts) := .tup (.inl upd_same) (ImAll.mono (tk_same sl) _ iT)
          have eRl := sl _ _ eRx
          have bl : But c Hd (upd Hx l (.tup tv)) := bx.trans (but_same sl)
          have ul := ux.same sl
          generalize upd Hx l (.tup tv) = H18 at *
          have lzs : zs.length ≤ 3 := by rw [all_len iR]; omega
          refine ⟨RL, zs, .ref l, rfl, rfl, eRl, small1000 (by omega), _, _, _, _, _, zs ++ [.ref l], row ++ [ts], rfl, ul.upd nRc, fun b o nb e => ?_, ?_, ?_, upd_same, ?_, by rw [List.length_append, lrow]; rfl, fun j' m' ts' hm' ht' => ?_⟩
          · rw [upd_ne (ne_of_none e hRL)]
            exact bl _ _ nb (bc _ _ nb e)
          · exact (hpm.mono (bl.tk uc)).mono (tk_lst eRl)
          · exact ImAll.mono ((bl.tk uc).trans (tk_lst eRl)) _ hms
          · rw [List.map_append]
            exact (ImAll.mono ((bl.tk uc).trans (tk_lst eRl)) _ iR).snoc (Im.mono (tk_lst eRl) _ il)
          · rcases get_snoc ht' with h | ⟨h, rfl⟩
            · exact hcell j' m' ts' hm' h
            · rw [h, lrow, hm] at hm'
              obtain rfl := Option.some.inj hm'
              have edm : dims.getD i 0 = dm := by rw [List.getD_eq_getElem?_getD, hdm]; rfl
              unfold CellOk
              rw [edm]
              exact lf.ok c81
      · rintro σ Hc ⟨y7, y8, y9, y10, y11, zs, row, rfl, uc, bc, hpm, hms, eR, iR, lrow, hcell⟩
        rw [lms] at lrow
        have eMc := bc _ _ nMc eM
        refine ⟨.ref ML, rfl, .inl ⟨rfl, _, .of eMc⟩, .ref RL, rfl, RL, zs, rfl, .inl ⟨.of eR, fun l hl => ?_⟩⟩
        have sl := same_new (o := .tup zs) hl
        have il : Im K (upd Hc l (.tup zs)) (.ref l) (mrD row) := .tup (.inl upd_same) (ImAll.mono (tk_same sl) _ iR)
        have eMl := sl _ _ eMc
        have bl : But c Hb (upd Hc l (.tup zs)) := bc.trans (but_same sl)
        have ul := uc.same sl
        generalize upd Hc l (.tup zs) = H18 at *
        have lus : us.length ≤ 3 := by rw [all_len im]; omega
        refine ⟨ML, us, .ref l, rfl, rfl, eMl, small1000 (by omega), _, _, _, _, _, _, _, us ++ [.ref l], mps ++ [row], rfl, ul.upd nMc, fun b o nb e => ?_, upd_same, ?_, by rw [List.length_append, lm]; rfl, fun i' row' h' => ?_⟩
        · rw [upd_ne (ne_of_none e hML)]
          exact bl _ _ nb (ba _ _ nb e)
        · rw [List.map_append]
          exact (ImAll.mono ((bl.tk ua).trans (tk_lst eMl)) _ im).snoc (Im.mono (tk_lst eMl) _ il)
        · rcases get_snoc h' with h | ⟨h, rfl⟩
          · exact hrow i' row' h
          · intro kd' hk'
            rw [h, lm, hkd] at hk'
            obtain rfl := Option.some.inj hk'
            rw [h, lm]
            exact ⟨lrow, hcell⟩
    · rintro σ Ha ⟨y5, y6, y7, y8, y9, y10, y11, us, mps, rfl, ua, ba, eM, im, lm, hrow⟩
      rw [Int.toNat_natCast] at lm
      refine ⟨.ref ka, rfl, .ref dl, rfl, dl, _, rfl, .inl ⟨.of (ba _ _ ndc edl), fun l1 hl1 => ?_⟩⟩
      have s1 := same_new (o := .tup (dims.map fun n : Nat => V.int (n : Nat))) hl1
      have i1 : Im K (upd Ha l1 (.tup (dims.map fun n : Nat => V.int (n : Nat)))) (.ref l1) (nsD dims) := .tup (.inl upd_same) (nats_im dims)
      generalize upd Ha l1 (.tup (dims.map fun n : Nat => V.int (n : Nat))) = H1 at *
      refine ⟨.ref ML, rfl, ML, us, rfl, .inl ⟨.of (s1 _ _ eM), fun l2 hl2 => ?_⟩⟩
      have s2 := same_new (o := .tup us) hl2
      have i2 : Im K (upd H1 l2 (.tup us)) (.ref l2) (mpD mps) := .tup (.inl upd_same) (ImAll.mono (tk_same (s1.trans s2)) _ im)
      generalize upd H1 l2 (.tup us) = H2 at *
      have u2 := (ua.same s1).same s2
      have b2 : But c H H2 := ba.trans (but_same (s1.trans s2))
      refine ⟨.ref c, rfl, .ref ka, rfl, .ref dl, rfl, .ref rl, rfl, c, .ref ka, dl, rl, ks, dims, ws, rs, rfl, u2, Im.mono (b2.tk u) _ iv, ok, ndc, nrc, b2 _ _ ndc edl, ld, fun d hd => by have := d3 d hd; omega, b2 _ _ nrc erl, ImAll.mono (b2.tk u) _ irs, r20, rh.kind, fun p3 rd H3 u3 b3 i3 td => ⟨by show 4 ≤ sizeLine; decide, fun T hT => ?_⟩⟩
      have sT := same_new (o := .tup [.ref ka, .ref l1, .ref l2, .ref p3]) hT
      have b3' : But c H H3 := b2.trans b3
      refine q T ⟨ks, dims, mps, rd⟩ _ (u3.same sT) (b3'.trans (but_same sT)) (.tup (.inl upd_same) (.cons ?_ (.cons ?_ (.cons ?_ (.cons ?_ .nil))))) (shp_mk ok ld (fun d hd => by have := d3 d hd; omega) ?_ (by omega) hrow rh r20 td)
      · exact Im.mono ((b3'.tk u).trans (tk_same sT)) _ iv
      · exact Im.mono (((tk_same s2).trans (b3.tk u2)).trans (tk_same sT)) _ i1
      · exact Im.mono ((b3.tk u2).trans (tk_same sT)) _ i2
      · exact Im.mono (tk_same sT) _ i3
      · have := sum_le dims 3 d3
        omega
end
end K63

set_option Elab.async false
set_option linter.all false
set_option maxRecDepth 100000
set_option exponentiation.threshold 20000
set_option pp.deepTerms false
set_option pp.deepTerms.threshold 8
namespace K63
open PySem PySem.Spec PyProof.Rows L2 Ly Mt
def tNGetK (P : Program) (w : World) (K : PySem.W.Frag) (td ty : TE) : TE := fun σ H Q => td σ H fun x H1 => ty σ H1 fun y H2 => ∃ a xs k b v, x = .ref a ∧ rGetN P w K H2 a y xs k b ∧ valN xs k = some v ∧ Q (.ref v) H2
theorem kpe_nget {X : Cx} (P : Program) (w : World) (K : PySem.W.Frag) {o i : Expr} {pos : Pos} {td ty : TE} (hu : X.A.units + 10 < cLine) (ho : PE X o td) (hi : PE X i ty) (hs : NoSl i) (eP : X.prog = P := by rfl) (ew : X.w = w := by rfl) (eK : X.K = K := by rfl) : PE X (.Subscript o i pos) (tNGetK P w K td ty) := by
  subst eP ew eK
  exact pe_nget hu ho hi hs
theorem hu20 {A : Around} {k : Nat} (hr : Room k A) : A.units + 20 < cLine := by have := hr.units; omega
/-! ### quotients -/
theorem as_div {q : Rat} {t : Int} {n : Nat} (hn : n ≠ 0) (h : q * (n : Rat) = (t : Rat)) : q = Rat.divInt t n := by
  have h0 : ((n : Nat) : Rat) ≠ 0 := fun z => hn (Rat.natCast_eq_zero_iff.mp z)
  have e : q = q * (n : Rat) / (n : Rat) := (Rat.mul_div_cancel h0).symm
  rw [e, h, Rat.divInt_eq_div]; rfl
theorem cf_bd {n : Nat} {q : Rat} (h : Cf n q) (hn : n ≤ 100) : Bd 14 3 q := by
  obtain ⟨t, e, b⟩ := h
  have e6 : q * ((6 : Nat) : Rat) = (t : Rat) := e
  rw [as_div (by decide) e6]
  refine bd_divInt (by decide) ?_ (by decide)
  have : (2 : Nat) ^ 14 = 16384 := by decide
  omega
/-! ### keys of terms -/
def kOf (r : Nat) (cs : List Nat) : NestedKey := .tup [.num (r : Int), .tup (cs.map fun c : Nat => .num (c : Int))]
theorem kDs_nums : ∀ cs : List Nat, kDs (cs.map fun c : Nat => .num (c : Int)) = cs.map nD
  | [] => rfl
  | c :: cs => by
    show kD (.num (c : Int)) :: kDs _ = _
    rw [kDs_nums cs]; rfl
theorem kD_of (r : Nat) (cs : List Nat) (q : Rat) : kD (kOf r cs) = keyT (r, cs, q) := by
  show PyData.tuple [.int (r : Int), .tuple (kDs _)] = _
  rw [kDs_nums]; rfl
theorem nums_inj : ∀ {a b : List Nat}, (a.map fun c : Nat => NestedKey.num (c : Int)) = (b.map fun c : Nat => NestedKey.num (c : Int)) → a = b
  | [], [], _ => rfl
  | [], _ :: _, h => by simp at h
  | _ :: _, [], h => by simp at h
  | x :: a, y :: b, h => by
    rw [List.map_cons, List.map_cons] at h
    injection h with h1 h2
    injection h1 with h3
    rw [nums_inj h2, show x = y by omega]
theorem kOf_inj {r r' : Nat} {a b : List Nat} (h : kOf r a = kOf r' b) : r = r' ∧ a = b := by
  unfold kOf at h
  injection h with h
  injection h with h1 h2
  injection h1 with h1
  injection h2 with h2 _
  injection h2 with h2
  exact ⟨by omega, nums_inj h2⟩
theorem nums_depth : ∀ cs : List Nat, NestedKey.depthAll (cs.map fun c : Nat => .num (c : Int)) = 0
  | [] => by simp [NestedKey.depthAll]
  | c :: cs => by
    rw [List.map_cons]
    simp only [NestedKey.depthAll, NestedKey.depth]
    rw [nums_depth cs]; rfl
theorem kOf_depth (r : Nat) (cs : List Nat) : (kOf r cs).depth ≤ 8 := by
  unfold kOf
  simp only [NestedKey.depth, NestedKey.depthAll, nums_depth]
  decide
theorem nlt_total : ∀ {a b : List Nat}, a.length = b.length → nlt a b = false → nlt b a = false → a = b
  | [], [], _, _, _ => rfl
  | [], _ :: _, h, _, _ => by simp at h
  | _ :: _, [], h, _, _ => by simp at h
  | x :: a, y :: b, h, h1, h2 => by
    have h1' : (decide (x < y) || (decide (x = y) && nlt a b)) = false := h1
    have h2' : (decide (y < x) || (decide (y = x) && nlt b a)) = false := h2
    rw [Bool.or_eq_false_iff] at h1' h2'
    have e : x = y := by
      have := of_decide_eq_false h1'.1
      have := of_decide_eq_false h2'.1
      omega
    subst e
    rw [decide_eq_true rfl, Bool.true_and] at h1' h2'
    rw [nlt_total (by simpa using h) h1'.2 h2'.2]
/-! ### the dict of terms -/
structure XI (K : PySem.W.Frag) (H : Hp) (dim : Nat) (ws : List Nat) (i : Nat) (xs : List NK) : Prop where
  keys : KeysIm K H xs
  nd : (xs.map (·.1)).Nodup
  few : xs.length ≤ i
  each : ∀ x ∈ xs, ∃ r cs q, x.1 = kOf r cs ∧ r < dim ∧ cs.length = ws.length ∧ (∀ (i c n : Nat), cs[i]? = some c → ws[i]? = some n → c < n) ∧ Im K H (.ref x.2.2) (rD q) ∧ Cf i q
theorem XI.mono {K : PySem.W.Frag} {H H' : Hp} {dim : Nat} {ws : List Nat} {i : Nat} {xs : List NK} (h : XI K H dim ws i xs) (t : TK H H') : XI K H' dim ws i xs :=
  ⟨h.keys.mono t, h.nd, h.few, fun x hx => let ⟨r, cs, q, a, b, c, d, e, f⟩ := h.each x hx; ⟨r, cs, q, a, b, c, d, Im.mono t _ e, f⟩⟩
theorem valN_some {xs : List NK} {k : NestedKey} {v : Addr} (h : valN xs k = some v) : ∃ x ∈ xs, x.1 = k ∧ x.2.2 = v := by
  unfold valN at h
  obtain ⟨x, hx, e⟩ := Option.map_eq_some_iff.mp h
  exact ⟨x, List.mem_of_find?_eq_some hx, of_decide_eq_true (List.find?_some (p := fun x : NK => decide (x.1 = k)) hx), e⟩
theorem valN_of {xs : List NK} (nd : (xs.map (·.1)).Nodup) {x : NK} (hx : x ∈ xs) : valN xs x.1 = some x.2.2 := by
  unfold valN
  cases e : xs.find? (fun y => decide (y.1 = x.1)) with
  | none =>
    have := List.find?_eq_none.mp e x hx
    exact absurd (decide_eq_true rfl) this
  | some y =>
    have h1 := List.mem_of_find?_eq_some e
    have h2 : y.1 = x.1 := of_decide_eq_true (List.find?_some (p := fun z : NK => decide (z.1 = x.1)) e)
    obtain ⟨i, hi⟩ := List.getElem?_of_mem h1
    obtain ⟨j, hj⟩ := List.getElem?_of_mem hx
    have g1 : (xs.map (·.1))[i]? = some y.1 := by rw [List.getElem?_map, hi]; rfl
    have g2 : (xs.map (·.1))[j]? = some x.1 := by rw [List.getElem?_map, hj]; rfl
    have hij := (List.getElem?_inj (List.getElem?_eq_some_iff.mp g1).1 nd).mp (g1.trans (by rw [h2]; exact g2.symm))
    subst hij
    rw [hi] at hj
    rw [Option.some.inj hj]; rfl
theorem valN_none {xs : List NK} {k : NestedKey} (h : valN xs k = none) : k ∉ xs.map (·.1) := fun z => by
  obtain ⟨x, hx, e⟩ := List.mem_map.mp z
  unfold valN at h
  rw [Option.map_eq_none_iff] at h
  have := List.find?_eq_none.mp h x hx
  exact this (decide_eq_true e)
theorem XI.put {K : PySem.W.Frag} {H : Hp} {dim : Nat} {ws : List Nat} {i : Nat} {xs : List NK} (h : XI K H dim ws i xs) {r : Nat} {cs : List Nat} {q : Rat} {b v : Addr} (hr : r < dim) (hc : cs.length = ws.length) (hl : ∀ (i c n : Nat), cs[i]? = some c → ws[i]? = some n → c < n)
    (ib : Im K H (.ref b) (kD (kOf r cs))) (iv : Im K H (.ref v) (rD q)) (cf : Cf (i + 1) q) : XI K H dim ws (i + 1) (putN xs (kOf r cs) b v) := by
  have few := h.few
  refine ⟨putN_keys h.keys ib (kOf_depth r cs), ?_, Nat.le_trans (putN_length ..) (by omega), fun x hx => ?_⟩
  · unfold putN
    by_cases hs : (valN xs (kOf r cs)).isSome = true
    · rw [if_pos hs, List.map_map]
      have : (xs.map ((fun x : NK => x.1) ∘ fun x => if x.1 = kOf r cs then (x.1, x.2.1, v) else x)) = xs.map (·.1) := List.map_congr_left fun x _ => by
        show (if x.1 = kOf r cs then (x.1, x.2.1, v) else x).1 = x.1
        split <;> rfl
      rw [this]
      exact h.nd
    · rw [if_neg hs, List.map_append]
      have hn : valN xs (kOf r cs) = none := by simpa using hs
      refine List.nodup_append.mpr ⟨h.nd, List.pairwise_singleton _ _, fun a ha c hc e => ?_⟩
      have hc' : c = kOf r cs := List.mem_singleton.mp hc
      rw [e, hc'] at ha
      exact valN_none hn ha
  · unfold putN at hx
    split at hx
    · obtain ⟨y, hy, rfl⟩ := List.mem_map.mp hx
      obtain ⟨r', cs', q', a1, a2, a3, a4, a5, a6⟩ := h.each y hy
      split
      · exact ⟨r', cs', q, a1, a2, a3, a4, iv, cf⟩
      · exact ⟨r', cs', q', a1, a2, a3, a4, a5, a6.mono (Nat.le_succ i)⟩
    · rcases List.mem_append.mp hx with hx | hx
      · obtain ⟨r', cs', q', a1, a2, a3, a4, a5, a6⟩ := h.each x hx
        exact ⟨r', cs', q', a1, a2, a3, a4, a5, a6.mono (Nat.le_succ i)⟩
      · rw [List.mem_singleton.mp hx]
        exact ⟨r, cs, q, rfl, hr, hc, hl, iv, cf⟩
theorem XI.sorted {K : PySem.W.Frag} {H : Hp} {dim : Nat} {ws : List Nat} {n : Nat} {xs : List NK} (h : XI K H dim ws n xs) : ∀ (i j : Nat) x y, i < j → (xs.mergeSort (PySem.W.dataLe false fun x => kD x.1))[i]? = some x → (xs.mergeSort (PySem.W.dataLe false fun x => kD x.1))[j]? = some y →
    ∀ r cs r' cs', x.1 = kOf r cs → y.1 = kOf r' cs' → nlt (r :: cs) (r' :: cs') = true := fun i j x y hij hx hy r cs r' cs' ex ey => by
  have tl := PySem.W.sortLe_total (PyProof.Rows.listOrd PyProof.Rows.itemOrd) false fun x : NK => PySem.W.keyToks (kD x.1)
  have pw := List.pairwise_mergeSort tl.trans (fun a b => by rw [Bool.or_eq_true]; exact tl.total a b) xs
  obtain ⟨h1, e1⟩ := List.getElem?_eq_some_iff.mp hx
  obtain ⟨h2, e2⟩ := List.getElem?_eq_some_iff.mp hy
  have le := List.pairwise_iff_getElem.mp pw i j h1 h2 hij
  have e1' : (xs.mergeSort (PySem.W.sortLe (PyProof.Rows.listOrd PyProof.Rows.itemOrd) false fun x : NK => PySem.W.keyToks (kD x.1)))[i] = x := e1
  have e2' : (xs.mergeSort (PySem.W.sortLe (PyProof.Rows.listOrd PyProof.Rows.itemOrd) false fun x : NK => PySem.W.keyToks (kD x.1)))[j] = y := e2
  rw [e1', e2'] at le
  have pm := List.mergeSort_perm xs (PySem.W.dataLe false fun x => kD x.1)
  have mx : x ∈ xs := pm.mem_iff.mp (List.mem_of_getElem? hx)
  have my : y ∈ xs := pm.mem_iff.mp (List.mem_of_getElem? hy)
  obtain ⟨r1, c1, _, k1, _, l1, _⟩ := h.each x mx
  obtain ⟨r2, c2, _, k2, _, l2, _⟩ := h.each y my
  obtain ⟨rfl, rfl⟩ := kOf_inj (ex.symm.trans k1)
  obtain ⟨rfl, rfl⟩ := kOf_inj (ey.symm.trans k2)
  have lt0 : PySem.W.dataLt (kD y.1) (kD x.1) = false := by
    have : (!PySem.W.dataLt (kD y.1) (kD x.1)) = true := le
    simpa using this
  rw [ex, ey, kD_of _ _ 0, kD_of _ _ 0, lt_keyT (by show cs'.length = cs.length; omega)] at lt0
  cases e : nlt (r :: cs) (r' :: cs') with
  | true => rfl
  | false =>
    have := nlt_total (a := r :: cs) (b := r' :: cs') (by simp; omega) e lt0
    have nd2 : ((xs.mergeSort (PySem.W.dataLe false fun x => kD x.1)).map (·.1)).Nodup := (pm.map _).nodup_iff.mpr h.nd
    have g1 : ((xs.mergeSort (PySem.W.dataLe false fun x => kD x.1)).map (·.1))[i]? = some x.1 := by rw [List.getElem?_map, hx]; rfl
    have g2 : ((xs.mergeSort (PySem.W.dataLe false fun x => kD x.1)).map (·.1))[j]? = some y.1 := by rw [List.getElem?_map, hy]; rfl
    injection this with t1 t2
    have exy : x.1 = y.1 := by rw [ex, ey, t1, t2]
    have := (List.getElem?_inj (List.getElem?_eq_some_iff.mp g1).1 nd2).mp (g1.trans (by rw [exy]; exact g2.symm))
    omega
/-- the terms that stay of the sorted keys -/
structure Kept (dim : Nat) (ws : List Nat) (ys : List NK) (i n : Nat) (ts : List Tm) : Prop where
  few : ts.length ≤ i
  asc : ts.Pairwise fun a b => nlt (key a) (key b) = true
  mem : ∀ t ∈ ts, ∃ j x, j < i ∧ ys[j]? = some x ∧ x.1 = kOf t.1 t.2.1
  ok : ∀ t ∈ ts, TermOk dim ws t ∧ Cf n t.2.2
theorem Kept.up {dim : Nat} {ws : List Nat} {ys : List NK} {i n : Nat} {ts : List Tm} (h : Kept dim ws ys i n ts) : Kept dim ws ys (i + 1) n ts :=
  ⟨Nat.le_succ_of_le h.few, h.asc, fun t ht => let ⟨j, x, a, b, c⟩ := h.mem t ht; ⟨j, x, by omega, b, c⟩, h.ok⟩
theorem Kept.snoc {dim : Nat} {ws : List Nat} {ys : List NK} {i n : Nat} {ts : List Tm} (h : Kept dim ws ys i n ts) (st : ∀ (i j : Nat) x y, i < j → ys[i]? = some x → ys[j]? = some y → ∀ r cs r' cs', x.1 = kOf r cs → y.1 = kOf r' cs' → nlt (r :: cs) (r' :: cs') = true)
    {t : Tm} {x : NK} (hx : ys[i]? = some x) (ex : x.1 = kOf t.1 t.2.1) (ok : TermOk dim ws t ∧ Cf n t.2.2) : Kept dim ws ys (i + 1) n (ts ++ [t]) := by
  refine ⟨?_, ?_, fun s hs => ?_, fun s hs => ?_⟩
  · rw [List.length_append, List.length_singleton]
    have := h.few
    omega
  · refine List.pairwise_append.mpr ⟨h.asc, List.pairwise_singleton _ _, fun a ha b hb => ?_⟩
    obtain rfl := List.mem_singleton.mp hb
    obtain ⟨j, y, hj, ey, ky⟩ := h.mem a ha
    exact st j i y x hj ey hx _ _ _ _ ky ex
  · rw [List.mem_append, List.mem_singleton] at hs
    rcases hs with hs | rfl
    · obtain ⟨j, x, a, b, c⟩ := h.mem s hs
      exact ⟨j, x, by omega, b, c⟩
    · exact ⟨i, x, by omega, hx, ex⟩
  · rw [List.mem_append, List.mem_singleton] at hs
    rcases hs with hs | rfl
    · exact h.ok s hs
    · exact ok
theorem Kept.terms {dim : Nat} {ws : List Nat} {ys : List NK} {i : Nat} {ts : List Tm} (h : Kept dim ws ys i 8 ts) (i8 : i ≤ 8) : TermsOk dim ws 4000 ts ∧ ts.length ≤ 100 ∧ ∀ t ∈ ts, Cf 8 t.2.2 := by
  have few := h.few
  refine ⟨⟨by omega, fun t ht => (h.ok t ht).1, fun j a b ha hb => ?_⟩, by omega, fun t ht => (h.ok t ht).2⟩
  obtain ⟨h1, e1⟩ := List.getElem?_eq_some_iff.mp ha
  obtain ⟨h2, e2⟩ := List.getElem?_eq_some_iff.mp hb
  have := List.pairwise_iff_getElem.mp h.asc j (j + 1) h1 h2 (by omega)
  rw [e1, e2] at this
  have la := (h.ok a (List.mem_of_getElem? ha)).1.len
  have lb := (h.ok b (List.mem_of_getElem? hb)).1.len
  rw [lt_keyT (by omega)]
  exact this
theorem tk_ext {H : Hp} {p : Addr} {o : HO} {φ : Heap → Prop} (h : H p = some (.ext φ)) : TK H (upd H p o) := fun b ys e => by
  rw [upd_ne (fun z => by rw [z, h] at e; cases e)]; exact e
section
variable {P : Program} {w : World} {K : PySem.W.Frag} {mg : Str → Option Value} {base : Heap}
abbrev s__law_gathered : Stmt := topS 85
theorem sc__law_gathered : FnScope ["terms", "found", "at", "cols", "ratio"] ["terms"] (defScope s__law_gathered) := ⟨rfl, rfl, rfl, by decide +kernel, rfl, by decide +kernel, by decide +kernel⟩
/-- a term as drawn, not yet gathered -/
structure Raw (dim : Nat) (ws : List Nat) (t : Tm) : Prop where
  row : t.1 < dim
  len : t.2.1.length = ws.length
  cols : ∀ (i c n : Nat), t.2.1[i]? = some c → ws[i]? = some n → c < n
  num : Num t.2.2
def sp_gath (K : PySem.W.Frag) : Sp := fun vs H Q _ => ∃ (l : Addr) (us : List V) (tms : List Tm) (dim : Nat) (ws : List Nat), vs = [.ref l] ∧ H l = some (.lst us) ∧ ImAll K H us (tms.map tmD) ∧ tms.length ≤ 8 ∧ (∀ t ∈ tms, Raw dim ws t) ∧
  ∀ p ts H', Same H H' → Im K H' (.ref p) (tsD ts) → (TermsOk dim ws 4000 ts ∧ ts.length ≤ 100 ∧ ∀ t ∈ ts, Cf 8 t.2.2) → Q (.ref p) H'
set_option maxHeartbeats 2000000 in
theorem ok__law_gathered {f : Addr} {fd : FuncData} {k : Nat} (F : Fun K "_law_gathered" "_law_gathered" s__law_gathered f fd) (T : Tx K mg){k1 : Nat} (D__law_plus : Def P w K mg base k1 "_law_plus" s__law_plus ["x", "y"] (sp_lplus K)) (e1 : k1 ≤ k) : FnOk P w K mg base CX0 (k + 1) f fd ["terms"] (sp_gath K) := by
  have nd := sc__law_gathered.nd
  refine F.ok sc__law_gathered (fun vs H Q E h => ?_) (fun cdv A outer s H vs Q E hr h => ?_)
  · obtain ⟨_, _, _, _, _, rfl, _⟩ := h
    rfl
  · obtain ⟨l, us, tms, dim, ws, rfl, el, iu, t8, raw, q⟩ := h
    have lu : us.length = tms.length := all_len iu
    refine ⟨_, (pss_cons (ps_set (i := 1) nd rfl (.inr rfl) pe_dnewN)
      (pss_cons (ps_for PassesOwn.never rfl (kpi_list K (pv 0)) (kpg_tup K (n := 3) rfl (pgs_cons (pg_name (i := 2) nd rfl (.inl rfl)) (pgs_cons (pg_name (i := 3) nd rfl (.inl rfl)) (pgs_cons (pg_name (i := 4) nd rfl (.inl rfl)) pgs_nil))))
        (pss_one (ps_nput (hu10 hr) (pv 1) (pe_tup (pa_cons (pv 2) (pa_cons (pv 3) pa_nil))) (pe_def D__law_plus (hr.mono (by omega)) rfl (pa_cons (pe_nget2 (hu10 hr) (pv 1) (pe_tup (pa_cons (pv 2) (pa_cons (pv 3) pa_nil))) (pe_tup (pa_cons pe_int (pa_cons pe_int pa_nil))) ⟨rfl, rfl, rfl, rfl⟩) (pa_cons (pv 4) pa_nil))) rfl)))
      (pss_one (ps_ret (pe_callTy (kcall_tuple K) (by rfl) T.m_tuple (by decide +kernel) (pa_cons (pe_lc (own := [("at", 2), ("cols", 3)]) (g := _) rfl nd (kpi_list K (pe_callB (call_sortedN rfl (hu20 hr)) (by rfl) T.m_sorted (by decide +kernel) (pa_cons (pv 1) pa_nil))) (blkOk_by (by rfl)) (fun _ _ _ _ _ => (kpg_tup K (n := 2) rfl (pgs_cons (pg_name (i := 2) nd rfl (.inl rfl)) (pgs_cons (pg_name (i := 3) nd rfl (.inl rfl)) pgs_nil)))) (fun _ _ _ _ _ => (pts_one (pt_cmpR op_ne (pe_ix (kix_tup K) (kpe_nget P w K (hu10 hr) (pv 1) (pe_tup (pa_cons (pv 2) (pa_cons (pv 3) pa_nil))) (fun _ _ => rfl)) pe_int (fun _ _ => rfl)) pe_int (nomark _)))) (fun _ _ _ _ _ => (pe_tup (pa_cons (pv 2) (pa_cons (pv 3) (pa_cons (kpe_nget P w K (hu10 hr) (pv 1) (pe_tup (pa_cons (pv 2) (pa_cons (pv 3) pa_nil))) (fun _ _ => rfl)) pa_nil)))))) pa_nil)))))), ?_⟩
    intro d hd
    have nld : l ≠ d := ne_of_none el hd
    refine ⟨.ref l, rfl, l, rfl, ⟨_, .of (same_new hd _ _ el)⟩, ?_⟩
    refine for_it (walk_list (xs := us)) (fun i σ Ha => ∃ (y2 y3 y4 : Option V) (xs : List NK), σ = [some (.ref l), some (.ref d), y2, y3, y4] ∧ Same H Ha ∧ Ha d = some (dN P w d xs) ∧ XI K Ha dim ws i xs) ⟨_, _, _, [], rfl, same_new hd, upd_same, ⟨fun x hx => by simp at hx, .nil, Nat.le_refl _, fun x hx => by simp at hx⟩⟩ (fun i σ Ha _ z => ?_) ?_ ?_
    · obtain ⟨_, _, _, _, _, sm, _⟩ := z
      exact .of (sm _ _ el)
    · rintro i x σ Ha Hb hi ⟨y2, y3, y4, xs, rfl, sm, ed, xi⟩ ⟨rfl, hxi⟩
      obtain ⟨t, ht, it⟩ := all_get (ImAll.mono (tk_same sm) _ iu) hxi
      obtain ⟨px, z1, z2, z3, rfl, hpx, iz1, iz2, iz3⟩ := im_trip it
      obtain rfl := iz1.int_inv
      have rw' := raw t (List.mem_of_getElem? ht)
      have few := xi.few
      refine ⟨px, _, rfl, hpx.sq, rfl, .int (t.1 : Nat), _, rfl, z2, _, rfl, z3, _, rfl, rfl, ?_⟩
      refine ⟨.ref d, rfl, d, xs, rfl, ed, xi.keys, .int (t.1 : Nat), rfl, z2, rfl, by show 2 ≤ sizeLine; decide, fun K1 hK1 => ⟨by show 2 ≤ sizeLine; decide, fun Z1 hZ1 => ?_⟩⟩
      have s1 := same_new (o := .tup [.int (t.1 : Nat), z2]) hK1
      have ik : Im K (upd Hb K1 (.tup [.int (t.1 : Nat), z2])) (.ref K1) (kD (kOf t.1 t.2.1)) := by
        rw [kD_of _ _ 0]
        exact .tup (.inl upd_same) (.cons (.int _) (.cons (Im.mono (tk_same s1) _ iz2) .nil))
      generalize upd Hb K1 (.tup [.int (t.1 : Nat), z2]) = H1 at *
      have s2 := same_new (o := .tup [V.int 0, .int 1]) hZ1
      have iz : Im K (upd H1 Z1 (.tup [V.int 0, .int 1])) (.ref Z1) (rD 0) := rat_mk (q := 0) (.inl upd_same)
      have ik2 := Im.mono (tk_same s2) _ ik
      generalize upd H1 Z1 (.tup [V.int 0, .int 1]) = H2 at *
      have s12 := s1.trans s2
      have xi2 := xi.mono (tk_same s12)
      refine ⟨kOf t.1 t.2.1, K1, ⟨s12 _ _ ed, xi2.keys, rfl, ik2, kOf_depth _ _⟩, ?_⟩
      obtain ⟨ov, q0, eov, io, co⟩ : ∃ (ov : Addr) (q0 : Rat), ((valN xs (kOf t.1 t.2.1)).map V.ref).getD (.ref Z1) = .ref ov ∧ Im K H2 (.ref ov) (rD q0) ∧ Cf i q0 := by
        cases e : valN xs (kOf t.1 t.2.1) with
        | none => exact ⟨Z1, 0, rfl, iz, cf_zero i⟩
        | some v =>
          obtain ⟨x, hx, e1, e2⟩ := valN_some e
          obtain ⟨r, cs, q, _, _, _, _, a5, a6⟩ := xi2.each x hx
          exact ⟨v, q, rfl, by rw [← e2]; exact a5, a6⟩
      rw [eov]
      have cn := cf_num rw'.num
      refine ⟨z3, rfl, .ref ov, z3, q0, t.2.2, rfl, io, Im.mono (tk_same s12) _ iz3, (cf_bd co (by omega)).mono (by decide) (by decide), (cf_bd cn (by omega)).mono (by decide) (by decide), fun p H3 s3 i3 => ?_⟩
      have s13 := s12.trans s3
      refine ⟨.ref d, rfl, .int (t.1 : Nat), rfl, z2, rfl, by show 2 ≤ sizeLine; decide, fun K2 hK2 => ?_⟩
      have s4 := same_new (o := .tup [.int (t.1 : Nat), z2]) hK2
      have ik4 : Im K (upd H3 K2 (.tup [.int (t.1 : Nat), z2])) (.ref K2) (kD (kOf t.1 t.2.1)) := by
        rw [kD_of _ _ 0]
        exact .tup (.inl upd_same) (.cons (.int _) (.cons (Im.mono (tk_same (s13.trans s4)) _ iz2) .nil))
      have i4 := Im.mono (tk_same s4) _ i3
      generalize upd H3 K2 (.tup [.int (t.1 : Nat), z2]) = H4 at *
      have s14 := s13.trans s4
      have ed4 := s14 _ _ ed
      have xi4 := xi.mono (tk_same s14)
      refine ⟨d, xs, kOf t.1 t.2.1, K2, p, rfl, rfl, ⟨ed4, xi4.keys, rfl, ik4, kOf_depth _ _⟩, small1000 (by omega), ?_⟩
      have te : TK H4 (upd H4 d (dN P w d (putN xs (kOf t.1 t.2.1) K2 p))) := tk_ext ed4
      refine ⟨_, _, _, _, rfl, fun b o e => ?_, upd_same, (xi4.put rw'.row rw'.len rw'.cols ik4 i4 (co.add cn)).mono te⟩
      rw [upd_ne (ne_of_none e hd)]
      exact s14 _ _ (sm _ _ e)
    · rintro σ Ha ⟨y2, y3, y4, xs, rfl, sm, ed, xi⟩
      rw [lu] at xi
      have few := xi.few
      have al : PySem.W.AllAlike (xs.map fun x => kD x.1) := by
        intro a ha b hb
        obtain ⟨x, hx, rfl⟩ := List.mem_map.mp ha
        obtain ⟨y, hy, rfl⟩ := List.mem_map.mp hb
        obtain ⟨r, cs, _, e1, _⟩ := xi.each x hx
        obtain ⟨r', cs', _, e2, _⟩ := xi.each y hy
        rw [e1, e2, kD_of _ _ 0, kD_of _ _ 0]
        exact alike_keyT _ _
      have so : PySem.W.Sortable (xs.map fun x => kD x.1) := by
        refine .inl fun a ha => ?_
        obtain ⟨x, hx, rfl⟩ := List.mem_map.mp ha
        obtain ⟨r, cs, _, e1, _⟩ := xi.each x hx
        exact ⟨_, _, by rw [e1, kD_of _ _ 0]; rfl⟩
      have dp : ∀ x ∈ xs, (kD x.1).depth ≤ 8 := fun x hx => by
        obtain ⟨r, cs, _, e1, _⟩ := xi.each x hx
        rw [e1, kD_of _ _ 0]
        have := depth_nats cs
        show max 0 (max (PyData.depthAll (cs.map nD) + 1) 0) + 1 ≤ 8
        omega
      have st := xi.sorted
      have pm := List.mergeSort_perm xs (PySem.W.dataLe false fun x => kD x.1)
      refine ⟨.ref d, rfl, d, xs, rfl, ed, xi.keys, al, so, dp, fun S hS => ⟨S, rfl, ⟨_, .of upd_same⟩, fun D hD => ?_⟩⟩
      generalize hys : xs.mergeSort (PySem.W.dataLe false fun x => kD x.1) = ys at *
      have lys : ys.length = xs.length := pm.length_eq
      have sS := same_new (o := .lst (ys.map fun x => V.ref x.2.1)) hS
      have eS : (upd Ha S (.lst (ys.map fun x => V.ref x.2.1))) S = some (.lst (ys.map fun x => V.ref x.2.1)) := upd_same
      generalize upd Ha S (.lst (ys.map fun x => V.ref x.2.1)) = H1 at *
      have xi1 := xi.mono (tk_same sS)
      have ed1 := sS _ _ ed
      have nSD : S ≠ D := ne_of_none eS hD
      refine lc_it (walk_list (xs := ys.map fun x => V.ref x.2.1)) (fun i Hx => Same H1 Hx ∧ ∃ vs ts, Hx D = some (.lst vs) ∧ ImAll K Hx vs (ts.map tmD) ∧ Kept dim ws ys i tms.length ts) ⟨same_new hD, [], [], upd_same, .nil, ⟨Nat.le_refl _, .nil, fun t h => by simp at h, fun t h => by simp at h⟩⟩ (fun i Hx _ z => .of (z.1 _ _ eS)) (fun i x Hx Hy hi z y => ?_) (fun Hx z => ?_)
      · obtain ⟨s5, vs, ts, eD, iD, kp⟩ := z
        obtain ⟨rfl, hxi⟩ := y
        rw [List.getElem?_map] at hxi
        obtain ⟨x, hx, rfl⟩ := Option.map_eq_some_iff.mp hxi
        have mx : x ∈ xs := pm.mem_iff.mp (List.mem_of_getElem? hx)
        have xi5 := xi1.mono (tk_same s5)
        obtain ⟨r, cs, q0, k1, k2, k3, k4, k5, k6⟩ := xi5.each x mx
        obtain ⟨ikx, _⟩ := xi5.keys x mx
        have vx := valN_of xi.nd mx
        rw [k1] at vx ikx
        rw [kD_of _ _ q0] at ikx
        obtain ⟨pk, w1, w2, e1, hpk, iw1, iw2⟩ := im_pair ikx
        obtain rfl := V.ref.inj e1
        obtain rfl := iw1.int_inv
        refine ⟨_, _, rfl, hpk.sq, rfl, .int (r : Nat), _, rfl, w2, _, rfl, rfl, rfl, ?_⟩
        have ed5 := s5 _ _ ed1
        refine ⟨.ref d, rfl, .int (r : Nat), rfl, w2, rfl, by show 2 ≤ sizeLine; decide, fun K1 hK1 => ?_⟩
        have s6 := same_new (o := .tup [.int (r : Nat), w2]) hK1
        have ik6 : Im K (upd Hy K1 (.tup [.int (r : Nat), w2])) (.ref K1) (kD (kOf r cs)) := by
          rw [kD_of _ _ 0]
          exact .tup (.inl upd_same) (.cons (.int _) (.cons (Im.mono (tk_same s6) _ iw2) .nil))
        generalize upd Hy K1 (.tup [.int (r : Nat), w2]) = H6 at *
        obtain ⟨pv', ev', hpv⟩ := rat_inv (Im.mono (tk_same s6) _ k5)
        obtain rfl := V.ref.inj ev'
        refine ⟨d, xs, kOf r cs, K1, x.2.2, rfl, ⟨s6 _ _ ed5, (xi5.mono (tk_same s6)).keys, rfl, ik6, kOf_depth _ _⟩, vx, _, _, 0, _, rfl, rfl, hpv.sq, atI_nat (j := 0) rfl, rfl, _, rfl, ?_⟩
        by_cases h0 : q0.num = 0
        · rw [decide_eq_true (show V.int q0.num = V.int 0 by rw [h0])]
          refine iteF ⟨s5.trans s6, vs, ts, s6 _ _ eD, ImAll.mono (tk_same s6) _ iD, kp.up⟩
        · rw [decide_eq_false (show ¬ V.int q0.num = V.int 0 from fun z => h0 (V.int.inj z))]
          refine iteT ⟨.int (r : Nat), rfl, w2, rfl, .ref d, rfl, .int (r : Nat), rfl, w2, rfl, by show 2 ≤ sizeLine; decide, fun K2 hK2 => ?_⟩
          have s7 := same_new (o := .tup [.int (r : Nat), w2]) hK2
          have ik7 : Im K (upd H6 K2 (.tup [.int (r : Nat), w2])) (.ref K2) (kD (kOf r cs)) := by
            rw [kD_of _ _ 0]
            exact .tup (.inl upd_same) (.cons (.int _) (.cons (Im.mono (tk_same (s6.trans s7)) _ iw2) .nil))
          generalize upd H6 K2 (.tup [.int (r : Nat), w2]) = H7 at *
          have s67 := s6.trans s7
          refine ⟨d, xs, kOf r cs, K2, x.2.2, rfl, ⟨s67 _ _ ed5, (xi5.mono (tk_same s67)).keys, rfl, ik7, kOf_depth _ _⟩, vx, by show 3 ≤ sizeLine; decide, fun T hT => ?_⟩
          have sT := same_new (o := .tup [.int (r : Nat), w2, .ref x.2.2]) hT
          have s6T := s67.trans sT
          have it : Im K (upd H7 T (.tup [.int (r : Nat), w2, .ref x.2.2])) (.ref T) (tmD (r, cs, q0)) := .tup (.inl upd_same) (.cons (.int _) (.cons (Im.mono (tk_same s6T) _ iw2) (.cons (Im.mono (tk_same s6T) _ k5) .nil)))
          generalize upd H7 T (.tup [.int (r : Nat), w2, .ref x.2.2]) = H8 at *
          have eD8 := s6T _ _ eD
          have kfew := kp.few
          rw [List.length_map] at hi
          refine ⟨vs, eD8, small1000 (by rw [all_len iD]; omega), fun b o e => ?_, vs ++ [.ref T], ts ++ [(r, cs, q0)], upd_same, ?_, kp.snoc st hx k1 ⟨⟨k2, k3, k4, fun z => h0 (by have z2 : q0 = 0 := z; rw [z2]; rfl)⟩, k6⟩⟩
          · rw [upd_ne (ne_of_none e hD)]
            exact s6T _ _ (s5 _ _ e)
          · rw [List.map_append]
            exact (ImAll.mono ((tk_same s6T).trans (tk_lst eD8)) _ iD).snoc (Im.mono (tk_lst eD8) _ it)
      · obtain ⟨s5, vs, ts, eD, iD, kp⟩ := z
        rw [List.length_map, lys] at kp
        have kp8 : Kept dim ws ys xs.length 8 ts := ⟨kp.few, kp.asc, kp.mem, fun t ht => ⟨(kp.ok t ht).1, (kp.ok t ht).2.mono t8⟩⟩
        refine ⟨D, vs, rfl, .inl ⟨.of eD, fun l' hl' => q l' ts _ ((sm.trans (sS.trans s5)).trans (same_new hl')) (.tup (.inl upd_same) (ImAll.mono (tk_new hl') _ iD)) (kp8.terms (by omega))⟩⟩
end
end K63

set_option Elab.async false
set_option linter.all false
set_option maxRecDepth 100000
set_option exponentiation.threshold 20000
set_option pp.deepTerms false
set_option pp.deepTerms.threshold 8
namespace K63
open PySem PySem.Spec PyProof.Rows L2 Ly Mt
theorem min3 (a b c : Nat) : ∃ m : Nat, nuMin3 (.int (a : Nat)) (.int (b : Nat)) (.int (c : Nat)) = some (.int (m : Nat)) ∧ m ≤ a ∧ m ≤ b := by
  have two : ∀ x y : Nat, ∃ m : Nat, nuMin2 (.int (x : Nat)) (.int (y : Nat)) = some (.int (m : Nat)) ∧ m ≤ x ∧ m ≤ y := fun x y => by
    by_cases h : y < x
    · refine ⟨y, ?_, by omega, Nat.le_refl _⟩
      show some (if decide ((y : Int) < (x : Int)) = true then V.int (y : Nat) else V.int (x : Nat)) = _
      rw [decide_eq_true (show (y : Int) < x by omega)]; rfl
    · refine ⟨x, ?_, Nat.le_refl _, by omega⟩
      show some (if decide ((y : Int) < (x : Int)) = true then V.int (y : Nat) else V.int (x : Nat)) = _
      rw [decide_eq_false (show ¬ (y : Int) < x by omega)]; rfl
  obtain ⟨m, e, h1, h2⟩ := two a b
  obtain ⟨n, e2, h3, h4⟩ := two m c
  refine ⟨n, ?_, by omega, by omega⟩
  unfold nuMin3
  rw [e]
  exact e2
theorem inV_nats (z : Nat) : ∀ ys : List Nat, inV (V.int (z : Nat)) (ys.map fun n : Nat => V.int (n : Nat)) = decide (z ∈ ys)
  | [] => rfl
  | y :: ys => by
    have ih := inV_nats z ys
    unfold inV at ih ⊢
    have e : eqV (V.int (y : Nat)) (V.int (z : Nat)) = decide (y = z) := by
      by_cases h : y = z
      · subst h; simp [eqV]
      · have h2 : ¬ ((y : Int) = (z : Int)) := by omega
        simp [eqV, h, h2]
    rw [List.map_cons, List.any_cons, ih, e]
    by_cases h : y = z
    · subst h; simp
    · have h2 : ¬ z = y := fun e => h e.symm
      simp [h, h2]
theorem flat_nats : ∀ ys : List Nat, (ys.map fun n : Nat => V.int (n : Nat)).all flatV = true
  | [] => rfl
  | y :: ys => by rw [List.map_cons, List.all_cons, flat_nats ys]; rfl
section
variable {P : Program} {w : World} {K : PySem.W.Frag} {mg : Str → Option Value} {base : Heap}
abbrev s__law_broad : Stmt := topS 86
theorem sc__law_broad : FnScope ["well", "kinds", "reads", "dims", "left", "k", "maps", "row", "word", "fields", "widths", "terms", "turn", "cols", "width"] ["well", "kinds", "reads"] (defScope s__law_broad) := ⟨rfl, rfl, rfl, by decide +kernel, rfl, by decide +kernel, by decide +kernel⟩
def sp_broad (K : PySem.W.Frag) : Sp := fun vs H Q _ => ∃ (c : Addr) (v : V) (rl : Addr) (ks : List Kd) (ws : List V) (rs : List (Str × Str)), vs = [.ref c, v, .ref rl] ∧ Well H c ∧ Im K H v (ksD ks) ∧ KindsOk ks ∧ Small ks ∧ rl ≠ c ∧ H rl = some (.lst ws) ∧ ImAll K H ws (rs.map prD) ∧ rs.length ≤ 20 ∧ RdHeads ks rs ∧
  ∀ p F H', Well H' c → But c H H' → Im K H' (.ref p) (fmD F) → Shp ks rs F → Q (.ref p) H'
set_option maxHeartbeats 2000000 in
theorem ok__law_broad {f : Addr} {fd : FuncData} {k : Nat} (F : Fun K "_law_broad" "_law_broad" s__law_broad f fd) (T : Tx K mg){k1 : Nat} (D__law_sip : Def P w K mg base k1 "_law_sip" s__law_sip ["well", "many"] sp_sip) {k2 : Nat} (D__law_gathered : Def P w K mg base k2 "_law_gathered" s__law_gathered ["terms"] (sp_gath K)) {k3 : Nat} (D__law_number : Def P w K mg base k3 "_law_number" s__law_number ["well"] (sp_number K)) {k4 : Nat} (D__law_widths : Def P w K mg base k4 "_law_widths" s__law_widths ["kinds", "dims", "fields"] (sp_lwidths K)) {k5 : Nat} (D__law_told_reads : Def P w K mg base k5 "_law_told_reads" s__law_told_reads ["well", "kinds", "dims", "reads"] (sp_told K)) (e1 : k1 ≤ k) (e2 : k2 ≤ k) (e3 : k3 ≤ k) (e4 : k4 ≤ k) (e5 : k5 ≤ k) : FnOk P w K mg base CX0 (k + 1) f fd ["well", "kinds", "reads"] (sp_broad K) := by
  have nd := sc__law_broad.nd
  refine F.ok sc__law_broad (fun vs H Q E h => ?_) (fun cdv A outer s H vs Q E hr h => ?_)
  · obtain ⟨_, _, _, _, _, _, rfl, _⟩ := h
    rfl
  · obtain ⟨c, v, rl, ks, ws, rs, rfl, u, iv, ok, sm, nrc, erl, irs, r20, rh, q⟩ := h
    obtain ⟨ka, kx, rfl, hka, hkx⟩ := iv.tuple_inv
    have lk : kx.length = ks.length := all_len hkx
    have kf := sm.few
    refine ⟨_, (pss_cons (ps_par (i := 3) (j := 4) (by rfl) nd rfl rfl (by decide) rfl rfl (pa_cons (pe_lst pa_nil) (pa_cons pe_int pa_nil)) (by rfl))
      (pss_cons (ps_for PassesOwn.never rfl (pi_range1 rfl T.m_range (pa_cons (pe_callB (kcall_len K) (by rfl) T.m_len PySem.boot_len (pa_cons (pv 1) pa_nil)) pa_nil)) (pg_name (i := 5) nd rfl (.inl rfl))
        (pss_cons (ps_expr (pe_bm PySem.F.plainAttrs_list PySem.F.slot_list_append PySem.F.type_list_append mt_append (pv 3) (pa_cons (pe_callB (call_min3Nu rfl) (by rfl) T.m_min (by decide +kernel) (pa_cons (pv 4) (pa_cons pe_int (pa_cons (pe_op op_mulW pe_int (pe_def D__law_sip (hr.mono (by omega)) rfl (pa_cons (pv 0) (pa_cons pe_int pa_nil)))) pa_nil)))) pa_nil)))
        (pss_one (ps_set (i := 4) nd rfl (.inl rfl) (pe_op op_sub (pv 4) (pe_ix (kix_list K) (pv 3) (pv 5) (fun _ _ => rfl)))))))
      (pss_cons (ps_set (i := 6) nd rfl (.inl rfl) (pe_lst pa_nil))
      (pss_cons (ps_for PassesOwn.never rfl (pi_range1 rfl T.m_range (pa_cons (pe_callB (kcall_len K) (by rfl) T.m_len PySem.boot_len (pa_cons (pv 1) pa_nil)) pa_nil)) (pg_name (i := 5) nd rfl (.inl rfl))
        (pss_cons (ps_set (i := 7) nd rfl (.inl rfl) (pe_lst pa_nil))
        (pss_cons (ps_for PassesOwn.never rfl (kpi_tup K (pe_ix (kix_tup K) (pe_ix (kix_tup K) (pv 1) (pv 5) (fun _ _ => rfl)) pe_int (fun _ _ => rfl))) (kpg_tup K (n := 2) rfl (pgs_cons (pg_name (i := 8) nd rfl (.inl rfl)) (pgs_cons (pg_name (i := 9) nd rfl (.inl rfl)) pgs_nil)))
          (pss_cons (ps_par (i := 10) (j := 11) (by rfl) nd rfl rfl (by decide) rfl rfl (pa_cons (pe_op op_cat (pe_lst (pa_cons (pe_ix (kix_list K) (pv 3) (pv 5) (fun _ _ => rfl)) pa_nil)) (pe_def D__law_widths (hr.mono (by omega)) rfl (pa_cons (pv 1) (pa_cons (pv 3) (pa_cons (pv 9) pa_nil))))) (pa_cons (pe_lst pa_nil) pa_nil)) (by rfl))
          (pss_cons (ps_for PassesOwn.never rfl (pi_range1 rfl T.m_range (pa_cons (pe_ifExp (pt_cmpR op_in_seq pe_int (pv 10) (by rfl)) pe_int (pe_op op_add pe_int (pe_def D__law_sip (hr.mono (by omega)) rfl (pa_cons (pv 0) (pa_cons pe_int pa_nil))))) pa_nil)) (pg_name (i := 12) nd rfl (.inl rfl))
            (pss_cons (ps_setLc (i := 13) (own := [("width", 14)]) (g := gName 14) (tt := tYes) rfl nd rfl rfl (sw_true rfl rfl rfl (by decide +kernel)) (kpi_list K (pv 10)) (blkOk_by (by rfl)) (fun _ _ _ _ _ => (pg_name (i := 14) nd rfl (.inl rfl))) (fun _ _ _ _ _ => pts_nil) (fun _ _ _ _ _ => (pe_def D__law_sip (hr.mono (by omega)) rfl (pa_cons (pv 0) (pa_cons (pv 14) pa_nil)))))
            (pss_one (ps_expr (pe_bm PySem.F.plainAttrs_list PySem.F.slot_list_append PySem.F.type_list_append mt_append (pv 11) (pa_cons (pe_tup (pa_cons (pe_ix (kix_list K) (pv 13) pe_int (fun _ _ => rfl)) (pa_cons (pe_callTy (kcall_tuple K) (by rfl) T.m_tuple (by decide +kernel) (pa_cons (pe_slice sl_list (pv 13) (po_some pe_int) po_none) pa_nil)) (pa_cons (pe_def D__law_number (hr.mono (by omega)) rfl (pa_cons (pv 0) pa_nil)) pa_nil)))) pa_nil))))))
          (pss_one (ps_expr (pe_bm PySem.F.plainAttrs_list PySem.F.slot_list_append PySem.F.type_list_append mt_append (pv 7) (pa_cons (pe_def D__law_gathered (hr.mono (by omega)) rfl (pa_cons (pv 11) pa_nil)) pa_nil)))))))
        (pss_one (ps_expr (pe_bm PySem.F.plainAttrs_list PySem.F.slot_list_append PySem.F.type_list_append mt_append (pv 6) (pa_cons (pe_callTy (kcall_tuple K) (by rfl) T.m_tuple (by decide +kernel) (pa_cons (pv 7) pa_nil)) pa_nil)))))))
      (pss_one (ps_ret (pe_tup (pa_cons (pv 1) (pa_cons (pe_callTy (kcall_tuple K) (by rfl) T.m_tuple (by decide +kernel) (pa_cons (pv 3) pa_nil)) (pa_cons (pe_callTy (kcall_tuple K) (by rfl) T.m_tuple (by decide +kernel) (pa_cons (pv 6) pa_nil)) (pa_cons (pe_def D__law_told_reads (hr.mono (by omega)) rfl (pa_cons (pv 0) (pa_cons (pv 1) (pa_cons (pv 3) (pa_cons (pv 2) pa_nil))))) pa_nil))))))))))), ?_⟩
    refine ⟨by show 0 ≤ sizeLine; decide, fun dl hdl => ⟨_, _, rfl, ?_⟩⟩
    have ndc := u.ne hdl
    have sdl := same_new (o := .lst []) hdl
    refine ⟨.ref ka, rfl, ka, kx, rfl, .inr (hka.mono (tk_new hdl)).sq, (kx.length : Nat), rfl, by omega, by omega, ?_⟩
    refine for_it (walk_range (lo := 0) (n := (kx.length : Int).toNat)) (fun i σ Ha => ∃ (y5 : Option V) (ds : List Nat) (left : Nat), σ = [some (.ref c), some (.ref ka), some (.ref rl), some (.ref dl), some (.int (left : Nat)), y5, none, none, none, none, none, none, none, none, none] ∧ Well Ha c ∧ But c H Ha ∧ Ha dl = some (.lst (ds.map fun n : Nat => V.int (n : Nat))) ∧ ds.length = i ∧ ds.sum + left = 32 ∧ ∀ d ∈ ds, d ≤ 16) ⟨_, [], 32, rfl, u.same sdl, but_same sdl, upd_same, rfl, rfl, fun d hd => by simp at hd⟩ (fun _ _ _ _ _ => trivial) ?_ ?_
    · rintro i x σ Ha Hb hi ⟨y5, ds, left, rfl, ua, ba, ed, lds, hsum, hd16⟩ ⟨rfl, rfl⟩
      rw [Int.toNat_natCast] at hi
      show gName 5 (V.int ((0 : Int) + (i : Nat))) _ _ _
      rw [show (0 : Int) + (i : Nat) = (i : Nat) by omega]
      refine ⟨.ref dl, rfl, .inl ⟨rfl, _, .of ed⟩, .int (left : Nat), rfl, .ref c, rfl, c, 7, rfl, ua, by decide, by decide, fun d8 H8 d80 d87 u8 b8 => ⟨_, _, rfl, rfl, wide_mul (a := 2) (b := 3) (by decide) (by omega) (by decide) (by decide) (by decide), ?_⟩⟩
      obtain ⟨z, rfl⟩ := Int.eq_ofNat_of_zero_le d80
      obtain ⟨m, em, m1, m2⟩ := min3 left 16 (3 * z)
      rw [show (((3 * z : Nat)) : Int) = 3 * (z : Int) by omega] at em
      have ed8 := b8 _ _ ndc ed
      refine ⟨_, _, _, .int (m : Nat), rfl, em, dl, _, _, rfl, rfl, ed8, small1000 (by rw [List.length_map]; omega), ?_⟩
      refine ⟨.int (left : Nat), rfl, .ref dl, rfl, .int (i : Nat), rfl, dl, _, _, .int (m : Nat), rfl, rfl, .of upd_same, atI_nat ?_, _, _, rfl, rfl, ?_⟩
      · rw [List.getElem?_append_right (by rw [List.length_map]; omega), List.length_map, show i - ds.length = 0 by omega]; rfl
      refine ⟨some (.int (i : Nat)), ds ++ [m], left - m, ?_, u8.upd ndc, fun b o nb e => ?_, ?_, ?_, ?_, fun d hd => ?_⟩
      · rw [show ((left - m : Nat) : Int) = (left : Int) - (m : Int) by omega]; rfl
      · rw [upd_ne (ne_of_none e hdl)]; exact b8 _ _ nb (ba _ _ nb e)
      · rw [upd_same, List.map_append]; rfl
      · rw [List.length_append, lds]; rfl
      · rw [List.sum_append, List.sum_cons, List.sum_nil]; omega
      · rw [List.mem_append, List.mem_singleton] at hd
        rcases hd with hd | rfl
        · exact hd16 d hd
        · omega
    · rintro σ H0 ⟨y5, dims, left, rfl, u0, b0, edl, ld, hsum, d16⟩
      rw [Int.toNat_natCast, lk] at ld
      have hdims0 : But c H H0 := b0
      refine ⟨by show 0 ≤ sizeLine; decide, fun ML hML => ?_⟩
      have nMc := u0.ne hML
      have sML := same_new (o := .lst []) hML
      have bM := b0.trans (but_same sML)
      have tM := bM.tk u
      refine ⟨.ref ka, rfl, ka, kx, rfl, .inr (hka.mono tM).sq, (kx.length : Nat), rfl, by omega, by omega, ?_⟩
      refine for_it (walk_range (lo := 0) (n := (kx.length : Int).toNat)) (fun i σ Ha => ∃ (y5 y7 y8 y9 y10 y11 y12 y13 : Option V) (us : List V) (mps : List (List (List Tm))), σ = [some (.ref c), some (.ref ka), some (.ref rl), some (.ref dl), some (.int (left : Nat)), y5, some (.ref ML), y7, y8, y9, y10, y11, y12, y13, none] ∧ Well Ha c ∧ But c H0 Ha ∧ Ha ML = some (.lst us) ∧ ImAll K Ha us (mps.map mrD) ∧ mps.length = i ∧ ∀ (i : Nat) row, mps[i]? = some row → RowOk ks dims i row) ⟨_, _, _, _, _, _, _, _, [], [], rfl, u0.same sML, but_same sML, upd_same, .nil, rfl, fun i row h => by simp at h⟩ (fun _ _ _ _ _ => trivial) ?_ ?_
      · rintro i x σ Ha Hb hi ⟨y5, y7, y8, y9, y10, y11, y12, y13, us, mps, rfl, ua, ba, eM, im, lm, hrow⟩ ⟨rfl, rfl⟩
        rw [Int.toNat_natCast] at hi
        show gName 5 (V.int ((0 : Int) + (i : Nat))) _ _ _
        rw [show (0 : Int) + (i : Nat) = (i : Nat) by omega]
        obtain ⟨kd, hkd⟩ : ∃ kd, ks[i]? = some kd := ⟨_, List.getElem?_eq_getElem (by omega)⟩
        have kmem := List.mem_of_getElem? hkd
        obtain ⟨dm, hdm⟩ : ∃ dm, dims[i]? = some dm := ⟨_, List.getElem?_eq_getElem (by omega)⟩
        have dm3 := d16 dm (List.mem_of_getElem? hdm)
        refine ⟨by show 0 ≤ sizeLine; decide, fun RL hRL => ?_⟩
        have sRL := same_new (o := .lst []) hRL
        have eRL : (upd Hb RL (.lst [])) RL = some (.lst []) := upd_same
        have uR := ua.same sRL
        have nRc := ua.ne hRL
        have nMR : ML ≠ RL := ne_of_none eM hRL
        have bR0 : But c H0 (upd Hb RL (.lst [])) := ba.trans (but_same sRL)
        have bR := b0.trans bR0
        have bR' : But c Hb (upd Hb RL (.lst [])) := but_same sRL
        generalize upd Hb RL (.lst []) = H2 at *
        obtain ⟨x, ex, ix⟩ := all_at (ImAll.mono (bR.tk u) _ hkx) hkd
        obtain ⟨pk, w1, w2, rfl, hpk, iw1, iw2⟩ := im_pair ix
        obtain ⟨pm, ms, rfl, hpm, hms⟩ := iw2.tuple_inv
        have lms : ms.length = kd.2.length := all_len hms
        have k3' := sm.mks kd kmem
        refine ⟨.ref ka, rfl, .int (i : Nat), rfl, ka, kx, _, .ref pk, rfl, rfl, (hka.mono (bR.tk u)).sq, atI_nat ex, pk, _, 1, _, rfl, rfl, hpk.sq, atI_nat (j := 1) rfl, pm, rfl, ⟨_, hpm.sq⟩, ?_⟩
        refine for_it (walk_tup (xs := ms)) (fun j σ Hc => ∃ (y8 y9 y10 y11 y12 y13 : Option V) (zs : List V) (row : List (List Tm)), σ = [some (.ref c), some (.ref ka), some (.ref rl), some (.ref dl), some (.int (left : Nat)), some (.int (i : Nat)), some (.ref ML), some (.ref RL), y8, y9, y10, y11, y12, y13, none] ∧ Well Hc c ∧ But c Hb Hc ∧ ITup K Hc pm ms ∧ ImAll K Hc ms (kd.2.map mkD) ∧ Hc RL = some (.lst zs) ∧ ImAll K Hc zs (row.map tsD) ∧ row.length = j ∧ ∀ (j : Nat) m ts, kd.2[j]? = some m → row[j]? = some ts → CellOk ks dims i m ts) ⟨_, _, _, _, _, _, [], [], rfl, uR, bR', hpm, hms, eRL, .nil, rfl, fun j m ts _ h => by simp at h⟩ (fun j σ Hc _ z => ?_) ?_ ?_
        · obtain ⟨_, _, _, _, _, _, _, _, _, _, _, hp, _⟩ := z
          exact hp.sq
        · rintro j x σ Hc Hd hj ⟨y8, y9, y10, y11, y12, y13, zs, row, rfl, uc, bc, hpm, hms, eR, iR, lrow, hcell⟩ ⟨rfl, hxj⟩
          obtain ⟨m, hm, imm⟩ := all_get hms hxj
          obtain ⟨pp, w3, w4, rfl, hpp, iw3, iw4⟩ := im_pair imm
          obtain rfl := iw3.str_inv
          obtain ⟨pf, fs, rfl, hpf, hfs⟩ := iw4.tuple_inv
          have f3 := sm.flds kd kmem m (List.mem_of_getElem? hm)
          have bH0 := ba.trans bc
          have bH := b0.trans bH0
          refine ⟨pp, _, rfl, hpp.sq, rfl, .str m.1, _, rfl, .ref pf, _, rfl, rfl, ?_⟩
          have eat : (dims.map fun n : Nat => V.int (n : Nat))[i]? = some (.int (dm : Nat)) := by rw [List.getElem?_map, hdm]; rfl
          refine ⟨.ref dl, rfl, .int (i : Nat), rfl, dl, _, _, .int (dm : Nat), rfl, rfl, .of (bH0 _ _ ndc edl), atI_nat eat, by show 1 ≤ sizeLine; decide, fun A2 hA2 => ?_⟩
          have sA2 := same_new (o := .lst [.int (dm : Nat)]) hA2
          have eA2 : (upd Hd A2 (.lst [.int (dm : Nat)])) A2 = some (.lst [.int (dm : Nat)]) := upd_same
          generalize upd Hd A2 (.lst [.int (dm : Nat)]) = H10 at *
          have bH10 : But c H H10 := bH.trans (but_same sA2)
          have bH010 : But c H0 H10 := bH0.trans (but_same sA2)
          have b10 : But c Hd H10 := but_same sA2
          have hfl : ∀ f ∈ m.2, f = "number" ∨ f ∈ ks.map (·.1) ∧ (ks.map (·.1)).idxOf f < dims.length := fun f hf => by
            rcases ok.flds kd kmem m (List.mem_of_getElem? hm) f hf with h | h
            · exact .inl h
            · have := List.idxOf_lt_length_of_mem h
              rw [List.length_map] at this
              exact .inr ⟨h, by omega⟩
          refine ⟨.ref ka, rfl, .ref dl, rfl, .ref pf, rfl, .ref ka, .ref pf, dl, ks, m.2, dims, rfl, Im.mono (bH10.tk u) _ iv, .tup (hpf.mono (b10.tk uc)) (ImAll.mono (b10.tk uc) _ hfs), bH010 _ _ ndc edl, ok, by omega, hfl, fun WL H11 s11 hWL eWL => ?_⟩
          refine ⟨A2, WL, _, _, rfl, rfl, s11 _ _ eA2, eWL, ?_, fun SL hSL => ?_⟩
          · simp only [List.length_map, List.length_singleton]
            exact Nat.le_trans (show 1 + m.2.length ≤ 1000 by omega) (by decide)
          have sSL := same_new (o := .lst ([V.int (dm : Nat)] ++ (m.2.map (wd (ks.map (·.1)) dims)).map fun n : Nat => V.int (n : Nat))) hSL
          have eSL : (upd H11 SL (.lst ([V.int (dm : Nat)] ++ (m.2.map (wd (ks.map (·.1)) dims)).map fun n : Nat => V.int (n : Nat)))) SL = some (.lst ((dm :: m.2.map (wd (ks.map (·.1)) dims)).map fun n : Nat => V.int (n : Nat))) := upd_same
          generalize upd H11 SL (.lst ([V.int (dm : Nat)] ++ (m.2.map (wd (ks.map (·.1)) dims)).map fun n : Nat => V.int (n : Nat))) = H12 at *
          refine ⟨by show 0 ≤ sizeLine; decide, fun TL hTL => ⟨_, _, rfl, ?_⟩⟩
          have sTL := same_new (o := .lst []) hTL
          have s12 := (sA2.trans s11).trans sSL
          have u12 := uc.same s12
          have nTc := u12.ne hTL
          have nSc : SL ≠ c := ((uc.same sA2).same s11).ne hSL
          have eTL : (upd H12 TL (.lst [])) TL = some (.lst []) := upd_same
          have eSL' := sTL _ _ eSL
          have nST : SL ≠ TL := ne_of_none eSL hTL
          have u9 := u12.same sTL
          have hTLd : Hd TL = none := s12.free hTL
          have b9 : But c Hd (upd H12 TL (.lst [])) := but_same (s12.trans sTL)
          generalize upd H12 TL (.lst []) = H9 at *
          have wd16 : ∀ n ∈ dm :: m.2.map (wd (ks.map (·.1)) dims), n ≤ 16 := fun n hn => by
            rcases List.mem_cons.mp hn with rfl | hn
            · exact dm3
            · obtain ⟨f, hf, rfl⟩ := List.mem_map.mp hn
              unfold wd
              split
              · rw [List.getD_eq_getElem?_getD]
                by_cases h : (ks.map (·.1)).idxOf f < dims.length
                · rw [List.getElem?_eq_getElem h]
                  exact d16 _ (List.getElem_mem h)
                · rw [List.getElem?_eq_none (by omega)]; decide
              · decide
          have wl4 : (dm :: m.2.map (wd (ks.map (·.1)) dims)).length ≤ 4 := by rw [List.length_cons, List.length_map]; omega
          generalize hsz : m.2.map (wd (ks.map (·.1)) dims) = wss at *
          dsimp only
          refine for_ifK (fun cnt H' => cnt ≤ 8 ∧ (0 < cnt → 0 ∉ dm :: wss) ∧ Well H' c ∧ But c H9 H') ?_ ?_
          · intro Q' hQ
            refine ⟨.ref SL, rfl, SL, _, rfl, .inl (.of eSL'), rfl, flat_nats _, _, rfl, ?_⟩
            have e0 : inV (V.int 0) ((dm :: wss).map fun n : Nat => V.int (n : Nat)) = decide (0 ∈ dm :: wss) := inV_nats 0 _
            rw [if_neg Bool.false_ne_true, e0]
            by_cases hz : 0 ∈ dm :: wss
            · rw [decide_eq_true hz]
              exact iteT (hQ 0 H9 ⟨by decide, fun h => absurd h (by decide), u9, But.refl c H9⟩)
            · rw [decide_eq_false hz]
              refine iteF ⟨.ref c, rfl, c, 8, rfl, u9, by decide, by decide, fun d8 H8 d80 d88 u8 b8 => ⟨_, _, rfl, rfl, ?_⟩⟩
              obtain ⟨z, rfl⟩ := Int.eq_ofNat_of_zero_le d80
              have := hQ (1 + z) H8 ⟨by omega, fun _ => hz, u8, b8⟩
              rw [show ((1 + z : Nat) : Int) = 1 + (z : Int) by omega] at this
              exact this
          · rintro cnt H7 ⟨c8, c0, u7, b7⟩
            refine ⟨(cnt : Nat), rfl, by omega, by omega, ?_⟩
            have b97 := b9.trans b7
            refine for_it (walk_range (lo := 0) (n := (cnt : Int).toNat)) (fun t σ Hx => ∃ (y12 y13 : Option V) (tv : List V) (tms : List Tm), σ = [some (.ref c), some (.ref ka), some (.ref rl), some (.ref dl), some (.int (left : Nat)), some (.int (i : Nat)), some (.ref ML), some (.ref RL), some (.str m.1), some (.ref pf), some (.ref SL), some (.ref TL), y12, y13, none] ∧ Well Hx c ∧ But c Hd Hx ∧ Hx SL = some (.lst ((dm :: wss).map fun n : Nat => V.int (n : Nat))) ∧ Hx TL = some (.lst tv) ∧ ImAll K Hx tv (tms.map tmD) ∧ tms.length = t ∧ ∀ t ∈ tms, Raw dm wss t) ⟨_, _, [], [], rfl, u7, b97, b7 _ _ nSc eSL', b7 _ _ nTc eTL, .nil, rfl, fun t h => by simp at h⟩ (fun _ _ _ _ _ => trivial) ?_ ?_
            · rintro t x σ Hx Hy ht ⟨y12, y13, tv, tms, rfl, ux, bx, eS, eT, iT, lt, raw⟩ ⟨rfl, rfl⟩
              rw [Int.toNat_natCast] at ht
              have nz := c0 (by omega)
              refine ⟨.ref SL, rfl, SL, rfl, ⟨_, .of eS⟩, fun D hD => ?_⟩
              have nDc := ux.ne hD
              have nTD : TL ≠ D := ne_of_none eT hD
              refine lc_all (walk_list (xs := (dm :: wss).map fun n : Nat => V.int (n : Nat))) (fun s Hz => Well Hz c ∧ But c Hy Hz ∧ ∃ cs : List Nat, Hz D = some (.lst (cs.map fun n : Nat => V.int (n : Nat))) ∧ cs.length = s ∧ ∀ (i a n : Nat), cs[i]? = some a → (dm :: wss)[i]? = some n → a < n) ⟨ux.same (same_new hD), but_same (same_new hD), [], upd_same, rfl, fun i a n h => by simp at h⟩ (fun s Hz _ z => .of (z.2.1 _ _ nSc eS)) (fun s x Hz Hw hs z y => ?_) (fun Hz z => ?_)
              · obtain ⟨uz, bz, cs, eD, lcs, hcs⟩ := z
                obtain ⟨rfl, hxs⟩ := y
                rw [List.getElem?_map] at hxs
                obtain ⟨n, hn, rfl⟩ := Option.map_eq_some_iff.mp hxs
                have nm := List.mem_of_getElem? hn
                have n16 := wd16 n nm
                have n0 : n ≠ 0 := fun z => nz (by rw [← z]; exact nm)
                refine ⟨rfl, .ref c, rfl, .int (n : Nat), rfl, c, (n : Nat), rfl, uz, by omega, by omega, fun d8 H8 d80 d81 u8 b8 => ?_⟩
                obtain ⟨z, rfl⟩ := Int.eq_ofNat_of_zero_le d80
                have eD8 := b8 _ _ nDc eD
                rw [List.length_map] at hs
                refine ⟨_, eD8, small1000 (by rw [List.length_map]; omega), u8.upd nDc, fun b o nb e => ?_, cs ++ [z], ?_, by rw [List.length_append, lcs]; rfl, fun i' a n' ha hn' => ?_⟩
                · rw [upd_ne (ne_of_none e hD)]; exact b8 _ _ nb (bz _ _ nb e)
                · rw [upd_same, List.map_append]; rfl
                · rcases get_snoc ha with h | ⟨h, rfl⟩
                  · exact hcs i' a n' h hn'
                  · rw [h, lcs, hn] at hn'
                    obtain rfl := Option.some.inj hn'
                    omega
              · obtain ⟨uz, bz, cs, eD, lcs, hcs⟩ := z
                rw [List.length_map] at lcs
                obtain ⟨a0, rest, rfl⟩ : ∃ a0 rest, cs = a0 :: rest := by
                  cases cs with
                  | nil => simp at lcs
                  | cons a b => exact ⟨a, b, rfl⟩
                have eTz := bz _ _ nTc eT
                refine ⟨.ref TL, rfl, .inl ⟨rfl, _, .of eTz⟩, .ref D, rfl, D, _, 0, .int (a0 : Nat), rfl, rfl, .of eD, atI_nat (j := 0) rfl, .ref D, rfl, 1, rfl, ?_⟩
                dsimp only [tNoPart]
                refine ⟨D, _, rfl, .of eD, fun S2 hS2 => ?_⟩
                rw [show cutV ((a0 :: rest).map fun n : Nat => V.int (n : Nat)) (some 1) none = rest.map fun n : Nat => V.int (n : Nat) from cut_drop (n := 1) (by rw [List.length_map, List.length_cons]; omega)]
                have sS2 := same_new (o := .lst (rest.map fun n : Nat => V.int (n : Nat))) hS2
                refine ⟨S2, _, rfl, .inl ⟨.of upd_same, fun l2 hl2 => ?_⟩⟩
                have sl2 := same_new (o := .tup (rest.map fun n : Nat => V.int (n : Nat))) hl2
                have il2 : Im K (upd (upd Hz S2 (.lst (rest.map fun n : Nat => V.int (n : Nat)))) l2 (.tup (rest.map fun n : Nat => V.int (n : Nat)))) (.ref l2) (nsD rest) := .tup (.inl upd_same) (nats_im rest)
                have u15 := uz.same (sS2.trans sl2)
                have b15 : But c Hy (upd (upd Hz S2 (.lst (rest.map fun n : Nat => V.int (n : Nat)))) l2 (.tup (rest.map fun n : Nat => V.int (n : Nat)))) := bz.trans (but_same (sS2.trans sl2))
                generalize upd (upd Hz S2 (.lst (rest.map fun n : Nat => V.int (n : Nat)))) l2 (.tup (rest.map fun n : Nat => V.int (n : Nat))) = H15 at *
                refine ⟨.ref c, rfl, c, rfl, u15, fun p3 q0 H16 u16 b16 nq i16 => ⟨by show 3 ≤ sizeLine; decide, fun T hT => ?_⟩⟩
                have sT := same_new (o := .tup [.int (a0 : Nat), .ref l2, .ref p3]) hT
                have it : Im K (upd H16 T (.tup [.int (a0 : Nat), .ref l2, .ref p3])) (.ref T) (tmD (a0, rest, q0)) := .tup (.inl upd_same) (.cons (.int _) (.cons (Im.mono ((b16.tk u15).trans (tk_same sT)) _ il2) (.cons (Im.mono (tk_same sT) _ i16) .nil)))
                have b17 : But c Hy (upd H16 T (.tup [.int (a0 : Nat), .ref l2, .ref p3])) := (b15.trans b16).trans (but_same sT)
                have u17 := u16.same sT
                generalize upd H16 T (.tup [.int (a0 : Nat), .ref l2, .ref p3]) = H17 at *
                have eT17 := b17 _ _ nTc eT
                have ltv : tv.length ≤ 8 := by rw [all_len iT]; omega
                refine ⟨TL, tv, .ref T, rfl, rfl, eT17, small1000 (by omega), _, _, tv ++ [.ref T], tms ++ [(a0, rest, q0)], rfl, u17.upd nTc, fun b o nb e => ?_, ?_, upd_same, ?_, by rw [List.length_append, lt]; rfl, fun x hx => ?_⟩
                · rw [upd_ne (ne_of_none e hTLd)]
                  exact b17 _ _ nb (bx _ _ nb e)
                · rw [upd_ne nST]
                  exact b17 _ _ nSc eS
                · rw [List.map_append]
                  exact (ImAll.mono ((b17.tk ux).trans (tk_lst eT17)) _ iT).snoc (Im.mono (tk_lst eT17) _ it)
                · rw [List.mem_append, List.mem_singleton] at hx
                  rcases hx with hx | rfl
                  · exact raw x hx
                  · exact ⟨hcs 0 a0 dm rfl rfl, by simpa using lcs, fun i a n ha hn => hcs (i + 1) a n ha hn, nq⟩
            · rintro σ Hx ⟨y12, y13, tv, tms, rfl, ux, bx, eS, eT, iT, lt, raw⟩
              rw [Int.toNat_natCast] at lt
              have eRx := bx _ _ nRc eR
              refine ⟨.ref RL, rfl, .inl ⟨rfl, _, .of eRx⟩, .ref TL, rfl, TL, tv, tms, dm, wss, rfl, eT, iT, by omega, raw, fun l ts H18 s18 il tok => ?_⟩
              have eRl := s18 _ _ eRx
              have bl : But c Hd H18 := bx.trans (but_same s18)
              have ul := ux.same s18
              have lzs : zs.length ≤ 3 := by rw [all_len iR]; omega
              refine ⟨RL, zs, .ref l, rfl, rfl, eRl, small1000 (by omega), _, _, _, _, _, _, zs ++ [.ref l], row ++ [ts], rfl, ul.upd nRc, fun b o nb e => ?_, ?_, ?_, upd_same, ?_, by rw [List.length_append, lrow]; rfl, fun j' m' ts' hm' ht' => ?_⟩
              · rw [upd_ne (ne_of_none e hRL)]
                exact bl _ _ nb (bc _ _ nb e)
              · exact (hpm.mono (bl.tk uc)).mono (tk_lst eRl)
              · exact ImAll.mono ((bl.tk uc).trans (tk_lst eRl)) _ hms
              · rw [List.map_append]
                exact (ImAll.mono ((bl.tk uc).trans (tk_lst eRl)) _ iR).snoc (Im.mono (tk_lst eRl) _ il)
              · rcases get_snoc ht' with h | ⟨h, rfl⟩
                · exact hcell j' m' ts' hm' h
                · rw [h, lrow, hm] at hm'
                  obtain rfl := Option.some.inj hm'
                  have edm : dims.getD i 0 = dm := by rw [List.getD_eq_getElem?_getD, hdm]; rfl
                  unfold CellOk
                  rw [edm, hsz]
                  exact tok
        · rintro σ Hc ⟨y8, y9, y10, y11, y12, y13, zs, row, rfl, uc, bc, hpm, hms, eR, iR, lrow, hcell⟩
          rw [lms] at lrow
          have eMc := bc _ _ nMc eM
          refine ⟨.ref ML, rfl, .inl ⟨rfl, _, .of eMc⟩, .ref RL, rfl, RL, zs, rfl, .inl ⟨.of eR, fun l hl => ?_⟩⟩
          have sl := same_new (o := .tup zs) hl
          have il : Im K (upd Hc l (.tup zs)) (.ref l) (mrD row) := .tup (.inl upd_same) (ImAll.mono (tk_same sl) _ iR)
          have eMl := sl _ _ eMc
          have bl : But c Hb (upd Hc l (.tup zs)) := bc.trans (but_same sl)
          have ul := uc.same sl
          generalize upd Hc l (.tup zs) = H18 at *
          have lus : us.length ≤ 3 := by rw [all_len im]; omega
          refine ⟨ML, us, .ref l, rfl, rfl, eMl, small1000 (by omega), _, _, _, _, _, _, _, _, us ++ [.ref l], mps ++ [row], rfl, ul.upd nMc, fun b o nb e => ?_, upd_same, ?_, by rw [List.length_append, lm]; rfl, fun i' row' h' => ?_⟩
          · rw [upd_ne (ne_of_none e hML)]
            exact bl _ _ nb (ba _ _ nb e)
          · rw [List.map_append]
            exact (ImAll.mono ((bl.tk ua).trans (tk_lst eMl)) _ im).snoc (Im.mono (tk_lst eMl) _ il)
          · rcases get_snoc h' with h | ⟨h, rfl⟩
            · exact hrow i' row' h
            · intro kd' hk'
              rw [h, lm, hkd] at hk'
              obtain rfl := Option.some.inj hk'
              rw [h, lm]
              exact ⟨lrow, hcell⟩
      · rintro σ Ha ⟨y5, y7, y8, y9, y10, y11, y12, y13, us, mps, rfl, ua, ba, eM, im, lm, hrow⟩
        rw [Int.toNat_natCast] at lm
        have bA := b0.trans ba
        refine ⟨.ref ka, rfl, .ref dl, rfl, dl, _, rfl, .inl ⟨.of (ba _ _ ndc edl), fun l1 hl1 => ?_⟩⟩
        have s1 := same_new (o := .tup (dims.map fun n : Nat => V.int (n : Nat))) hl1
        have i1 : Im K (upd Ha l1 (.tup (dims.map fun n : Nat => V.int (n : Nat)))) (.ref l1) (nsD dims) := .tup (.inl upd_same) (nats_im dims)
        generalize upd Ha l1 (.tup (dims.map fun n : Nat => V.int (n : Nat))) = H1 at *
        refine ⟨.ref ML, rfl, ML, us, rfl, .inl ⟨.of (s1 _ _ eM), fun l2 hl2 => ?_⟩⟩
        have s2 := same_new (o := .tup us) hl2
        have i2 : Im K (upd H1 l2 (.tup us)) (.ref l2) (mpD mps) := .tup (.inl upd_same) (ImAll.mono (tk_same (s1.trans s2)) _ im)
        generalize upd H1 l2 (.tup us) = H2 at *
        have u2 := (ua.same s1).same s2
        have b2 : But c H H2 := bA.trans (but_same (s1.trans s2))
        have b20 : But c H0 H2 := ba.trans (but_same (s1.trans s2))
        refine ⟨.ref c, rfl, .ref ka, rfl, .ref dl, rfl, .ref rl, rfl, c, .ref ka, dl, rl, ks, dims, ws, rs, rfl, u2, Im.mono (b2.tk u) _ iv, ok, ndc, nrc, b20 _ _ ndc edl, ld, fun d hd => by have := d16 d hd; omega, b2 _ _ nrc erl, ImAll.mono (b2.tk u) _ irs, r20, rh.kind, fun p3 rd H3 u3 b3 i3 td => ⟨by show 4 ≤ sizeLine; decide, fun T hT => ?_⟩⟩
        have sT := same_new (o := .tup [.ref ka, .ref l1, .ref l2, .ref p3]) hT
        have b3' : But c H H3 := b2.trans b3
        refine q T ⟨ks, dims, mps, rd⟩ _ (u3.same sT) (b3'.trans (but_same sT)) (.tup (.inl upd_same) (.cons ?_ (.cons ?_ (.cons ?_ (.cons ?_ .nil))))) (shp_mk ok ld d16 (by omega) (by omega) hrow rh r20 td)
        · exact Im.mono ((b3'.tk u).trans (tk_same sT)) _ iv
        · exact Im.mono (((tk_same s2).trans (b3.tk u2)).trans (tk_same sT)) _ i1
        · exact Im.mono ((b3.tk u2).trans (tk_same sT)) _ i2
        · exact Im.mono (tk_same sT) _ i3
end
end K63

set_option Elab.async false
set_option linter.all false
set_option maxRecDepth 100000
set_option exponentiation.threshold 20000
set_option pp.deepTerms false
set_option pp.deepTerms.threshold 8
namespace K63
open PySem PySem.Spec PyProof.Rows L2 Ly Mt
/-! ### rows as the law draws them -/
def costI (ns : List Str) (sz : List Nat) : List Str → List Int → Nat
  | f :: fs, e :: es => (if f ∈ ns then sz.getD e.toNat 0 else 0) + costI ns sz fs es
  | _, _ => 0
theorem cost_snoc {ns : List Str} {sz : List Nat} {f : Str} {e : Int} : ∀ {fs : List Str} {es : List Int}, es.length = fs.length → costI ns sz (fs ++ [f]) (es ++ [e]) = costI ns sz fs es + (if f ∈ ns then sz.getD e.toNat 0 else 0)
  | [], [], _ => by simp [costI]
  | [], _ :: _, h => by simp at h
  | _ :: _, [], h => by simp at h
  | g :: fs, d :: es, h => by
    have ih := cost_snoc (ns := ns) (sz := sz) (f := f) (e := e) (fs := fs) (es := es) (by simpa using h)
    show _ + costI ns sz (fs ++ [f]) (es ++ [e]) = _ + costI ns sz fs es + _
    rw [ih]; omega
def EntOk (ks : List Kd) (rows : List Rw) (f : Str) (e : Int) : Prop := (f ∈ ks.map (·.1) → ∃ n : Nat, e = n ∧ n < rows.length ∧ KindAt ks rows n ((ks.map (·.1)).idxOf f)) ∧ (f ∉ ks.map (·.1) → e.natAbs ≤ 1000000)
theorem cost_more {ks : List Kd} {rows : List Rw} {sz : List Nat} {s : Nat} (hl : rows.length ≤ sz.length) : ∀ {fs : List Str} {es : List Int}, (∀ (x : Nat) f e, fs[x]? = some f → es[x]? = some e → EntOk ks rows f e) → costI (ks.map (·.1)) (sz ++ [s]) fs es = costI (ks.map (·.1)) sz fs es
  | [], _, _ => by simp [costI]
  | _ :: _, [], _ => by simp [costI]
  | f :: fs, e :: es, h => by
    have ih := cost_more (s := s) hl (fs := fs) (es := es) fun x g d hg hd => h (x + 1) g d (by simpa using hg) (by simpa using hd)
    show _ + costI _ (sz ++ [s]) fs es = _ + costI _ sz fs es
    rw [ih]
    congr 1
    by_cases hf : f ∈ ks.map (·.1)
    · rw [if_pos hf, if_pos hf]
      obtain ⟨n, rfl, hn, _⟩ := (h 0 f e rfl rfl).1 hf
      rw [Int.toNat_natCast, List.getD_eq_getElem?_getD, List.getD_eq_getElem?_getD, List.getElem?_append_left (by omega)]
    · rw [if_neg hf, if_neg hf]
structure RS (ks : List Kd) (rows : List Rw) (sz : List Nat) (hd : List Str) : Prop where
  lsz : sz.length = rows.length
  lhd : hd.length = rows.length
  s30 : ∀ s ∈ sz, s ≤ 30
  hdk : ∀ (t : Nat) h, hd[t]? = some h → KindAt ks rows t ((ks.map (·.1)).idxOf h)
  each : ∀ (t : Nat) r, rows[t]? = some r → ∃ i j kd m, At ks r i j kd m ∧ r.2.length = m.2.length ∧ (∀ (x : Nat) f e, m.2[x]? = some f → r.2[x]? = some e → EntOk ks (rows.take t) f e) ∧ 1 + costI (ks.map (·.1)) sz m.2 r.2 ≤ sz.getD t 0
theorem KindAt.more {ks : List Kd} {rows : List Rw} {r : Rw} {n i : Nat} (h : KindAt ks rows n i) : KindAt ks (rows ++ [r]) n i := by
  obtain ⟨r0, j, kd, m, e, a⟩ := h
  exact ⟨r0, j, kd, m, by rw [List.getElem?_append_left (List.getElem?_eq_some_iff.mp e).1]; exact e, a⟩
theorem idx_get {ns : List Str} (nd : ns.Nodup) {i : Nat} {x : Str} (h : ns[i]? = some x) : ns.idxOf x = i := by
  have hm := List.mem_of_getElem? h
  have hl := List.idxOf_lt_length_of_mem hm
  have e : ns[ns.idxOf x]? = some x := by rw [List.getElem?_eq_getElem hl]; exact congrArg some (List.getElem_idxOf hl)
  exact (List.getElem?_inj hl nd).mp (e.trans h.symm)
theorem RS.snoc {ks : List Kd} (ok : KindsOk ks) {rows : List Rw} {sz : List Nat} {hd : List Str} (h : RS ks rows sz hd) {i j : Nat} {kd : Kd} {m : Mk} (hk : ks[i]? = some kd) (hm : kd.2[j]? = some m) {es : List Int} (le : es.length = m.2.length)
    (he : ∀ (x : Nat) f e, m.2[x]? = some f → es[x]? = some e → EntOk ks rows f e) {s : Nat} (hs : s = 1 + costI (ks.map (·.1)) sz m.2 es) (s30 : s ≤ 30) : RS ks (rows ++ [(m.1, es)]) (sz ++ [s]) (hd ++ [kd.1]) := by
  have l1 := h.lsz
  have l2 := h.lhd
  have at' : At ks (m.1, es) i j kd m := ⟨hk, hm, rfl⟩
  refine ⟨by simp [l1], by simp [l2], fun x hx => ?_, fun t g hg => ?_, fun t r hr => ?_⟩
  · rw [List.mem_append, List.mem_singleton] at hx
    rcases hx with hx | rfl
    · exact h.s30 x hx
    · exact s30
  · rcases get_snoc hg with hg | ⟨rfl, rfl⟩
    · exact (h.hdk t g hg).more
    · rw [idx_get ok.nd (i := i) (by rw [List.getElem?_map, hk]; rfl)]
      exact ⟨(m.1, es), j, kd, m, by rw [l2, List.getElem?_append_right (Nat.le_refl _)]; simp, at'⟩
  · rcases get_snoc hr with hr | ⟨rfl, rfl⟩
    · obtain ⟨i', j', kd', m', a, l, e, c⟩ := h.each t r hr
      have ht := (List.getElem?_eq_some_iff.mp hr).1
      refine ⟨i', j', kd', m', a, l, fun x f d hf hd' => ?_, ?_⟩
      · rw [List.take_append_of_le_length (by omega)]
        exact e x f d hf hd'
      · rw [cost_more (rows := rows.take t) (by rw [List.length_take]; omega) e, List.getD_eq_getElem?_getD, List.getElem?_append_left (by omega), ← List.getD_eq_getElem?_getD]
        exact c
    · refine ⟨i, j, kd, m, at', le, fun x f d hf hd' => ?_, ?_⟩
      · rw [List.take_left]
        exact he x f d hf hd'
      · rw [cost_more (rows := rows) (by omega) he, List.getD_eq_getElem?_getD, ← l1, List.getElem?_append_right (Nat.le_refl _)]
        simp [hs]
theorem RS.ok {ks : List Kd} {rows : List Rw} {sz : List Nat} {hd : List Str} (h : RS ks rows sz hd) (l1 : 1 ≤ rows.length) (l96 : rows.length ≤ 96) : RowsOk ks rows := by
  refine ⟨⟨l1, l96⟩, fun t r hr => ?_⟩
  obtain ⟨i, j, kd, m, a, l, e, _⟩ := h.each t r hr
  refine ⟨i, j, kd, m, a, l, fun x f d hf hd' hin => ?_⟩
  obtain ⟨n, rfl, hn, r0, j0, kd0, m0, er, a0⟩ := (e x f d hf hd').1 hin
  rw [List.length_take] at hn
  have hlt := (List.getElem?_eq_some_iff.mp hr).1
  rw [List.getElem?_take, if_pos (by omega)] at er
  exact ⟨n, rfl, by omega, r0, j0, kd0, m0, er, a0⟩
section
variable {P : Program} {w : World} {K : PySem.W.Frag} {mg : Str → Option Value} {base : Heap}
abbrev s__law_rows : Stmt := topS 83
theorem sc__law_rows : FnScope ["well", "kinds", "many", "rows", "sizes", "heads", "turn", "k", "word", "fields", "entries", "size", "field", "some", "at"] ["well", "kinds", "many"] (defScope s__law_rows) := ⟨rfl, rfl, rfl, by decide +kernel, rfl, by decide +kernel, by decide +kernel⟩
def sp_lrows (K : PySem.W.Frag) : Sp := fun vs H Q _ => ∃ (c : Addr) (v : V) (ks : List Kd), vs = [.ref c, v, .int 10] ∧ Well H c ∧ Im K H v (ksD ks) ∧ KindsOk ks ∧ Small ks ∧ ∀ p rows sz hd H', Well H' c → But c H H' → Im K H' (.ref p) (rwsD rows) → RS ks rows sz hd → rows.length ≤ 10 → Q (.ref p) H'
set_option maxHeartbeats 2000000 in
theorem ok__law_rows {f : Addr} {fd : FuncData} {k : Nat} (F : Fun K "_law_rows" "_law_rows" s__law_rows f fd) (T : Tx K mg){k1 : Nat} (D__law_sip : Def P w K mg base k1 "_law_sip" s__law_sip ["well", "many"] sp_sip) (e1 : k1 ≤ k) : FnOk P w K mg base CX0 (k + 1) f fd ["well", "kinds", "many"] (sp_lrows K) := by
  have nd := sc__law_rows.nd
  refine F.ok sc__law_rows (fun vs H Q E h => ?_) (fun cdv A outer s H vs Q E hr h => ?_)
  · obtain ⟨_, _, _, rfl, _⟩ := h
    rfl
  · obtain ⟨c, v, ks, rfl, u, iv, ok, sm, q⟩ := h
    obtain ⟨ka, kx, rfl, hka, hkx⟩ := iv.tuple_inv
    have lk : kx.length = ks.length := all_len hkx
    have kf := sm.few
    have kf1 := ok.few
    refine ⟨_, (pss_cons (ps_asg (pe_tup (pa_cons (pe_lst pa_nil) (pa_cons (pe_lst pa_nil) (pa_cons (pe_lst pa_nil) pa_nil)))) (kpg_tup K (n := 3) rfl (pgs_cons (pg_name (i := 3) nd rfl (.inl rfl)) (pgs_cons (pg_name (i := 4) nd rfl (.inl rfl)) (pgs_cons (pg_name (i := 5) nd rfl (.inr rfl)) pgs_nil)))))
      (pss_cons (ps_for PassesOwn.never rfl (pi_range1 rfl T.m_range (pa_cons (pv 2) pa_nil)) (pg_name (i := 6) nd rfl (.inl rfl))
        (pss_cons (ps_set (i := 7) nd rfl (.inl rfl) (pe_def D__law_sip (hr.mono (by omega)) rfl (pa_cons (pv 0) (pa_cons (pe_callB (kcall_len K) (by rfl) T.m_len PySem.boot_len (pa_cons (pv 1) pa_nil)) pa_nil))))
        (pss_cons (ps_asg (pe_ix (kix_tup K) (pe_ix (kix_tup K) (pe_ix (kix_tup K) (pv 1) (pv 7) (fun _ _ => rfl)) pe_int (fun _ _ => rfl)) (pe_def D__law_sip (hr.mono (by omega)) rfl (pa_cons (pv 0) (pa_cons (pe_callB (kcall_len K) (by rfl) T.m_len PySem.boot_len (pa_cons (pe_ix (kix_tup K) (pe_ix (kix_tup K) (pv 1) (pv 7) (fun _ _ => rfl)) pe_int (fun _ _ => rfl)) pa_nil)) pa_nil))) (fun _ _ => rfl)) (kpg_tup K (n := 2) rfl (pgs_cons (pg_name (i := 8) nd rfl (.inl rfl)) (pgs_cons (pg_name (i := 9) nd rfl (.inl rfl)) pgs_nil))))
        (pss_cons (ps_par (i := 10) (j := 11) (by rfl) nd rfl rfl (by decide) rfl rfl (pa_cons (pe_lst pa_nil) (pa_cons pe_int pa_nil)) (by rfl))
        (pss_cons (ps_for PassesOwn.never rfl (kpi_tup K (pv 9)) (pg_name (i := 12) nd rfl (.inr rfl))
          (pss_cons (ps_setLc (i := 13) (own := [("at", 14)]) (g := gName 14) rfl nd rfl rfl (sw_true rfl rfl rfl (by decide +kernel)) (pi_range1 rfl T.m_range (pa_cons (pe_callB (kcall_len K) (by rfl) T.m_len PySem.boot_len (pa_cons (pv 3) pa_nil)) pa_nil)) (blkOk_by (by rfl)) (fun _ _ _ _ _ => (pg_name (i := 14) nd rfl (.inl rfl))) (fun _ _ _ _ _ => (pts_one (pt_cmpR op_eq (pe_ix (kix_list K) (pv 5) (pv 14) (fun _ _ => rfl)) (pv 12) (nomark _)))) (fun _ _ _ _ _ => (pv 14)))
          (pss_one (ps_if (pt_cmpR op_eq (pv 12) pe_str (nomark _))
            (pss_one (ps_expr (pe_bm PySem.F.plainAttrs_list PySem.F.slot_list_append PySem.F.type_list_append mt_append (pv 10) (pa_cons (pe_ix (kix_list K) (pe_lst (pa_cons pe_int (pa_cons pe_int (pa_cons (pe_un un_neg pe_int) (pa_cons pe_int (pa_cons (pe_un un_neg pe_int) (pa_cons (pe_op op_pow pe_int pe_int) pa_nil))))))) (pe_def D__law_sip (hr.mono (by omega)) rfl (pa_cons (pv 0) (pa_cons pe_int pa_nil))) (fun _ _ => rfl)) pa_nil))))
            (pss_one (ps_if (pt_cmpR (kop_eqD K hr.units) (pv 13) (pe_lst pa_nil) (nomark _))
              (pss_one (ps_set (i := 11) nd rfl (.inl rfl) pe_int))
              (pss_cons (ps_set (i := 14) nd rfl (.inl rfl) (pe_ix (kix_list K) (pv 13) (pe_def D__law_sip (hr.mono (by omega)) rfl (pa_cons (pv 0) (pa_cons (pe_callB (kcall_len K) (by rfl) T.m_len PySem.boot_len (pa_cons (pv 13) pa_nil)) pa_nil))) (fun _ _ => rfl)))
              (pss_cons (ps_expr (pe_bm PySem.F.plainAttrs_list PySem.F.slot_list_append PySem.F.type_list_append mt_append (pv 10) (pa_cons (pv 14) pa_nil)))
              (pss_one (ps_set (i := 11) nd rfl (.inl rfl) (pe_op op_add (pv 11) (pe_ix (kix_list K) (pv 4) (pv 14) (fun _ _ => rfl)))))))))))))
        (pss_one (ps_if (pt_cmpR op_lt (pv 11) pe_int (nomark _))
          (pss_cons (ps_expr (pe_bm PySem.F.plainAttrs_list PySem.F.slot_list_append PySem.F.type_list_append mt_append (pv 3) (pa_cons (pe_tup (pa_cons (pv 8) (pa_cons (pe_callTy (kcall_tuple K) (by rfl) T.m_tuple (by decide +kernel) (pa_cons (pv 10) pa_nil)) pa_nil))) pa_nil)))
          (pss_cons (ps_expr (pe_bm PySem.F.plainAttrs_list PySem.F.slot_list_append PySem.F.type_list_append mt_append (pv 4) (pa_cons (pv 11) pa_nil)))
          (pss_one (ps_expr (pe_bm PySem.F.plainAttrs_list PySem.F.slot_list_append PySem.F.type_list_append mt_append (pv 5) (pa_cons (pe_ix (kix_tup K) (pe_ix (kix_tup K) (pv 1) (pv 7) (fun _ _ => rfl)) pe_int (fun _ _ => rfl)) pa_nil))))))
          pss_nil)))))))
      (pss_one (ps_ret (pe_callTy (kcall_tuple K) (by rfl) T.m_tuple (by decide +kernel) (pa_cons (pv 3) pa_nil)))))), ?_⟩
    refine ⟨by show 0 ≤ sizeLine; decide, fun RL hRL => ⟨by show 0 ≤ sizeLine; decide, fun SL hSL => ⟨by show 0 ≤ sizeLine; decide, fun HL hHL => ⟨by show 3 ≤ sizeLine; decide, fun T hT => ?_⟩⟩⟩⟩
    have s1 := same_new (o := .lst []) hRL
    have s2 := same_new (o := .lst []) hSL
    have s3 := same_new (o := .lst []) hHL
    have s4 := same_new (o := .tup [.ref RL, .ref SL, .ref HL]) hT
    have eR := s4 _ _ (s3 _ _ (s2 _ _ (upd_same (H := H) (a := RL) (o := .lst []))))
    have eS := s4 _ _ (s3 _ _ (upd_same (H := upd H RL (.lst [])) (a := SL) (o := .lst [])))
    have eH := s4 _ _ (upd_same (H := upd (upd H RL (.lst [])) SL (.lst [])) (a := HL) (o := .lst []))
    have sA := ((s1.trans s2).trans s3).trans s4
    have hR0 := hRL
    have hS0 : H SL = none := s1.free hSL
    have hH0 : H HL = none := (s1.trans s2).free hHL
    have nRS : RL ≠ SL := ne_of_none (upd_same (H := H) (a := RL) (o := .lst [])) hSL
    have nRH : RL ≠ HL := ne_of_none (s2 _ _ (upd_same (H := H) (a := RL) (o := .lst []))) hHL
    have nSH : SL ≠ HL := ne_of_none (upd_same (H := upd H RL (.lst [])) (a := SL) (o := .lst [])) hHL
    refine ⟨T, _, rfl, .of upd_same, rfl, .ref RL, _, rfl, .ref SL, _, rfl, .ref HL, _, rfl, rfl, ?_⟩
    generalize upd (upd (upd (upd H RL (.lst [])) SL (.lst [])) HL (.lst [])) T (.tup [.ref RL, .ref SL, .ref HL]) = H4 at *
    have nRc := u.ne hR0
    have nSc := u.ne hS0
    have nHc := u.ne hH0
    refine ⟨.int 10, rfl, 10, rfl, by decide, by decide, ?_⟩
    refine for_it (walk_range (lo := 0) (n := (10 : Int).toNat)) (fun i σ Ha => ∃ (y6 y7 y8 y9 y10 y11 y12 y13 y14 : Option V) (rv : List V) (rows : List Rw) (sz : List Nat) (hd : List Str), σ = [some (.ref c), some (.ref ka), some (.int 10), some (.ref RL), some (.ref SL), some (.ref HL), y6, y7, y8, y9, y10, y11, y12, y13, y14] ∧ Well Ha c ∧ But c H Ha ∧ Ha RL = some (.lst rv) ∧ ImAll K Ha rv (rows.map rwD) ∧ Ha SL = some (.lst (sz.map fun n : Nat => V.int (n : Nat))) ∧ Ha HL = some (.lst (hd.map V.str)) ∧ RS ks rows sz hd ∧ rows.length ≤ i) ⟨_, _, _, _, _, _, _, _, _, [], [], [], [], rfl, u.same sA, but_same sA, eR, .nil, eS, eH, ⟨rfl, rfl, fun s h => by simp at h, fun t h e => by simp at e, fun t r e => by simp at e⟩, Nat.le_refl _⟩ (fun _ _ _ _ _ => trivial) ?_ ?_
    · rintro i x σ Ha Hb hi ⟨y6, y7, y8, y9, y10, y11, y12, y13, y14, rv, rows, sz, hd, rfl, ua, ba, mR, iR, mS, mH, rs, li⟩ ⟨rfl, rfl⟩
      have hi10 : i < 10 := hi
      have lrv : rv.length = rows.length := all_len iR
      have l1 := rs.lsz
      have l2 := rs.lhd
      have tA := ba.tk u
      refine ⟨.ref c, rfl, .ref ka, rfl, ka, kx, rfl, .inr (hka.mono tA).sq, c, (kx.length : Nat), rfl, ua, by omega, by omega, fun d1 H1 d10 d11 u1 b1 => ?_⟩
      obtain ⟨kk, rfl⟩ := Int.eq_ofNat_of_zero_le d10
      obtain ⟨kd, hkd⟩ : ∃ kd, ks[kk]? = some kd := ⟨_, List.getElem?_eq_getElem (by omega)⟩
      have kmem := List.mem_of_getElem? hkd
      have b01 := ba.trans b1
      have t1 := b01.tk u
      obtain ⟨x, ex, ix⟩ := all_at (ImAll.mono t1 _ hkx) hkd
      obtain ⟨pk, w1, w2, rfl, hpk, iw1, iw2⟩ := im_pair ix
      obtain rfl := iw1.str_inv
      obtain ⟨pm, ms, rfl, hpm, hms⟩ := iw2.tuple_inv
      have lms : ms.length = kd.2.length := all_len hms
      have k3 := sm.mks kd kmem
      have k1' := (ok.mks kd kmem).1
      refine ⟨.ref ka, rfl, .int (kk : Nat), rfl, ka, kx, _, .ref pk, rfl, rfl, (hka.mono t1).sq, atI_nat ex, pk, _, 1, _, rfl, rfl, hpk.sq, atI_nat (j := 1) rfl, ?_⟩
      refine ⟨.ref c, rfl, .ref ka, rfl, .int (kk : Nat), rfl, ka, kx, _, .ref pk, rfl, rfl, (hka.mono t1).sq, atI_nat ex, pk, _, 1, _, rfl, rfl, hpk.sq, atI_nat (j := 1) rfl, pm, ms, rfl, .inr hpm.sq, c, (ms.length : Nat), rfl, u1, by omega, by omega, fun d2 H2 d20 d21 u2 b2 => ?_⟩
      obtain ⟨jj, rfl⟩ := Int.eq_ofNat_of_zero_le d20
      obtain ⟨m, hm⟩ : ∃ m, kd.2[jj]? = some m := ⟨_, List.getElem?_eq_getElem (by omega)⟩
      have t2 := b2.tk u1
      obtain ⟨y, ey, iy⟩ := all_at (ImAll.mono t2 _ hms) hm
      obtain ⟨pp, w3, w4, rfl, hpp, iw3, iw4⟩ := im_pair iy
      obtain rfl := iw3.str_inv
      obtain ⟨pf, fs, rfl, hpf, hfs⟩ := iw4.tuple_inv
      obtain rfl := im_strs hfs
      have f3 := sm.flds kd kmem m (List.mem_of_getElem? hm)
      refine ⟨pm, ms, _, .ref pp, rfl, rfl, (hpm.mono t2).sq, atI_nat ey, pp, _, rfl, hpp.sq, rfl, .str m.1, _, rfl, .ref pf, _, rfl, rfl, ?_⟩
      refine ⟨by show 0 ≤ sizeLine; decide, fun EL hEL => ⟨_, _, rfl, ?_⟩⟩
      have sEL := same_new (o := .lst []) hEL
      have nEc := u2.ne hEL
      have b02 := b01.trans b2
      have bb2 : But c Hb (upd H2 EL (.lst [])) := (b1.trans b2).trans (but_same sEL)
      have b0E : But c H (upd H2 EL (.lst [])) := b02.trans (but_same sEL)
      have hELb : Hb EL = none := (b1.trans b2).free u2 hEL
      have eEL : (upd H2 EL (.lst [])) EL = some (.lst []) := upd_same
      have uE := u2.same sEL
      have hpf' := hpf.mono (tk_same sEL)
      have nRE : RL ≠ EL := ne_of_none (b2 _ _ nRc (b1 _ _ nRc mR)) hEL
      dsimp only
      generalize upd H2 EL (.lst []) = H5 at *
      refine ⟨.ref pf, rfl, pf, rfl, ⟨_, hpf'.sq⟩, ?_⟩
      refine for_it (walk_tup (xs := m.2.map V.str)) (fun x σ Hx => ∃ (y12 y13 y14 : Option V) (es : List Int) (size : Nat), σ = [some (.ref c), some (.ref ka), some (.int 10), some (.ref RL), some (.ref SL), some (.ref HL), some (.int (0 + (i : Nat))), some (.int (kk : Nat)), some (.str m.1), some (.ref pf), some (.ref EL), some (.int (size : Nat)), y12, y13, y14] ∧ Well Hx c ∧ But c Hb Hx ∧ Hx EL = some (.lst (es.map V.int)) ∧ es.length ≤ x ∧ ITup K Hx pf (m.2.map V.str) ∧ (31 ≤ size ∨ (es.length = x ∧ size = 1 + costI (ks.map (·.1)) sz (m.2.take x) es ∧ ∀ (y : Nat) f e, m.2[y]? = some f → es[y]? = some e → EntOk ks rows f e))) ⟨_, _, _, [], 1, rfl, uE, bb2, eEL, Nat.le_refl _, hpf', .inr ⟨rfl, by simp [costI], fun y f e _ h => by simp at h⟩⟩ (fun x σ Hx _ z => ?_) ?_ ?_
      · obtain ⟨_, _, _, _, _, _, _, _, _, _, hp, _⟩ := z
        exact hp.sq
      · rintro x xx σ Hx Hy hx ⟨y12, y13, y14, es, size, rfl, ux, bx, eE, le, hpf, alt⟩ ⟨rfl, hxx⟩
        rw [List.getElem?_map] at hxx
        obtain ⟨f, hf, rfl⟩ := Option.map_eq_some_iff.mp hxx
        rw [List.length_map] at hx
        have tf : m.2.take (x + 1) = m.2.take x ++ [f] := by rw [List.take_add_one, hf]; rfl
        have ltf : (m.2.take x).length = x := by rw [List.length_take]; omega
        have eH' := bx _ _ nHc mH
        have eS' := bx _ _ nSc mS
        refine ⟨.ref RL, rfl, RL, rv, rfl, .inl (.of (bx _ _ nRc mR)), (rv.length : Nat), rfl, by omega, by omega, fun D hD => ?_⟩
        have nDc := ux.ne hD
        have nED : EL ≠ D := ne_of_none eE hD
        refine lc_it (walk_range (lo := 0) (n := (rv.length : Int).toNat)) (fun s Hz => Same Hy Hz ∧ ∃ l : List Nat, Hz D = some (.lst (l.map fun n : Nat => V.int (n : Nat))) ∧ l.length ≤ s ∧ ∀ a ∈ l, hd[a]? = some f) ⟨same_new hD, [], upd_same, Nat.le_refl _, fun a h => by simp at h⟩ (fun _ _ _ _ => trivial) (fun s y Hz Hw hs z yy => ?_) (fun Hz z => ?_)
        · obtain ⟨sz', l, eD, ll, hl⟩ := z
          obtain ⟨rfl, rfl⟩ := yy
          rw [Int.toNat_natCast] at hs
          have k0 : ((0 : Int) + (s : Nat)) = ((s : Nat) : Int) := by omega
          have hlt : s < hd.length := by omega
          refine ⟨rfl, .ref HL, rfl, .int _, rfl, HL, _, _, .str (hd[s]), rfl, rfl, .of (sz' _ _ eH'), by rw [k0]; exact atI_nat (by rw [List.getElem?_map, List.getElem?_eq_getElem hlt]; rfl), .str f, rfl, rfl, _, rfl, ?_⟩
          rw [dec_str]
          by_cases h : hd[s] = f
          · rw [decide_eq_true h]
            refine iteT ⟨.int _, rfl, _, eD, small1000 (by rw [List.length_map]; omega), fun b o e => ?_, l ++ [s], ?_, by rw [List.length_append, List.length_singleton]; omega, fun a ha => ?_⟩
            · rw [upd_ne (ne_of_none e hD)]; exact sz' _ _ e
            · rw [upd_same, List.map_append, k0]; rfl
            · rw [List.mem_append, List.mem_singleton] at ha
              rcases ha with ha | rfl
              · exact hl a ha
              · rw [List.getElem?_eq_getElem hlt, h]
          · rw [decide_eq_false h]
            exact iteF ⟨sz', l, eD, by omega, hl⟩
        · obtain ⟨sz', l, eD, ll, hl⟩ := z
          rw [Int.toNat_natCast] at ll
          have uz := ux.same sz'
          have bz := bx.trans (but_same sz')
          have eEz := sz' _ _ eE
          have hpz := hpf.mono (tk_same sz')
          refine ⟨.str f, rfl, rfl, _, rfl, ?_⟩
          rw [dec_str]
          by_cases hnum : f = "number"
          · rw [decide_eq_true hnum]
            have hnin : f ∉ ks.map (·.1) := by rw [hnum]; exact num_not ok
            refine iteT ⟨.ref EL, rfl, .inl ⟨rfl, _, .of eEz⟩, _, rfl, _, rfl, _, _, rfl, rfl, ⟨by decide, by decide, by decide⟩, by show 6 ≤ sizeLine; decide, fun L hL => ?_⟩
            have nLc := uz.ne hL
            refine ⟨.ref c, rfl, c, 6, rfl, uz.same (same_new hL), by decide, by decide, fun d5 H9 d50 d56 u9 b9 => ?_⟩
            have eL9 := b9 _ _ nLc upd_same
            have b9' : But c Hz H9 := (but_same (same_new hL)).trans b9
            obtain ⟨t, ht, et⟩ : ∃ t : Int, t.natAbs ≤ 1000000 ∧ atI [V.int 0, V.int 1, V.int (-1), V.int 2, V.int (-3), V.int (10 ^ (6 : Int).toNat)] d5 = some (V.int t) := by
              obtain ⟨z, rfl⟩ := Int.eq_ofNat_of_zero_le d50
              have h : z = 0 ∨ z = 1 ∨ z = 2 ∨ z = 3 ∨ z = 4 ∨ z = 5 := by omega
              rcases h with rfl | rfl | rfl | rfl | rfl | rfl <;> exact ⟨_, by decide, rfl⟩
            have eE9 := b9' _ _ nEc eEz
            refine ⟨L, _, d5, .int t, rfl, rfl, .of eL9, et, EL, _, _, rfl, rfl, eE9, small1000 (by rw [List.length_map]; omega), ?_⟩
            refine ⟨_, _, _, es ++ [t], size, rfl, u9.upd nEc, fun b o nb e => ?_, ?_, by rw [List.length_append, List.length_singleton]; omega, (hpz.mono (b9'.tk uz)).mono (tk_lst eE9), ?_⟩
            · rw [upd_ne (ne_of_none e hELb)]
              exact b9' _ _ nb (bz _ _ nb e)
            · rw [upd_same, List.map_append]; rfl
            · rcases alt with h | ⟨h1, h2, h3⟩
              · exact .inl h
              · refine .inr ⟨by rw [List.length_append, h1]; rfl, ?_, fun y g e hg he => ?_⟩
                · rw [tf, cost_snoc (by omega), if_neg hnin, h2]; rfl
                · rcases get_snoc he with he | ⟨hy, rfl⟩
                  · exact h3 y g e hg he
                  · rw [hy, h1, hf] at hg
                    obtain rfl := Option.some.inj hg
                    exact ⟨fun z => absurd z hnin, fun _ => ht⟩
          · rw [decide_eq_false hnum]
            have hin : f ∈ ks.map (·.1) := (ok.flds kd kmem m (List.mem_of_getElem? hm) f (List.mem_of_getElem? hf)).resolve_left hnum
            refine iteF ⟨.ref D, rfl, by show 0 ≤ sizeLine; decide, fun E2 hE2 => ?_⟩
            have sE2 := same_new (o := .lst []) hE2
            have eD' : Hz D = some (.lst ((l.map fun n : Nat => (n : Int)).map V.int)) := by rw [List.map_map]; exact eD
            refine ⟨_, _, .lst (.of (sE2 _ _ eD')) (dp_ints _), .lst (.of upd_same) (.nil), shaped_ints _, shaped_ints [], ?_⟩
            rw [eqv_ints_nil]
            have uw := uz.same sE2
            have bw := bz.trans (but_same sE2)
            have eEw := sE2 _ _ eEz
            have hpw := hpz.mono (tk_same sE2)
            have eDw := sE2 _ _ eD
            generalize upd Hz E2 (.lst []) = Hw at *
            by_cases hl0 : l = []
            · subst hl0
              refine ⟨true, rfl, iteT ⟨_, _, _, es, 99, rfl, uw, bw, eEw, by omega, hpw, .inl (by decide)⟩⟩
            · have hem : (l.map fun n : Nat => (n : Int)).isEmpty = false := by
                cases l with
                | nil => exact absurd rfl hl0
                | cons a b => rfl
              rw [hem]
              have lpos : 0 < l.length := by
                cases l with
                | nil => exact absurd rfl hl0
                | cons a b => simp
              refine ⟨false, rfl, iteF ⟨.ref D, rfl, .ref c, rfl, .ref D, rfl, D, _, rfl, .inl (.of eDw), c, _, rfl, uw, by rw [List.length_map]; omega, by rw [List.length_map]; omega, fun d5 H9 d50 d56 u9 b9 => ?_⟩⟩
              obtain ⟨z, rfl⟩ := Int.eq_ofNat_of_zero_le d50
              rw [List.length_map] at d56
              have hz : z < l.length := by omega
              have hda := hl _ (List.getElem_mem hz)
              have ela : (l.map fun n : Nat => V.int (n : Nat))[z]? = some (.int ((l[z] : Nat) : Int)) := by rw [List.getElem?_map, List.getElem?_eq_getElem hz]; rfl
              generalize l[z] = a at *
              have ka := rs.hdk a f hda
              have alt' := (List.getElem?_eq_some_iff.mp hda).1
              have eE9 := b9 _ _ nEc eEw
              have eS9 : H9 SL = some (.lst (sz.map fun n : Nat => V.int (n : Nat))) := b9 _ _ nSc (bw _ _ nSc mS)
              have nSE : SL ≠ EL := ne_of_none mS hELb
              refine ⟨D, _, _, .int (a : Nat), rfl, rfl, .of (b9 _ _ nDc eDw), atI_nat ela, ?_⟩
              refine ⟨.ref EL, rfl, .inl ⟨rfl, _, .of eE9⟩, .int (a : Nat), rfl, EL, _, _, rfl, rfl, eE9, small1000 (by rw [List.length_map]; omega), ?_⟩
              have has : a < sz.length := by omega
              refine ⟨.int (size : Nat), rfl, .ref SL, rfl, .int (a : Nat), rfl, SL, _, _, .int ((sz[a] : Nat) : Int), rfl, rfl, .of (by rw [upd_ne nSE]; exact eS9), atI_nat (by rw [List.getElem?_map, List.getElem?_eq_getElem has]; rfl), _, _, rfl, rfl, ?_⟩
              refine ⟨some (.str f), some (.ref D), some (.int (a : Nat)), es ++ [(a : Int)], size + sz[a], ?_, u9.upd nEc, fun b o nb e => ?_, ?_, by rw [List.length_append, List.length_singleton]; omega, (hpw.mono (b9.tk uw)).mono (tk_lst eE9), ?_⟩
              · rw [show ((size + sz[a] : Nat) : Int) = (size : Int) + (sz[a] : Int) by omega]; rfl
              · rw [upd_ne (ne_of_none e hELb)]
                exact b9 _ _ nb (bw _ _ nb e)
              · rw [upd_same, List.map_append]; rfl
              · rcases alt with h | ⟨h1, h2, h3⟩
                · exact .inl (by omega)
                · refine .inr ⟨by rw [List.length_append, h1]; rfl, ?_, fun y g e hg he => ?_⟩
                  · rw [tf, cost_snoc (by omega), if_pos hin, h2, Int.toNat_natCast, List.getD_eq_getElem?_getD, List.getElem?_eq_getElem has]
                    show _ + _ = _ + (_ + sz[a])
                    omega
                  · rcases get_snoc he with he | ⟨hy, rfl⟩
                    · exact h3 y g e hg he
                    · rw [hy, h1, hf] at hg
                      obtain rfl := Option.some.inj hg
                      exact ⟨fun _ => ⟨a, rfl, by omega, ka⟩, fun z => absurd hin z⟩
      · rintro σ Hx ⟨y12, y13, y14, es, size, rfl, ux, bx, eE, le, hpf, alt⟩
        have eRx := bx _ _ nRc mR
        have eSx := bx _ _ nSc mS
        have eHx := bx _ _ nHc mH
        have tx := bx.tk ua
        refine ⟨.int (size : Nat), rfl, _, _, rfl, rfl, _, rfl, ?_⟩
        by_cases h31 : (size : Int) < 31
        · rw [decide_eq_true h31]
          obtain ⟨h1, h2, h3⟩ := alt.resolve_left (by omega)
          rw [List.length_map] at h1
          rw [List.length_map, List.take_of_length_le (Nat.le_refl _)] at h2
          refine iteT ⟨.ref RL, rfl, .inl ⟨rfl, _, .of eRx⟩, .str m.1, rfl, .ref EL, rfl, EL, _, rfl, .inl ⟨.of eE, fun l hl => ⟨by show 2 ≤ sizeLine; decide, fun T hT => ?_⟩⟩⟩
          have sl := same_new (o := .tup (es.map V.int)) hl
          have sT := same_new (o := .tup [.str m.1, .ref l]) hT
          have it : Im K (upd (upd Hx l (.tup (es.map V.int))) T (.tup [.str m.1, .ref l])) (.ref T) (rwD (m.1, es)) := .tup (.inl upd_same) (.cons (.str _) (.cons (.tup (.inl (sT _ _ upd_same)) (ints_im es)) .nil))
          have slT := sl.trans sT
          have uT := ux.same slT
          have bT := bx.trans (but_same slT)
          have eRT := slT _ _ eRx
          have eST := slT _ _ eSx
          have eHT := slT _ _ eHx
          generalize upd (upd Hx l (.tup (es.map V.int))) T (.tup [.str m.1, .ref l]) = HT at *
          refine ⟨RL, rv, .ref T, rfl, rfl, eRT, small1000 (by omega), ?_⟩
          have e2 : (upd HT RL (.lst (rv ++ [.ref T]))) SL = some (.lst (sz.map fun n : Nat => V.int (n : Nat))) := by rw [upd_ne nRS.symm]; exact eST
          refine ⟨.ref SL, rfl, .inl ⟨rfl, _, .of e2⟩, .int (size : Nat), rfl, SL, _, _, rfl, rfl, e2, small1000 (by rw [List.length_map]; omega), ?_⟩
          have e3 : (upd (upd HT RL (.lst (rv ++ [.ref T]))) SL (.lst ((sz.map fun n : Nat => V.int (n : Nat)) ++ [.int (size : Nat)]))) HL = some (.lst (hd.map V.str)) := by
            rw [upd_ne nSH.symm, upd_ne nRH.symm]; exact eHT
          have tR : TK HT (upd HT RL (.lst (rv ++ [.ref T]))) := tk_lst eRT
          have tS : TK (upd HT RL (.lst (rv ++ [.ref T]))) (upd (upd HT RL (.lst (rv ++ [.ref T]))) SL (.lst ((sz.map fun n : Nat => V.int (n : Nat)) ++ [.int (size : Nat)]))) := tk_lst e2
          have tAll := (bT.tk ua).trans (tR.trans tS)
          have hkaT := (hka.mono tA).mono tAll
          obtain ⟨x9, ex9, ix9⟩ := all_at (ImAll.mono tAll _ (ImAll.mono tA _ hkx)) hkd
          obtain ⟨pk9, w9, w10, rfl, hpk9, iw9, iw10⟩ := im_pair ix9
          obtain rfl := iw9.str_inv
          refine ⟨.ref HL, rfl, .inl ⟨rfl, _, .of e3⟩, .ref ka, rfl, .int (kk : Nat), rfl, ka, kx, _, .ref pk9, rfl, rfl, hkaT.sq, atI_nat ex9, pk9, _, 0, _, rfl, rfl, hpk9.sq, atI_nat (j := 0) rfl, HL, _, _, rfl, rfl, e3, small1000 (by rw [List.length_map]; omega), ?_⟩
          refine ⟨_, _, _, _, _, _, _, _, _, rv ++ [.ref T], rows ++ [(m.1, es)], sz ++ [size], hd ++ [kd.1], rfl, ((uT.upd nRc).upd nSc).upd nHc, fun b o nb e => ?_, ?_, ?_, ?_, ?_, rs.snoc ok hkd hm (by omega) h3 h2 (by omega), ?_⟩
          · have eb := bT _ _ nb (ba _ _ nb e)
            rw [upd_ne (ne_of_none e hH0), upd_ne (ne_of_none e hS0), upd_ne (ne_of_none e hR0)]
            exact eb
          · rw [upd_ne nRH, upd_ne nRS, upd_same]
          · rw [List.map_append]
            have tH := tk_lst (o := .lst (hd.map V.str ++ [V.str kd.1])) e3
            exact (ImAll.mono (tAll.trans tH) _ iR).snoc (Im.mono ((tR.trans tS).trans tH) _ it)
          · rw [upd_ne nSH, upd_same, List.map_append]; rfl
          · rw [upd_same, List.map_append]; rfl
          · rw [List.length_append, List.length_singleton]; omega
        · rw [decide_eq_false h31]
          refine iteF ⟨_, _, _, _, _, _, _, _, _, rv, rows, sz, hd, rfl, ux, ba.trans bx, eRx, ImAll.mono tx _ iR, eSx, eHx, rs, by omega⟩
    · rintro σ Ha ⟨y6, y7, y8, y9, y10, y11, y12, y13, y14, rv, rows, sz, hd, rfl, ua, ba, mR, iR, mS, mH, rs, li⟩
      exact ⟨.ref RL, rfl, RL, rv, rfl, .inl ⟨.of mR, fun l hl => q l rows sz hd _ (ua.same (same_new hl)) (ba.trans (but_same (same_new hl))) (.tup (.inl upd_same) (ImAll.mono (tk_new hl) _ iR)) rs li⟩⟩
end
end K63

set_option Elab.async false
set_option linter.all false
set_option maxRecDepth 100000
set_option exponentiation.threshold 20000
set_option pp.deepTerms false
set_option pp.deepTerms.threshold 8
namespace K63
open PySem PySem.Spec PyProof.Rows L2 Ly Mt
theorem at_one {ks : List Kd} (ok : KindsOk ks) {i j i' j' : Nat} {kd kd' : Kd} {m m' : Mk} (h1 : ks[i]? = some kd) (h2 : kd.2[j]? = some m) (h3 : ks[i']? = some kd') (h4 : kd'.2[j']? = some m') (e : m.1 = m'.1) : i = i' ∧ j = j' := by
  have nd : ((rowsOf ks ks.length).map (·.1)).Nodup := by rw [rows_names]; exact ok.ndm
  have := fst_inj nd (row_mem h1 h2) (row_mem h3 h4) e
  unfold mkRow at this
  injection this with _ this
  injection this with a this
  injection this with b _
  exact ⟨a, b⟩
section
variable {P : Program} {w : World} {K : PySem.W.Frag} {mg : Str → Option Value} {base : Heap}
abbrev s__law_where : Stmt := topS 80
theorem sc__law_where : FnScope ["kinds", "word", "k", "m"] ["kinds", "word"] (defScope s__law_where) := ⟨rfl, rfl, rfl, by decide +kernel, rfl, by decide +kernel, by decide +kernel⟩
def sp_where (K : PySem.W.Frag) : Sp := fun vs H Q _ => ∃ (v : V) (z : Str) (ks : List Kd) (i j : Nat) (kd : Kd) (m : Mk), vs = [v, .str z] ∧ Im K H v (ksD ks) ∧ KindsOk ks ∧ ks[i]? = some kd ∧ kd.2[j]? = some m ∧ z = m.1 ∧ ∀ p H', Same H H' → ITup K H' p [.int (i : Nat), .int (j : Nat)] → Q (.ref p) H'
set_option maxHeartbeats 1000000 in
theorem ok__law_where {f : Addr} {fd : FuncData} {k : Nat} (F : Fun K "_law_where" "_law_where" s__law_where f fd) (T : Tx K mg) : FnOk P w K mg base CX0 (k + 1) f fd ["kinds", "word"] (sp_where K) := by
  have nd := sc__law_where.nd
  refine F.ok sc__law_where (fun vs H Q E h => ?_) (fun cdv A outer s H vs Q E hr h => ?_)
  · obtain ⟨_, _, _, _, _, _, _, rfl, _⟩ := h
    rfl
  · obtain ⟨v, z, ks, i, j, kd, m, rfl, iv, ok, hk, hm, ez, q⟩ := h
    obtain ⟨ka, kx, rfl, hka, hkx⟩ := iv.tuple_inv
    have lk : kx.length = ks.length := all_len hkx
    have kf := ok.few
    have hi := (List.getElem?_eq_some_iff.mp hk).1
    have hj := (List.getElem?_eq_some_iff.mp hm).1
    refine ⟨_, (pss_cons (ps_for PassesOwn.never rfl (pi_range1 rfl T.m_range (pa_cons (pe_callB (kcall_len K) (by rfl) T.m_len PySem.boot_len (pa_cons (pv 0) pa_nil)) pa_nil)) (pg_name (i := 2) nd rfl (.inl rfl))
        (pss_one (ps_for PassesOwn.never rfl (pi_range1 rfl T.m_range (pa_cons (pe_callB (kcall_len K) (by rfl) T.m_len PySem.boot_len (pa_cons (pe_ix (kix_tup K) (pe_ix (kix_tup K) (pv 0) (pv 2) (fun _ _ => rfl)) pe_int (fun _ _ => rfl)) pa_nil)) pa_nil)) (pg_name (i := 3) nd rfl (.inl rfl))
          (pss_one (ps_if (pt_cmpR op_eq (pe_ix (kix_tup K) (pe_ix (kix_tup K) (pe_ix (kix_tup K) (pe_ix (kix_tup K) (pv 0) (pv 2) (fun _ _ => rfl)) pe_int (fun _ _ => rfl)) (pv 3) (fun _ _ => rfl)) pe_int (fun _ _ => rfl)) (pv 1) (nomark _))
            (pss_one (ps_ret (pe_tup (pa_cons (pv 2) (pa_cons (pv 3) pa_nil)))))
            pss_nil)))))
      (pss_one (ps_ret pe_non))), ?_⟩
    refine ⟨.ref ka, rfl, ka, kx, rfl, .inr hka.sq, (kx.length : Nat), rfl, by omega, by omega, ?_⟩
    refine for_it (walk_range (lo := 0) (n := (kx.length : Int).toNat)) (fun t σ Ha => ∃ (y2 y3 : Option V), σ = [some (.ref ka), some (.str z), y2, y3] ∧ Ha = H ∧ t ≤ i) ⟨_, _, rfl, rfl, Nat.zero_le _⟩ (fun _ _ _ _ _ => trivial) ?_ ?_
    · rintro t x σ Ha Hb ht ⟨y2, y3, rfl, rfl, ti⟩ ⟨rfl, rfl⟩
      rw [Int.toNat_natCast] at ht
      have k0 : ((0 : Int) + (t : Nat)) = ((t : Nat) : Int) := by omega
      show gName 2 (V.int ((0 : Int) + (t : Nat))) _ _ _
      rw [k0]
      obtain ⟨kt, hkt⟩ : ∃ kt, ks[t]? = some kt := ⟨_, List.getElem?_eq_getElem (by omega)⟩
      obtain ⟨x, ex, ix⟩ := all_at hkx hkt
      obtain ⟨pk, w1, w2, rfl, hpk, iw1, iw2⟩ := im_pair ix
      obtain ⟨pm, ms, rfl, hpm, hms⟩ := iw2.tuple_inv
      have lms : ms.length = kt.2.length := all_len hms
      have mk6 := ok.mks kt (List.mem_of_getElem? hkt)
      refine ⟨.ref ka, rfl, .int (t : Nat), rfl, ka, kx, _, .ref pk, rfl, rfl, hka.sq, atI_nat ex, pk, _, 1, _, rfl, rfl, hpk.sq, atI_nat (j := 1) rfl, pm, ms, rfl, .inr hpm.sq, (ms.length : Nat), rfl, by omega, by omega, ?_⟩
      refine for_it (walk_range (lo := 0) (n := (ms.length : Int).toNat)) (fun s σ Ha => ∃ (y3 : Option V), σ = [some (.ref ka), some (.str z), some (.int (t : Nat)), y3] ∧ Ha = Hb ∧ (t < i ∨ t = i ∧ s ≤ j)) ⟨_, rfl, rfl, by omega⟩ (fun _ _ _ _ _ => trivial) ?_ ?_
      · rintro s x σ Ha Hc hs ⟨y3, rfl, rfl, hts⟩ ⟨rfl, rfl⟩
        rw [Int.toNat_natCast] at hs
        have k1 : ((0 : Int) + (s : Nat)) = ((s : Nat) : Int) := by omega
        show gName 3 (V.int ((0 : Int) + (s : Nat))) _ _ _
        rw [k1]
        obtain ⟨m', hm'⟩ : ∃ m', kt.2[s]? = some m' := ⟨_, List.getElem?_eq_getElem (by omega)⟩
        obtain ⟨y, ey, iy⟩ := all_at hms hm'
        obtain ⟨pp, w3, w4, rfl, hpp, iw3, iw4⟩ := im_pair iy
        obtain rfl := iw3.str_inv
        refine ⟨.ref ka, rfl, .int (t : Nat), rfl, ka, kx, _, .ref pk, rfl, rfl, hka.sq, atI_nat ex, pk, _, 1, _, rfl, rfl, hpk.sq, atI_nat (j := 1) rfl, .int (s : Nat), rfl, pm, ms, _, .ref pp, rfl, rfl, hpm.sq, atI_nat ey, pp, _, 0, _, rfl, rfl, hpp.sq, atI_nat (j := 0) rfl, .str z, rfl, rfl, _, rfl, ?_⟩
        rw [dec_str]
        by_cases e : m'.1 = z
        · rw [decide_eq_true e]
          obtain ⟨rfl, rfl⟩ := at_one ok hkt hm' hk hm (by rw [e, ez])
          exact iteT ⟨.int _, rfl, .int _, rfl, by show 2 ≤ sizeLine; decide, fun p hp => q p _ (same_new hp) (.inl upd_same)⟩
        · rw [decide_eq_false e]
          refine iteF ⟨_, rfl, rfl, ?_⟩
          rcases hts with h | ⟨h, h2⟩
          · exact .inl h
          · subst h
            rw [hk] at hkt
            obtain rfl := Option.some.inj hkt
            by_cases hs2 : s = j
            · subst hs2
              rw [hm] at hm'
              obtain rfl := Option.some.inj hm'
              exact absurd ez.symm e
            · exact .inr ⟨rfl, by omega⟩
      · rintro σ Ha ⟨y3, rfl, rfl, hts⟩
        rw [Int.toNat_natCast] at hts
        refine ⟨_, _, rfl, rfl, ?_⟩
        rcases hts with h | ⟨h, h2⟩
        · omega
        · subst h
          rw [hk] at hkt
          obtain rfl := Option.some.inj hkt
          omega
    · rintro σ Ha ⟨y2, y3, rfl, rfl, ti⟩
      rw [Int.toNat_natCast] at ti
      omega
abbrev s__law_parts : Stmt := topS 81
theorem sc__law_parts : FnScope ["fields", "entries", "found", "f"] ["fields", "entries", "found"] (defScope s__law_parts) := ⟨rfl, rfl, rfl, by decide +kernel, rfl, by decide +kernel, by decide +kernel⟩
def sp_parts (K : PySem.W.Frag) : Sp := fun vs H Q _ => ∃ (v u : V) (l : Addr) (ks : List Kd) (fs : List Str) (es : List Int) (ws : List V) (acc : List (List Rat)), vs = [v, u, .ref l] ∧ Im K H v (sD fs) ∧ Im K H u (.tuple (es.map .int)) ∧ H l = some (.lst ws) ∧ ImAll K H ws (acc.map vD) ∧ KindsOk ks ∧ es.length = fs.length ∧ fs.length ≤ 4 ∧
  (∀ (x : Nat) f e, fs[x]? = some f → es[x]? = some e → f = "number" ∨ f ∈ ks.map (·.1) ∧ ∃ n : Nat, e = n ∧ n < acc.length) ∧
  ∀ D us H', Same H H' → H' D = some (.lst us) → ImAll K H' us ((partsI acc (fs.map (placeOf (ks.map (·.1)))) es).map vD) → Q (.ref D) H'
theorem ok__law_parts {f : Addr} {fd : FuncData} {k : Nat} (F : Fun K "_law_parts" "_law_parts" s__law_parts f fd) (T : Tx K mg) : FnOk P w K mg base CX0 (k + 1) f fd ["fields", "entries", "found"] (sp_parts K) := by
  have nd := sc__law_parts.nd
  refine F.ok sc__law_parts (fun vs H Q E h => ?_) (fun cdv A outer s H vs Q E hr h => ?_)
  · obtain ⟨_, _, _, _, _, _, _, _, rfl, _⟩ := h
    rfl
  · obtain ⟨v, u, l, ks, fs, es, ws, acc, rfl, iv, iu, el, iw, ok, le, l4, hent, q⟩ := h
    obtain ⟨a, xs, rfl, ha, hx⟩ := iv.tuple_inv
    obtain rfl := im_strs hx
    obtain ⟨b, ys, rfl, hb, hy⟩ := iu.tuple_inv
    obtain rfl := im_ints hy
    refine ⟨_, (pss_one (ps_ret (pe_lc (own := [("f", 3)]) (g := gName 3) (tt := tYes) rfl nd (pi_range1 rfl T.m_range (pa_cons (pe_callB (kcall_len K) (by rfl) T.m_len PySem.boot_len (pa_cons (pv 0) pa_nil)) pa_nil)) (blkOk_by (by rfl)) (fun _ _ _ _ _ => (pg_name (i := 3) nd rfl (.inl rfl))) (fun _ _ _ _ _ => pts_nil) (fun _ _ _ _ _ => (pe_ifExp (pt_cmpR op_eq (pe_ix (kix_tup K) (pv 0) (pv 3) (fun _ _ => rfl)) pe_str (nomark _)) (pe_tup (pa_cons (pe_tup (pa_cons pe_int (pa_cons pe_int pa_nil))) (pa_cons (pe_tup (pa_cons (pe_ix (kix_tup K) (pv 1) (pv 3) (fun _ _ => rfl)) (pa_cons pe_int pa_nil))) pa_nil))) (pe_ix (kix_list K) (pv 2) (pe_ix (kix_tup K) (pv 1) (pv 3) (fun _ _ => rfl)) (fun _ _ => rfl))))))), ?_⟩
    refine ⟨.ref a, rfl, a, _, rfl, .inr ha.sq, _, rfl, by simp only [List.length_map]; omega, by simp only [List.length_map]; omega, fun D hD => ?_⟩
    refine lc_all (walk_range (lo := 0) (n := ((fs.map V.str).length : Int).toNat)) (fun s Hx => Same H Hx ∧ ∃ us, Hx D = some (.lst us) ∧ ImAll K Hx us (((partsI acc (fs.map (placeOf (ks.map (·.1)))) es).take s).map vD)) ⟨same_new hD, [], upd_same, by rw [List.take_zero]; exact .nil⟩ (fun _ _ _ _ => trivial) (fun s x Hx Hy hs z y => ?_) (fun Hx z => ?_)
    · obtain ⟨sm, us, eD, iD⟩ := z
      obtain ⟨rfl, rfl⟩ := y
      rw [Int.toNat_natCast, List.length_map] at hs
      have k0 : ((0 : Int) + (s : Nat)) = ((s : Nat) : Int) := by omega
      have hf : fs[s]? = some (fs[s]) := List.getElem?_eq_getElem hs
      have hs2 : s < es.length := by omega
      have he : es[s]? = some (es[s]) := List.getElem?_eq_getElem hs2
      have hh := hent s _ _ hf he
      generalize fs[s] = f at *
      generalize es[s] = e at *
      have pz : (partsI acc (fs.map (placeOf (ks.map (·.1)))) es)[s]? = some (if placeOf (ks.map (·.1)) f = -1 then [1, (e : Rat)] else acc.getD e.toNat []) := by
        unfold partsI
        rw [List.getElem?_zipWith, List.getElem?_map, hf, he]; rfl
      have lus : us.length ≤ 4 := by
        rw [all_len iD, List.length_take]; omega
      have fin : ∀ (y : V) (H9 : Hp), Same Hy H9 → Im K H9 y (vD (if placeOf (ks.map (·.1)) f = -1 then [1, (e : Rat)] else acc.getD e.toNat [])) →
          ∃ acc', H9 D = some (.lst acc') ∧ acc'.length < sizeLine ∧ Same H (upd H9 D (.lst (acc' ++ [y]))) ∧ ∃ us, (upd H9 D (.lst (acc' ++ [y]))) D = some (.lst us) ∧ ImAll K (upd H9 D (.lst (acc' ++ [y]))) us (((partsI acc (fs.map (placeOf (ks.map (·.1)))) es).take (s + 1)).map vD) := fun y H9 s9 iy => by
        have eD9 := s9 _ _ eD
        refine ⟨us, eD9, small1000 (by omega), fun b o e => ?_, _, upd_same, ?_⟩
        · rw [upd_ne (ne_of_none e hD)]
          exact s9 _ _ (sm _ _ e)
        · rw [List.take_add_one, pz, List.map_append]
          exact (ImAll.mono ((tk_same s9).trans (tk_lst eD9)) _ iD).snoc (Im.mono (tk_lst eD9) _ iy)
      have ga : atI (fs.map V.str) ((0 : Int) + (s : Nat)) = some (.str f) := by rw [k0]; exact atI_nat (by rw [List.getElem?_map, hf]; rfl)
      have gb : atI (es.map V.int) ((0 : Int) + (s : Nat)) = some (.int e) := by rw [k0]; exact atI_nat (by rw [List.getElem?_map, he]; rfl)
      refine ⟨rfl, .ref a, rfl, .int _, rfl, a, _, _, .str f, rfl, rfl, (ha.mono (tk_same sm)).sq, ga, rfl, _, rfl, ?_⟩
      rw [dec_str]
      by_cases hn : f = "number"
      · rw [decide_eq_true hn]
        have pm : placeOf (ks.map (·.1)) f = -1 := place_num.mpr (by rw [hn]; exact num_not ok)
        refine iteT ⟨by show 2 ≤ sizeLine; decide, fun T1 hT1 => ?_⟩
        have s1 := same_new (o := .tup [V.int 1, .int 1]) hT1
        have i1 : Im K (upd Hy T1 (.tup [V.int 1, .int 1])) (.ref T1) (rD 1) := rat_mk (q := 1) (.inl upd_same)
        generalize upd Hy T1 (.tup [V.int 1, .int 1]) = H1 at *
        refine ⟨.ref b, rfl, .int _, rfl, b, _, _, .int e, rfl, rfl, (hb.mono (tk_same (sm.trans s1))).sq, gb, by show 2 ≤ sizeLine; decide, fun T2 hT2 => ?_⟩
        have s2 := same_new (o := .tup [V.int e, .int 1]) hT2
        have i2 : Im K (upd H1 T2 (.tup [V.int e, .int 1])) (.ref T2) (rD (e : Rat)) := rat_mk (q := (e : Rat)) (.inl upd_same)
        generalize upd H1 T2 (.tup [V.int e, .int 1]) = H2 at *
        refine ⟨by show 2 ≤ sizeLine; decide, fun T3 hT3 => fin _ _ ((s1.trans s2).trans (same_new hT3)) ?_⟩
        rw [if_pos pm]
        exact .tup (.inl upd_same) (.cons (Im.mono ((tk_same s2).trans (tk_new hT3)) _ i1) (.cons (Im.mono (tk_new hT3) _ i2) .nil))
      · rw [decide_eq_false hn]
        obtain ⟨hin, n, rfl, hlt⟩ := hh.resolve_left hn
        have pm : ¬ placeOf (ks.map (·.1)) f = -1 := fun z => place_num.mp z hin
        obtain ⟨y, ey, iy⟩ := all_at (ImAll.mono (tk_same sm) _ iw) (List.getElem?_eq_getElem hlt)
        refine iteF ⟨.ref l, rfl, .ref b, rfl, .int _, rfl, b, _, _, .int (n : Nat), rfl, rfl, (hb.mono (tk_same sm)).sq, gb, l, ws, _, y, rfl, rfl, .of (sm _ _ el), atI_nat ey, fin _ _ (Same.refl _) ?_⟩
        rw [if_neg pm, Int.toNat_natCast, List.getD_eq_getElem?_getD, List.getElem?_eq_getElem hlt]
        exact iy
    · obtain ⟨sm, us, eD, iD⟩ := z
      have lp : (partsI acc (fs.map (placeOf (ks.map (·.1)))) es).length = fs.length := by
        unfold partsI
        rw [List.length_zipWith, List.length_map]; omega
      rw [Int.toNat_natCast, List.length_map, ← lp, List.take_of_length_le (Nat.le_refl _)] at iD
      exact q D us Hx sm eD iD
abbrev s__law_made : Stmt := topS 79
theorem sc__law_made : FnScope ["shape", "k", "m", "parts", "found", "at", "cols", "ratio", "worth", "f"] ["shape", "k", "m", "parts"] (defScope s__law_made) := ⟨rfl, rfl, rfl, by decide +kernel, rfl, by decide +kernel, by decide +kernel⟩
set_option maxHeartbeats 1000000 in
theorem ok__law_made {f : Addr} {fd : FuncData} {k : Nat} (F : Fun K "_law_made" "_law_made" s__law_made f fd) (T : Tx K mg){k1 : Nat} (D__law_plus : Def P w K mg base k1 "_law_plus" s__law_plus ["x", "y"] (sp_lplus K)) {k2 : Nat} (D__law_times : Def P w K mg base k2 "_law_times" s__law_times ["x", "y"] (sp_ltimes K)) (e1 : k1 ≤ k) (e2 : k2 ≤ k) : FnOk P w K mg base CX0 (k + 1) f fd ["shape", "k", "m", "parts"] (sp_vover K) := by
  have nd := sc__law_made.nd
  refine F.ok sc__law_made (fun vs H Q E h => ?_) (fun cdv A outer s H vs Q E hr h => ?_)
  · obtain ⟨_, _, _, _, _, _, _, _, _, _, rfl, _⟩ := h
    rfl
  · obtain ⟨v, kk, m, l, F', dim, row, ts, es, ps, rfl, iv, hdim, hrow, hts, hl, hes, d32, job, q⟩ := h
    obtain ⟨a, x1, x2, x3, x4, rfl, ha, i1, i2, i3, i4⟩ := im_quad iv
    obtain ⟨c, ds, rfl, hc, hds⟩ := i2.tuple_inv
    obtain rfl := im_nats hds
    obtain ⟨pm, ms, rfl, hpm, hms⟩ := i3.tuple_inv
    obtain ⟨x, ex, ix⟩ := all_at hms hrow
    obtain ⟨pr, rs, rfl, hpr, hrs⟩ := ix.tuple_inv
    obtain ⟨x, ex2, ix2⟩ := all_at hrs hts
    obtain ⟨pt, xs, rfl, hpt, hxs⟩ := ix2.tuple_inv
    have lx := all_len hxs
    refine ⟨_, (pss_cons (ps_set (i := 4) nd rfl (.inl rfl) (pe_op op_rep (pe_lst (pa_cons (pe_tup (pa_cons pe_int (pa_cons pe_int pa_nil))) pa_nil)) (pe_ix (kix_tup K) (pe_ix (kix_tup K) (pv 0) pe_int (fun _ _ => rfl)) (pv 1) (fun _ _ => rfl))))
      (pss_cons (ps_for PassesOwn.never rfl (kpi_tup K (pe_ix (kix_tup K) (pe_ix (kix_tup K) (pe_ix (kix_tup K) (pv 0) pe_int (fun _ _ => rfl)) (pv 1) (fun _ _ => rfl)) (pv 2) (fun _ _ => rfl))) (kpg_tup K (n := 3) rfl (pgs_cons (pg_name (i := 5) nd rfl (.inl rfl)) (pgs_cons (pg_name (i := 6) nd rfl (.inl rfl)) (pgs_cons (pg_name (i := 7) nd rfl (.inl rfl)) pgs_nil))))
        (pss_cons (ps_set (i := 8) nd rfl (.inl rfl) (pv 7))
        (pss_cons (ps_for PassesOwn.never rfl (pi_range1 rfl T.m_range (pa_cons (pe_callB (kcall_len K) (by rfl) T.m_len PySem.boot_len (pa_cons (pv 6) pa_nil)) pa_nil)) (pg_name (i := 9) nd rfl (.inl rfl))
          (pss_one (ps_set (i := 8) nd rfl (.inl rfl) (pe_def D__law_times (hr.mono (by omega)) rfl (pa_cons (pv 8) (pa_cons (pe_ix (kix_tup K) (pe_ix (kix_list K) (pv 3) (pv 9) (fun _ _ => rfl)) (pe_ix (kix_tup K) (pv 6) (pv 9) (fun _ _ => rfl)) (fun _ _ => rfl)) pa_nil))))))
        (pss_one (ps_asg (pe_def D__law_plus (hr.mono (by omega)) rfl (pa_cons (pe_ix (kix_list K) (pv 4) (pv 5) (fun _ _ => rfl)) (pa_cons (pv 8) pa_nil))) (pg_sub (pv 4) (pv 5) set_list))))))
      (pss_one (ps_ret (pe_callTy (kcall_tuple K) (by rfl) T.m_tuple (by decide +kernel) (pa_cons (pv 4) pa_nil)))))), ?_⟩
    have ed : (F'.dims.map (fun n : Nat => V.int (n : Nat)))[kk]? = some (.int (dim : Nat)) := by rw [List.getElem?_map, hdim]; rfl
    refine ⟨by show 2 ≤ sizeLine; decide, fun Z hZ => ?_⟩
    have sZ := same_new (o := .tup [V.int 0, .int 1]) hZ
    have iZ : Im K (upd H Z (.tup [V.int 0, .int 1])) (.ref Z) (rD 0) := rat_mk (q := 0) (.inl upd_same)
    generalize upd H Z (.tup [V.int 0, .int 1]) = HZ at *
    refine ⟨by show 1 ≤ sizeLine; decide, fun L hL => ?_⟩
    have sL := sZ.trans (same_new (o := .lst [.ref Z]) hL)
    have eL : (upd HZ L (.lst [.ref Z])) L = some (.lst [.ref Z]) := upd_same
    have iL := Im.mono (tk_same (same_new (o := .lst [.ref Z]) hL)) _ iZ
    generalize upd HZ L (.lst [.ref Z]) = H1 at *
    refine ⟨.ref a, rfl, a, _, 1, _, rfl, rfl, (ha.mono (tk_same sL)).sq, atI_nat (j := 1) rfl, .int (kk : Nat), rfl, c, _, _, _, rfl, rfl, (hc.mono (tk_same sL)).sq, atI_nat ed, L, dim, [.ref Z], rfl, rfl, eL, by omega, by omega, ?_, fun p hp => ?_⟩
    · show 1 * (dim : Int).toNat ≤ sizeLine
      have : (33 : Nat) ≤ sizeLine := by decide
      omega
    rw [Int.toNat_natCast, flat1]
    have hp0 : H p = none := sL.free hp
    have sp := same_new (o := .lst (List.replicate dim (.ref Z))) hp
    have s2 : Same H (upd H1 p (.lst (List.replicate dim (.ref Z)))) := sL.trans sp
    have ep : (upd H1 p (.lst (List.replicate dim (.ref Z)))) p = some (.lst (List.replicate dim (.ref Z))) := upd_same
    have iz0 := Im.mono (tk_same sp) _ iL
    generalize upd H1 p (.lst (List.replicate dim (.ref Z))) = H2 at *
    have t2 := tk_same s2
    refine ⟨.ref a, rfl, a, _, 2, _, rfl, rfl, (ha.mono t2).sq, atI_nat (j := 2) rfl, .int (kk : Nat), rfl, pm, _, _, _, rfl, rfl, (hpm.mono t2).sq, atI_nat ex, .int (m : Nat), rfl, pr, _, _, _, rfl, rfl, (hpr.mono t2).sq, atI_nat ex2, pt, rfl, ⟨_, (hpt.mono t2).sq⟩, ?_⟩
    refine for_it (walk_tup (xs := xs)) (fun i σ Ha => ∃ (y5 y6 y7 y8 y9 : Option V) (ws : List V), σ = [some (.ref a), some (.int (kk : Nat)), some (.int (m : Nat)), some (.ref l), some (.ref p), y5, y6, y7, y8, y9] ∧ Same H Ha ∧ Ha p = some (.lst ws) ∧ ImAll K Ha ws ((vecT dim (ts.take i) ps).map rD)) ⟨_, _, _, _, _, _, rfl, s2, ep, all_rep iz0 dim⟩ (fun i σ Ha _ z => ?_) ?_ ?_
    · obtain ⟨_, _, _, _, _, _, _, sm, _⟩ := z
      exact (hpt.mono (tk_same sm)).sq
    · rintro i x σ Ha Hb hi ⟨y5, y6, y7, y8, y9, ws, rfl, sm, mp, im⟩ ⟨rfl, hxi⟩
      obtain ⟨t, ht, it⟩ := all_get (ImAll.mono (tk_same sm) _ hxs) hxi
      obtain ⟨px, z1, z2, z3, rfl, hpx, iz1, iz2, iz3⟩ := im_trip it
      obtain rfl := iz1.int_inv
      obtain ⟨pc, cs, rfl, hpc, hcs⟩ := iz2.tuple_inv
      obtain rfl := im_nats hcs
      have tmem := List.mem_of_getElem? ht
      have les : es.length = ps.length := all_len hes
      have lcs := job.len t tmem
      refine ⟨px, _, rfl, hpx.sq, rfl, .int (t.1 : Nat), _, rfl, .ref pc, _, rfl, z3, _, rfl, rfl, z3, rfl, ?_⟩
      refine ⟨.ref pc, rfl, pc, _, rfl, .inr hpc.sq, _, rfl, ?_, ?_, ?_⟩
      · have := job.few
        rw [List.length_map, lcs]; omega
      · have := job.few
        rw [List.length_map, lcs]; omega
      refine for_it (walk_range (lo := 0) (n := ((t.2.1.map fun n : Nat => V.int (n : Nat)).length : Int).toNat)) (fun j σ Hc => ∃ (u : V) (y9 : Option V), σ = [some (.ref a), some (.int (kk : Nat)), some (.int (m : Nat)), some (.ref l), some (.ref p), some (.int (t.1 : Nat)), some (.ref pc), some z3, some u, y9] ∧ Same Hb Hc ∧ Im K Hc u (rD (wth t.2.2 ps t.2.1 j))) ⟨z3, _, rfl, Same.refl _, by rw [wth_zero]; exact iz3⟩ (fun _ _ _ _ _ => trivial) ?_ ?_
      · rintro j x σ Hc Hd hj ⟨u, y9, rfl, s3, iu⟩ ⟨rfl, rfl⟩
        rw [Int.toNat_natCast, List.length_map] at hj
        have k0 : ((0 : Int) + (j : Nat)) = ((j : Nat) : Int) := by omega
        have hj2 : j < ps.length := by omega
        have hcc : t.2.1[j]? = some (t.2.1[j]) := List.getElem?_eq_getElem hj
        have hvec : ps[j]? = some (ps[j]) := List.getElem?_eq_getElem hj2
        generalize t.2.1[j] = cc at *
        generalize ps[j] = vec at *
        obtain ⟨xv, exv, ivec⟩ := all_at (ImAll.mono (tk_same (sm.trans s3)) _ hes) hvec
        obtain ⟨pv', vx, rfl, hpv, hvx⟩ := vec_inv ivec
        have clt := job.col t tmem j cc vec hcc hvec
        obtain ⟨y, ey, iy⟩ := all_at hvx (List.getElem?_eq_getElem clt)
        have bx := job.bp t tmem j
        have by' := job.bv vec (List.mem_of_getElem? hvec) _ (List.getElem_mem clt)
        have ga : atI es ((0 : Int) + (j : Nat)) = some (.ref pv') := by rw [k0]; exact atI_nat exv
        have gb : atI (t.2.1.map fun n : Nat => V.int (n : Nat)) ((0 : Int) + (j : Nat)) = some (.int (cc : Nat)) := by rw [k0]; exact atI_nat (by rw [List.getElem?_map, hcc]; rfl)
        refine ⟨u, rfl, .ref l, rfl, .int _, rfl, l, es, _, _, rfl, rfl, .of (s3 _ _ (sm _ _ hl)), ga, .ref pc, rfl, .int _, rfl, pc, _, _, _, rfl, rfl, (hpc.mono (tk_same s3)).sq, gb, pv', _, _, y, rfl, rfl, hpv.sq, atI_nat ey, u, y, _, _, rfl, iu, iy, bx, by', fun p' H5 s5 i5 => ?_⟩
        refine ⟨_, _, rfl, s3.trans s5, ?_⟩
        rw [wth_snoc hvec hcc, List.getD_eq_getElem?_getD, List.getElem?_eq_getElem clt]
        exact i5
      · rintro σ Hc ⟨u, y9, rfl, s3, iu⟩
        rw [Int.toNat_natCast, List.length_map, wth_all (by omega) (Nat.le_refl _)] at iu
        have vt := vecT_snoc (dim := dim) (ps := ps) ht
        have lv : t.1 < (vecT dim (ts.take i) ps).length := by rw [vecT_len]; exact job.row t tmem
        obtain ⟨y, ey, iy⟩ := all_at (ImAll.mono (tk_same s3) _ im) (List.getElem?_eq_getElem lv)
        have b1 := job.bs i _ (List.getElem_mem lv)
        have b2 := job.bp t tmem ps.length
        rw [wth_all (Nat.le_refl _) (by omega)] at b2
        have lw : ws.length = (vecT dim (ts.take i) ps).length := all_len im
        refine ⟨.ref p, rfl, .int (t.1 : Nat), rfl, p, ws, _, y, rfl, rfl, .of (s3 _ _ mp), atI_nat ey, u, rfl, y, u, _, _, rfl, iy, iu, b1.mono (by decide) (by decide), b2, fun p' H5 s5 i5 => ?_⟩
        have mp5 := s5 _ _ (s3 _ _ mp)
        refine ⟨.ref p, rfl, .int (t.1 : Nat), rfl, p, ws, _, t.1, rfl, rfl, mp5, ixN_nat (by omega), _, _, _, _, _, ws.set t.1 (.ref p'), rfl, fun b o eb => ?_, upd_same, ?_⟩
        · rw [upd_ne (ne_of_none eb hp0)]
          exact s5 _ _ (s3 _ _ (sm _ _ eb))
        · rw [vt]
          unfold addTerm
          rw [List.getD_eq_getElem?_getD, List.getElem?_eq_getElem lv]
          have t5 := (tk_same s5).trans (tk_lst (o := .lst (ws.set t.1 (.ref p'))) mp5)
          exact all_set (Im.mono (tk_lst mp5) _ i5) (ImAll.mono ((tk_same s3).trans t5) _ im)
    · rintro σ Ha ⟨y5, y6, y7, y8, y9, ws, rfl, sm, mp, im⟩
      rw [lx, List.take_of_length_le (Nat.le_refl _)] at im
      refine ⟨.ref p, rfl, p, ws, rfl, .inl ⟨.of mp, fun l' hl' => q l' _ (sm.trans (same_new hl')) (.tup (.inl upd_same) (ImAll.mono (tk_new hl') _ im))⟩⟩
abbrev s__law_vectors : Stmt := topS 82
theorem sc__law_vectors : FnScope ["shape", "rows", "found", "word", "entries", "k", "m"] ["shape", "rows"] (defScope s__law_vectors) := ⟨rfl, rfl, rfl, by decide +kernel, rfl, by decide +kernel, by decide +kernel⟩
def sp_lvectors (K : PySem.W.Frag) : Sp := fun vs H Q _ => ∃ (v u : V) (F : Form) (rows : List Rw), vs = [v, u] ∧ Im K H v (fmD F) ∧ Im K H u (rwsD rows) ∧ FormOk 1 F ∧ RowsOk F.ks rows ∧ VecsJob F rows ∧ ∀ D ws H', Same H H' → H D = none → H' D = some (.lst ws) → ImAll K H' ws ((vecsOf F rows).map vD) → Q (.ref D) H'
set_option maxHeartbeats 1000000 in
theorem ok__law_vectors {f : Addr} {fd : FuncData} {k : Nat} (F : Fun K "_law_vectors" "_law_vectors" s__law_vectors f fd) (T : Tx K mg){k1 : Nat} (D__law_where : Def P w K mg base k1 "_law_where" s__law_where ["kinds", "word"] (sp_where K)) {k2 : Nat} (D__law_made : Def P w K mg base k2 "_law_made" s__law_made ["shape", "k", "m", "parts"] (sp_vover K)) {k3 : Nat} (D__law_parts : Def P w K mg base k3 "_law_parts" s__law_parts ["fields", "entries", "found"] (sp_parts K)) (e1 : k1 ≤ k) (e2 : k2 ≤ k) (e3 : k3 ≤ k) : FnOk P w K mg base CX0 (k + 1) f fd ["shape", "rows"] (sp_lvectors K) := by
  have nd := sc__law_vectors.nd
  refine F.ok sc__law_vectors (fun vs H Q E h => ?_) (fun cdv A outer s H vs Q E hr h => ?_)
  · obtain ⟨_, _, _, _, rfl, _⟩ := h
    rfl
  · obtain ⟨v, u, F', rows, rfl, iv, iu, ok, ro, job, q⟩ := h
    obtain ⟨a, x1, x2, x3, x4, rfl, ha, i1, i2, i3, i4⟩ := im_quad iv
    obtain ⟨b, xs, rfl, hb, hx⟩ := iu.tuple_inv
    obtain ⟨ka, kx, rfl, hka, hkx⟩ := i1.tuple_inv
    have lx := all_len hx
    have few := ro.few
    have kf := ok.kinds
    refine ⟨_, (pss_cons (ps_set (i := 2) nd rfl (.inl rfl) (pe_lst pa_nil))
      (pss_cons (ps_for PassesOwn.never rfl (kpi_tup K (pv 1)) (kpg_tup K (n := 2) rfl (pgs_cons (pg_name (i := 3) nd rfl (.inl rfl)) (pgs_cons (pg_name (i := 4) nd rfl (.inl rfl)) pgs_nil)))
        (pss_cons (ps_asg (pe_def D__law_where (hr.mono (by omega)) rfl (pa_cons (pe_ix (kix_tup K) (pv 0) pe_int (fun _ _ => rfl)) (pa_cons (pv 3) pa_nil))) (kpg_tup K (n := 2) rfl (pgs_cons (pg_name (i := 5) nd rfl (.inl rfl)) (pgs_cons (pg_name (i := 6) nd rfl (.inl rfl)) pgs_nil))))
        (pss_one (ps_expr (pe_bm PySem.F.plainAttrs_list PySem.F.slot_list_append PySem.F.type_list_append mt_append (pv 2) (pa_cons (pe_def D__law_made (hr.mono (by omega)) rfl (pa_cons (pv 0) (pa_cons (pv 5) (pa_cons (pv 6) (pa_cons (pe_def D__law_parts (hr.mono (by omega)) rfl (pa_cons (pe_ix (kix_tup K) (pe_ix (kix_tup K) (pe_ix (kix_tup K) (pe_ix (kix_tup K) (pe_ix (kix_tup K) (pv 0) pe_int (fun _ _ => rfl)) (pv 5) (fun _ _ => rfl)) pe_int (fun _ _ => rfl)) (pv 6) (fun _ _ => rfl)) pe_int (fun _ _ => rfl)) (pa_cons (pv 4) (pa_cons (pv 2) pa_nil)))) pa_nil))))) pa_nil))))))
      (pss_one (ps_ret (pv 2))))), ?_⟩
    refine ⟨by show 0 ≤ sizeLine; decide, fun L hL => ?_⟩
    have sL := same_new (o := .lst []) hL
    have eL : (upd H L (.lst [])) L = some (.lst []) := upd_same
    generalize upd H L (.lst []) = H2 at *
    refine ⟨.ref b, rfl, b, rfl, ⟨_, (hb.mono (tk_same sL)).sq⟩, ?_⟩
    refine for_it (walk_tup (xs := xs)) (fun t σ Ha => ∃ (y3 y4 y5 y6 : Option V) (ws : List V), σ = [some (.ref a), some (.ref b), some (.ref L), y3, y4, y5, y6] ∧ Same H Ha ∧ Ha L = some (.lst ws) ∧ ImAll K Ha ws ((vecsOf F' (rows.take t)).map vD)) ⟨_, _, _, _, [], rfl, sL, eL, .nil⟩ (fun t σ Ha _ z => ?_) ?_ ?_
    · obtain ⟨_, _, _, _, _, _, sm, _⟩ := z
      exact (hb.mono (tk_same sm)).sq
    · rintro t x σ Ha Hb ht ⟨y3, y4, y5, y6, ws, rfl, sm, mL, im⟩ ⟨rfl, hxt⟩
      obtain ⟨r, hr', ir⟩ := all_get (ImAll.mono (tk_same sm) _ hx) hxt
      obtain ⟨p, z1, z2, rfl, hp, iz1, iz2⟩ := im_pair ir
      obtain rfl := iz1.str_inv
      obtain ⟨i, j, kd, m, at', hl, hent⟩ := ro.each t r hr'
      obtain ⟨dim, row, ts, hdim, hrow, hts, ed, et⟩ := ok.at at'.hk at'.hm
      have l4 := (kf.mkk _ (List.mem_of_getElem? at'.hk) _ (List.mem_of_getElem? at'.hm)).2
      have vj := job.each t r i j kd m hr' at'
      have ero := rowOf_at ok.kinds at'
      have tA := tk_same sm
      refine ⟨p, _, rfl, hp.sq, rfl, .str r.1, _, rfl, z2, _, rfl, rfl, ?_⟩
      refine ⟨.ref a, rfl, a, _, 0, _, rfl, rfl, (ha.mono tA).sq, atI_nat (j := 0) rfl, .str r.1, rfl, .ref ka, r.1, F'.ks, i, j, kd, m, rfl, Im.mono tA _ i1, kf, at'.hk, at'.hm, at'.nm, fun T H3 s3 hT => ?_⟩
      refine ⟨T, _, rfl, hT.sq, rfl, .int (i : Nat), _, rfl, .int (j : Nat), _, rfl, rfl, ?_⟩
      have s03 := sm.trans s3
      have t3 := tk_same s03
      obtain ⟨x, ex, ix⟩ := all_at (ImAll.mono t3 _ hkx) at'.hk
      obtain ⟨pk, w1, w2, rfl, hpk, iw1, iw2⟩ := im_pair ix
      obtain ⟨pm, ms, rfl, hpm, hms⟩ := iw2.tuple_inv
      obtain ⟨y, ey, iy⟩ := all_at hms at'.hm
      obtain ⟨pp, w3, w4, rfl, hpp, iw3, iw4⟩ := im_pair iy
      have mL3 := s3 _ _ mL
      have im3 := ImAll.mono (tk_same s3) _ im
      have lvo : (vecsOf F' (rows.take t)).length = t := by
        rw [vecsOf_len, List.length_take]
        have := (List.getElem?_eq_some_iff.mp hr').1
        omega
      have cond : ∀ (x : Nat) f e, m.2[x]? = some f → r.2[x]? = some e → f = "number" ∨ f ∈ F'.ks.map (·.1) ∧ ∃ n : Nat, e = n ∧ n < (vecsOf F' (rows.take t)).length := fun x f e hf he => by
        rcases kf.flds kd (List.mem_of_getElem? at'.hk) m (List.mem_of_getElem? at'.hm) f (List.mem_of_getElem? hf) with h | h
        · exact .inl h
        · obtain ⟨n, rfl, hn, _⟩ := hent x f e hf he h
          exact .inr ⟨h, n, rfl, by omega⟩
      refine ⟨.ref L, rfl, .inl ⟨rfl, _, .of mL3⟩, .ref a, rfl, .int (i : Nat), rfl, .int (j : Nat), rfl, ?_⟩
      refine ⟨.ref a, rfl, a, _, 0, _, rfl, rfl, (ha.mono t3).sq, atI_nat (j := 0) rfl, .int (i : Nat), rfl, ka, kx, _, .ref pk, rfl, rfl, (hka.mono t3).sq, atI_nat ex, pk, _, 1, _, rfl, rfl, hpk.sq, atI_nat (j := 1) rfl, .int (j : Nat), rfl, pm, ms, _, .ref pp, rfl, rfl, hpm.sq, atI_nat ey, pp, _, 1, w4, rfl, rfl, hpp.sq, atI_nat (j := 1) rfl, z2, rfl, .ref L, rfl, ?_⟩
      refine ⟨w4, z2, L, F'.ks, m.2, r.2, ws, _, rfl, iw4, Im.mono (tk_same s3) _ iz2, mL3, im3, kf, hl, l4, cond, fun D us H4 s4 eD iD => ?_⟩
      have d32 := ok.dim_le i
      rw [ed] at d32
      rw [ed, et] at vj
      have s34 := s3.trans s4
      refine ⟨.ref a, i, j, D, F', dim, row, ts, us, _, rfl, Im.mono (tk_same (sm.trans s34)) _ iv, hdim, hrow, hts, eD, iD, d32, vj, fun p' H7 s7 i7 => ?_⟩
      have s37 := s34.trans s7
      have mL7 := s37 _ _ mL
      have lws : ws.length ≤ 96 := by
        rw [all_len im, vecsOf_len, List.length_take]; omega
      refine ⟨L, ws, .ref p', rfl, rfl, mL7, small1000 (by omega), _, _, _, _, _, rfl, fun b o e => ?_, upd_same, ?_⟩
      · rw [upd_ne (ne_of_none e hL)]
        exact s37 _ _ (sm _ _ e)
      · rw [vecsOf_snoc hr']
        unfold vecStep
        rw [ero]
        show ImAll K _ _ ((vecsOf F' (rows.take t) ++ [vecT (F'.dims.getD i 0) (termsAt F' i j) (partsI (vecsOf F' (rows.take t)) (m.2.map (placeOf (F'.ks.map (·.1)))) r.2)]).map vD)
        rw [ed, et, List.map_append]
        exact (ImAll.mono ((tk_same s37).trans (tk_lst mL7)) _ im).snoc (Im.mono (tk_lst mL7) _ i7)
    · rintro σ Ha ⟨y3, y4, y5, y6, ws, rfl, sm, mL, im⟩
      rw [lx, List.take_of_length_le (Nat.le_refl _)] at im
      exact ⟨.ref L, rfl, q L ws Ha sm hL mL im⟩
end
end K63

set_option Elab.async false
set_option linter.all false
set_option maxRecDepth 100000
set_option exponentiation.threshold 20000
set_option pp.deepTerms false
set_option pp.deepTerms.threshold 8
namespace K63
open PySem PySem.Spec PyProof.Rows L2 Ly Mt
section
variable {P : Program} {w : World} {K : PySem.W.Frag} {mg : Str → Option Value} {base : Heap}
abbrev s__law_joint : Stmt := topS 84
theorem sc__law_joint : FnScope ["first", "second", "kinds", "dims", "maps", "reads", "found", "k", "row", "m", "steps", "moved_v", "at", "cols", "ratio", "told", "r", "word", "head", "vector", "field", "f"] ["first", "second"] (defScope s__law_joint) := ⟨rfl, rfl, rfl, by decide +kernel, rfl, by decide +kernel, by decide +kernel⟩
set_option maxHeartbeats 2000000 in
theorem ok__law_joint {f : Addr} {fd : FuncData} {k : Nat} (F : Fun K "_law_joint" "_law_joint" s__law_joint f fd) (T : Tx K mg){k1 : Nat} (D__law_place : Def P w K mg base k1 "_law_place" s__law_place ["kinds", "head"] (sp_place K)) (e1 : k1 ≤ k) : FnOk P w K mg base CX0 (k + 1) f fd ["first", "second"] (sp_joined K) := by
  have nd := sc__law_joint.nd
  refine F.ok sc__law_joint (fun vs H Q E h => ?_) (fun cdv A outer s H vs Q E hr h => ?_)
  · obtain ⟨_, _, _, _, rfl, _⟩ := h
    rfl
  · obtain ⟨v, u, F', G, rfl, iv, iu, ok, ok2, ek, erl, q⟩ := h
    obtain ⟨a, x1, x2, x3, x4, rfl, ha, i1, i2, i3, i4⟩ := im_quad iv
    obtain ⟨b, w1, w2, w3, w4, rfl, hb, j1, j2, j3, j4⟩ := im_quad iu
    obtain ⟨ka, kxs, rfl, hka, hkx⟩ := i1.tuple_inv
    obtain ⟨c, ds, rfl, hc, hds⟩ := i2.tuple_inv
    obtain rfl := im_nats hds
    obtain ⟨c2, ds, rfl, hc2, hds2⟩ := j2.tuple_inv
    obtain rfl := im_nats hds2
    obtain ⟨pm, ms, rfl, hpm, hms⟩ := i3.tuple_inv
    obtain ⟨pm2, ms2, rfl, hpm2, hms2⟩ := j3.tuple_inv
    obtain ⟨ra, rxs, rfl, hra, hrx⟩ := i4.tuple_inv
    obtain ⟨rb, rys, rfl, hrb, hry⟩ := j4.tuple_inv
    have lkx : kxs.length = F'.ks.length := all_len hkx
    have lrx : rxs.length = F'.rds.length := all_len hrx
    have lry : rys.length = G.rds.length := all_len hry
    have kf := ok.kinds.few
    have rf := ok.rd.few
    have ld := ok.ld
    have ld2 := ok2.ld
    rw [ek] at ld2
    refine ⟨_, (pss_cons (ps_asg (pv 0) (kpg_tup K (n := 4) rfl (pgs_cons (pg_name (i := 2) nd rfl (.inr rfl)) (pgs_cons (pg_name (i := 3) nd rfl (.inr rfl)) (pgs_cons (pg_name (i := 4) nd rfl (.inl rfl)) (pgs_cons (pg_name (i := 5) nd rfl (.inl rfl)) pgs_nil))))))
      (pss_cons (ps_set (i := 6) nd rfl (.inl rfl) (pe_lst pa_nil))
      (pss_cons (ps_for PassesOwn.never rfl (pi_range1 rfl T.m_range (pa_cons (pe_callB (kcall_len K) (by rfl) T.m_len PySem.boot_len (pa_cons (pv 2) pa_nil)) pa_nil)) (pg_name (i := 7) nd rfl (.inl rfl))
        (pss_cons (ps_set (i := 8) nd rfl (.inl rfl) (pe_lst pa_nil))
        (pss_cons (ps_for PassesOwn.never rfl (pi_range1 rfl T.m_range (pa_cons (pe_callB (kcall_len K) (by rfl) T.m_len PySem.boot_len (pa_cons (pe_ix (kix_tup K) (pe_ix (kix_tup K) (pv 2) (pv 7) (fun _ _ => rfl)) pe_int (fun _ _ => rfl)) pa_nil)) pa_nil)) (pg_name (i := 9) nd rfl (.inl rfl))
          (pss_cons (ps_set (i := 10) nd rfl (.inr rfl) (pe_lc (own := [("field", 20)]) (g := gName 20) (tt := tYes) rfl nd (kpi_tup K (pe_ix (kix_tup K) (pe_ix (kix_tup K) (pe_ix (kix_tup K) (pe_ix (kix_tup K) (pv 2) (pv 7) (fun _ _ => rfl)) pe_int (fun _ _ => rfl)) (pv 9) (fun _ _ => rfl)) pe_int (fun _ _ => rfl))) (blkOk_by (by rfl)) (fun _ _ _ _ _ => (pg_name (i := 20) nd rfl (.inl rfl))) (fun _ _ _ _ _ => pts_nil) (fun _ _ _ _ _ => (pe_ifExp (pt_cmpR op_eq (pv 20) pe_str (nomark _)) pe_int (pe_ix (kix_tup K) (pv 3) (pe_def D__law_place (hr.mono (by omega)) rfl (pa_cons (pv 2) (pa_cons (pv 20) pa_nil))) (fun _ _ => rfl))))))
          (pss_cons (ps_set (i := 11) nd rfl (.inl rfl) (pe_lst pa_nil))
          (pss_cons (ps_for PassesOwn.never rfl (kpi_tup K (pe_ix (kix_tup K) (pe_ix (kix_tup K) (pe_ix (kix_tup K) (pv 1) pe_int (fun _ _ => rfl)) (pv 7) (fun _ _ => rfl)) (pv 9) (fun _ _ => rfl))) (kpg_tup K (n := 3) rfl (pgs_cons (pg_name (i := 12) nd rfl (.inl rfl)) (pgs_cons (pg_name (i := 13) nd rfl (.inr rfl)) (pgs_cons (pg_name (i := 14) nd rfl (.inl rfl)) pgs_nil))))
            (pss_one (ps_expr (pe_bm PySem.F.plainAttrs_list PySem.F.slot_list_append PySem.F.type_list_append mt_append (pv 11) (pa_cons (pe_tup (pa_cons (pe_op op_add (pv 12) (pe_ix (kix_tup K) (pv 3) (pv 7) (fun _ _ => rfl))) (pa_cons (pe_callTy (kcall_tuple K) (by rfl) T.m_tuple (by decide +kernel) (pa_cons (pe_lc (own := [("f", 21)]) (g := gName 21) (tt := tYes) rfl nd (pi_range1 rfl T.m_range (pa_cons (pe_callB (kcall_len K) (by rfl) T.m_len PySem.boot_len (pa_cons (pv 13) pa_nil)) pa_nil)) (blkOk_by (by rfl)) (fun _ _ _ _ _ => (pg_name (i := 21) nd rfl (.inl rfl))) (fun _ _ _ _ _ => pts_nil) (fun _ _ _ _ _ => (pe_op op_add (pe_ix (kix_tup K) (pv 13) (pv 21) (fun _ _ => rfl)) (pe_ix (kix_list K) (pv 10) (pv 21) (fun _ _ => rfl))))) pa_nil)) (pa_cons (pv 14) pa_nil)))) pa_nil)))))
          (pss_one (ps_expr (pe_bm PySem.F.plainAttrs_list PySem.F.slot_list_append PySem.F.type_list_append mt_append (pv 8) (pa_cons (pe_op (kop_catA K) (pe_ix (kix_tup K) (pe_ix (kix_tup K) (pv 4) (pv 7) (fun _ _ => rfl)) (pv 9) (fun _ _ => rfl)) (pe_callTy (kcall_tuple K) (by rfl) T.m_tuple (by decide +kernel) (pa_cons (pv 11) pa_nil))) pa_nil))))))))
        (pss_one (ps_expr (pe_bm PySem.F.plainAttrs_list PySem.F.slot_list_append PySem.F.type_list_append mt_append (pv 6) (pa_cons (pe_callTy (kcall_tuple K) (by rfl) T.m_tuple (by decide +kernel) (pa_cons (pv 8) pa_nil)) pa_nil)))))))
      (pss_cons (ps_set (i := 15) nd rfl (.inl rfl) (pe_lst pa_nil))
      (pss_cons (ps_for PassesOwn.never rfl (pi_range1 rfl T.m_range (pa_cons (pe_callB (kcall_len K) (by rfl) T.m_len PySem.boot_len (pa_cons (pv 5) pa_nil)) pa_nil)) (pg_name (i := 16) nd rfl (.inl rfl))
        (pss_cons (ps_asg (pe_ix (kix_tup K) (pv 5) (pv 16) (fun _ _ => rfl)) (kpg_tup K (n := 3) rfl (pgs_cons (pg_name (i := 17) nd rfl (.inl rfl)) (pgs_cons (pg_name (i := 18) nd rfl (.inl rfl)) (pgs_cons (pg_name (i := 19) nd rfl (.inl rfl)) pgs_nil)))))
        (pss_one (ps_expr (pe_bm PySem.F.plainAttrs_list PySem.F.slot_list_append PySem.F.type_list_append mt_append (pv 15) (pa_cons (pe_tup (pa_cons (pv 17) (pa_cons (pv 18) (pa_cons (pe_op (kop_catA K) (pv 19) (pe_callTy (kcall_tuple K) (by rfl) T.m_tuple (by decide +kernel) (pa_cons (pe_lc (own := [("ratio", 14)]) (g := gName 14) (tt := tYes) rfl nd (kpi_tup K (pe_ix (kix_tup K) (pe_ix (kix_tup K) (pe_ix (kix_tup K) (pv 1) pe_int (fun _ _ => rfl)) (pv 16) (fun _ _ => rfl)) pe_int (fun _ _ => rfl))) (blkOk_by (by rfl)) (fun _ _ _ _ _ => (pg_name (i := 14) nd rfl (.inl rfl))) (fun _ _ _ _ _ => pts_nil) (fun _ _ _ _ _ => (pe_tup (pa_cons (pe_un un_neg (pe_ix (kix_tup K) (pv 14) pe_int (fun _ _ => rfl))) (pa_cons (pe_ix (kix_tup K) (pv 14) pe_int (fun _ _ => rfl)) pa_nil))))) pa_nil))) pa_nil)))) pa_nil))))))
      (pss_one (ps_ret (pe_tup (pa_cons (pv 2) (pa_cons (pe_callTy (kcall_tuple K) (by rfl) T.m_tuple (by decide +kernel) (pa_cons (pe_lc (own := [("k", 7)]) (g := gName 7) (tt := tYes) rfl nd (pi_range1 rfl T.m_range (pa_cons (pe_callB (kcall_len K) (by rfl) T.m_len PySem.boot_len (pa_cons (pv 2) pa_nil)) pa_nil)) (blkOk_by (by rfl)) (fun _ _ _ _ _ => (pg_name (i := 7) nd rfl (.inl rfl))) (fun _ _ _ _ _ => pts_nil) (fun _ _ _ _ _ => (pe_op op_add (pe_ix (kix_tup K) (pv 3) (pv 7) (fun _ _ => rfl)) (pe_ix (kix_tup K) (pe_ix (kix_tup K) (pv 1) pe_int (fun _ _ => rfl)) (pv 7) (fun _ _ => rfl))))) pa_nil)) (pa_cons (pe_callTy (kcall_tuple K) (by rfl) T.m_tuple (by decide +kernel) (pa_cons (pv 6) pa_nil)) (pa_cons (pe_callTy (kcall_tuple K) (by rfl) T.m_tuple (by decide +kernel) (pa_cons (pv 15) pa_nil)) pa_nil)))))))))))), ?_⟩
    refine ⟨.ref a, rfl, a, _, rfl, ha.sq, rfl, .ref ka, _, rfl, .ref c, _, rfl, .ref pm, _, rfl, .ref ra, _, rfl, rfl, ?_⟩
    refine ⟨by show 0 ≤ sizeLine; decide, fun L hL => ?_⟩
    have s2 := same_new (o := .lst []) hL
    have eL : (upd H L (.lst [])) L = some (.lst []) := upd_same
    generalize upd H L (.lst []) = H2 at *
    refine ⟨.ref ka, rfl, ka, kxs, rfl, .inr (hka.mono (tk_same s2)).sq, (kxs.length : Nat), rfl, by omega, by omega, ?_⟩
    refine for_it (walk_range (lo := 0) (n := (kxs.length : Int).toNat)) (fun i σ Ha => ∃ (y7 y8 y9 y10 y11 y12 y13 y14 y15 y16 y17 y18 y19 : Option V) (ws : List V), σ = [some (.ref a), some (.ref b), some (.ref ka), some (.ref c), some (.ref pm), some (.ref ra), some (.ref L), y7, y8, y9, y10, y11, y12, y13, y14, y15, y16, y17, y18, y19, none, none] ∧ Same H Ha ∧ Ha L = some (.lst ws) ∧ ImAll K Ha ws (((List.range i).map (jrow F' G)).map mrD)) ⟨_, _, _, _, _, _, _, _, _, _, _, _, _, [], rfl, s2, eL, .nil⟩ (fun _ _ _ _ _ => trivial) ?_ ?_
    · rintro i x σ Ha Hb hi ⟨y7, y8, y9, y10, y11, y12, y13, y14, y15, y16, y17, y18, y19, ws, rfl, sm, mL, im⟩ ⟨rfl, rfl⟩
      rw [Int.toNat_natCast] at hi
      show gName 7 (V.int ((0 : Int) + (i : Nat))) _ _ _
      rw [show (0 : Int) + (i : Nat) = (i : Nat) by omega]
      obtain ⟨kd, hkd⟩ : ∃ kd, F'.ks[i]? = some kd := ⟨_, List.getElem?_eq_getElem (by omega)⟩
      have kmem := List.mem_of_getElem? hkd
      have mk6 := ok.kinds.mks kd kmem
      refine ⟨by show 0 ≤ sizeLine; decide, fun R hR => ?_⟩
      have s3 := same_new (o := .lst []) hR
      have mR : (upd Hb R (.lst [])) R = some (.lst []) := upd_same
      have hR0 : H R = none := sm.free hR
      have nRL : L ≠ R := ne_of_none mL hR
      have sm3 := sm.trans s3
      generalize upd Hb R (.lst []) = H3 at *
      obtain ⟨x, ex, ix⟩ := all_at (ImAll.mono (tk_same sm3) _ hkx) hkd
      obtain ⟨pk, u1, u2, rfl, hpk, iu1, iu2⟩ := im_pair ix
      obtain ⟨pmk, us, rfl, hpmk, ius⟩ := iu2.tuple_inv
      have lus : us.length = kd.2.length := all_len ius
      refine ⟨.ref ka, rfl, .int (i : Nat), rfl, ka, kxs, _, .ref pk, rfl, rfl, (hka.mono (tk_same sm3)).sq, atI_nat ex, pk, _, 1, _, rfl, rfl, hpk.sq, atI_nat (j := 1) rfl, pmk, us, rfl, .inr hpmk.sq, (us.length : Nat), rfl, by omega, by omega, ?_⟩
      refine for_it (walk_range (lo := 0) (n := (us.length : Int).toNat)) (fun j σ Hc => ∃ (y9 y10 y11 y12 y13 y14 : Option V) (vs : List V), σ = [some (.ref a), some (.ref b), some (.ref ka), some (.ref c), some (.ref pm), some (.ref ra), some (.ref L), some (.int (i : Nat)), some (.ref R), y9, y10, y11, y12, y13, y14, y15, y16, y17, y18, y19, none, none] ∧ Same Hb Hc ∧ ITup K Hc pk [u1, .ref pmk] ∧ ITup K Hc pmk us ∧ ImAll K Hc us (kd.2.map mkD) ∧ Hc R = some (.lst vs) ∧ ImAll K Hc vs (((List.range j).map (jcell F' G i)).map tsD)) ⟨_, _, _, _, _, _, [], rfl, s3, hpk, hpmk, ius, mR, .nil⟩ (fun _ _ _ _ _ => trivial) ?_ ?_
      · rintro j x σ Hc Hd hj ⟨y9, y10, y11, y12, y13, y14, vs, rfl, s5, hpk, hpmk, ius, mR5, im5⟩ ⟨rfl, rfl⟩
        rw [Int.toNat_natCast] at hj
        show gName 9 (V.int ((0 : Int) + (j : Nat))) _ _ _
        rw [show (0 : Int) + (j : Nat) = (j : Nat) by omega]
        obtain ⟨m, hm⟩ : ∃ m, kd.2[j]? = some m := ⟨_, List.getElem?_eq_getElem (by omega)⟩
        have sA := sm.trans s5
        have tA := tk_same sA
        obtain ⟨y, ey, iy⟩ := all_at ius hm
        obtain ⟨pp, u3, u4, rfl, hpp, iu3, iu4⟩ := im_pair iy
        obtain ⟨pf, fs, rfl, hpf, hfs⟩ := iu4.tuple_inv
        obtain rfl := im_strs hfs
        have ex' := ex
        have l4 := (ok.kinds.mkk _ kmem _ (List.mem_of_getElem? hm)).2
        refine ⟨.ref ka, rfl, .int (i : Nat), rfl, ka, kxs, _, .ref pk, rfl, rfl, (hka.mono tA).sq, atI_nat ex, pk, _, 1, _, rfl, rfl, hpk.sq, atI_nat (j := 1) rfl, .int (j : Nat), rfl, pmk, us, _, .ref pp, rfl, rfl, hpmk.sq, atI_nat ey, pp, _, 1, _, rfl, rfl, hpp.sq, atI_nat (j := 1) rfl, pf, rfl, ⟨_, hpf.sq⟩, fun S hS => ?_⟩
        refine lc_all (walk_tup (xs := m.2.map V.str)) (fun s Hx => Same Hd Hx ∧ Hx S = some (.lst (((stepsOf (F'.ks.map (·.1)) F'.dims m.2).take s).map (fun n : Nat => V.int (n : Nat))))) ⟨same_new hS, upd_same⟩ (fun s Hx _ z => (hpf.mono (tk_same z.1)).sq) (fun s x Hx Hy hs z y => ?_) (fun Hx z => ?_)
        · obtain ⟨s7, eS⟩ := z
          obtain ⟨rfl, hxs⟩ := y
          rw [List.getElem?_map] at hxs
          obtain ⟨f, hf, rfl⟩ := Option.map_eq_some_iff.mp hxs
          rw [List.length_map] at hs
          have est : (stepsOf (F'.ks.map (·.1)) F'.dims m.2)[s]? = some (if f ∈ F'.ks.map (·.1) then F'.dims.getD ((F'.ks.map (·.1)).idxOf f) 0 else 0) := by
            unfold stepsOf
            rw [List.getElem?_map, hf]; rfl
          have fin : ∀ (n : Nat) H9, Same Hy H9 → (stepsOf (F'.ks.map (·.1)) F'.dims m.2)[s]? = some n → ∃ acc, H9 S = some (.lst acc) ∧ acc.length < sizeLine ∧ Same Hd (upd H9 S (.lst (acc ++ [V.int (n : Nat)]))) ∧ (upd H9 S (.lst (acc ++ [V.int (n : Nat)]))) S = some (.lst (((stepsOf (F'.ks.map (·.1)) F'.dims m.2).take (s + 1)).map (fun n : Nat => V.int (n : Nat)))) := fun n H9 s9 en => by
            refine ⟨_, s9 _ _ eS, small1000 (by simp only [List.length_map, List.length_take]; omega), fun b' o e => ?_, ?_⟩
            · rw [upd_ne (ne_of_none e hS)]; exact s9 _ _ (s7 _ _ e)
            · rw [upd_same, List.take_add_one, en, List.map_append]; rfl
          refine ⟨rfl, .str f, rfl, rfl, _, rfl, ?_⟩
          rw [dec_str]
          by_cases h1 : f = "number"
          · rw [decide_eq_true h1]
            rw [if_neg (by rw [h1]; exact num_not ok.kinds)] at est
            exact iteT (fin 0 _ (Same.refl _) est)
          · rw [decide_eq_false h1]
            have hin := (ok.kinds.flds kd kmem m (List.mem_of_getElem? hm) f (List.mem_of_getElem? hf)).resolve_left h1
            rw [if_pos hin] at est
            have hidx := List.idxOf_lt_length_of_mem hin
            rw [List.length_map] at hidx
            refine iteF ⟨.ref c, rfl, .ref ka, rfl, .str f, rfl, .ref ka, f, F'.ks, rfl, Im.mono (tk_same (sA.trans s7)) _ i1, by omega, hin, fun H9 s9 => ?_⟩
            refine ⟨c, _, _, V.int ((F'.dims.getD ((F'.ks.map (·.1)).idxOf f) 0 : Nat) : Int), rfl, rfl, (hc.mono (tk_same ((sA.trans s7).trans s9))).sq, atI_nat ?_, fin _ _ s9 est⟩
            rw [List.getElem?_map, List.getD_eq_getElem?_getD, List.getElem?_eq_getElem (by omega)]; rfl
        · obtain ⟨s7, eS⟩ := z
          have lst : (stepsOf (F'.ks.map (·.1)) F'.dims m.2).length = m.2.length := by unfold stepsOf; rw [List.length_map]
          rw [List.length_map, ← lst, List.take_of_length_le (Nat.le_refl _)] at eS
          have s8 := s5.trans s7
          have sB := sm.trans s8
          have tB := tk_same sB
          obtain ⟨dim, row, ts, hdim, hrow, hts, ed, et⟩ := ok.at hkd hm
          obtain ⟨dim2, row2, ts2, hdim2, hrow2, hts2, ed2, et2⟩ := ok2.at (by rw [ek]; exact hkd) hm
          obtain ⟨z1, ex1, iz1⟩ := all_at hms hrow
          obtain ⟨pr, rs, rfl, hpr, hrs⟩ := iz1.tuple_inv
          obtain ⟨z2, ex2, iz2⟩ := all_at hrs hts
          obtain ⟨pt, ts', rfl, hpt, hts'⟩ := iz2.tuple_inv
          obtain ⟨z3, ex3, iz3⟩ := all_at hms2 hrow2
          obtain ⟨pr2, rs2, rfl, hpr2, hrs2⟩ := iz3.tuple_inv
          obtain ⟨z4, ex4, iz4⟩ := all_at hrs2 hts2
          obtain ⟨pt2, tt2, rfl, hpt2, htt2⟩ := iz4.tuple_inv
          have lt1 : ts'.length = ts.length := all_len hts'
          have lt2 : tt2.length = ts2.length := all_len htt2
          have few2 := (jterm_len ok2 (by rw [ek]; exact hkd) hm hrow2 hts2)
          have f4000 := (ok.tm i kd row hkd hrow j m ts hm hts).few
          have g4000 := (ok2.tm i kd row2 (by rw [ek]; exact hkd) hrow2 j m ts2 hm hts2).few
          refine ⟨by show 0 ≤ sizeLine; decide, fun D hD => ?_⟩
          have sD := same_new (o := .lst []) hD
          have eD : (upd Hx D (.lst [])) D = some (.lst []) := upd_same
          have nSD : S ≠ D := ne_of_none eS hD
          have eSD := sD _ _ eS
          have hDd : Hd D = none := s7.free hD
          have nRD : R ≠ D := ne_of_none (s7 _ _ mR5) hD
          have sBD := sB.trans sD
          generalize upd Hx D (.lst []) = HD at *
          have tD := tk_same sBD
          refine ⟨.ref b, rfl, b, _, 2, _, rfl, rfl, (hb.mono tD).sq, atI_nat (j := 2) rfl, .int (i : Nat), rfl, pm2, _, _, _, rfl, rfl, (hpm2.mono tD).sq, atI_nat ex3, .int (j : Nat), rfl, pr2, _, _, _, rfl, rfl, (hpr2.mono tD).sq, atI_nat ex4, pt2, rfl, ⟨_, (hpt2.mono tD).sq⟩, ?_⟩
          refine for_it (walk_tup (xs := tt2)) (fun s σ Hz => ∃ (y12 y13 y14 : Option V) (zs : List V), σ = [some (.ref a), some (.ref b), some (.ref ka), some (.ref c), some (.ref pm), some (.ref ra), some (.ref L), some (.int (i : Nat)), some (.ref R), some (.int (j : Nat)), some (.ref S), some (.ref D), y12, y13, y14, y15, y16, y17, y18, y19, none, none] ∧ Same Hx Hz ∧ Hz D = some (.lst zs) ∧ ImAll K Hz zs (((ts2.take s).map (movedT dim (stepsOf (F'.ks.map (·.1)) F'.dims m.2))).map tmD)) ⟨_, _, _, [], rfl, sD, eD, .nil⟩ (fun s σ Hz _ z => ?_) ?_ ?_
          · obtain ⟨_, _, _, _, _, s9, _⟩ := z
            exact (hpt2.mono (tk_same (sB.trans s9))).sq
          · rintro s x σ Hz Hy hs ⟨y12, y13, y14, zs, rfl, s9, eDz, iD⟩ ⟨rfl, hxs⟩
            have sC := sB.trans s9
            obtain ⟨t, ht, it⟩ := all_get (ImAll.mono (tk_same sC) _ htt2) hxs
            obtain ⟨px, q1, q2, q3, rfl, hpx, iq1, iq2, iq3⟩ := im_trip it
            obtain rfl := iq1.int_inv
            obtain ⟨pc, cs, rfl, hpc, hcs⟩ := iq2.tuple_inv
            obtain rfl := im_nats hcs
            have ed' : (F'.dims.map (fun n : Nat => V.int (n : Nat)))[i]? = some (.int (dim : Nat)) := by rw [List.getElem?_map, hdim]; rfl
            have lcs := few2.2 t (List.mem_of_getElem? ht)
            refine ⟨px, _, rfl, hpx.sq, rfl, .int (t.1 : Nat), _, rfl, .ref pc, _, rfl, q3, _, rfl, rfl, ?_⟩
            refine ⟨.ref D, rfl, .inl ⟨rfl, _, .of eDz⟩, .int (t.1 : Nat), rfl, .ref c, rfl, .int (i : Nat), rfl, c, _, _, _, rfl, rfl, (hc.mono (tk_same sC)).sq, atI_nat ed', _, _, rfl, rfl, ?_⟩
            refine ⟨.ref pc, rfl, pc, _, rfl, .inr hpc.sq, _, rfl, by simp only [List.length_map]; omega, by simp only [List.length_map]; omega, fun E hE => ?_⟩
            refine lc_all (walk_range (lo := 0) (n := ((t.2.1.map fun n : Nat => V.int (n : Nat)).length : Int).toNat)) (fun i' Hw => Same Hy Hw ∧ Hw E = some (.lst (((List.zipWith (fun x y => x + y) t.2.1 (stepsOf (F'.ks.map (·.1)) F'.dims m.2)).take i').map (fun n : Nat => V.int (n : Nat))))) ⟨same_new hE, upd_same⟩ (fun _ _ _ _ => trivial) (fun i' x Hw Hv hi' z y => ?_) (fun Hw z => ?_)
            · obtain ⟨s11, eE⟩ := z
              obtain ⟨rfl, rfl⟩ := y
              rw [Int.toNat_natCast, List.length_map] at hi'
              have k0 : ((0 : Int) + (i' : Nat)) = ((i' : Nat) : Int) := by omega
              have h1 : t.2.1[i']? = some (t.2.1[i']) := List.getElem?_eq_getElem hi'
              have hl2 : i' < (stepsOf (F'.ks.map (·.1)) F'.dims m.2).length := by omega
              have h2 : (stepsOf (F'.ks.map (·.1)) F'.dims m.2)[i']? = some ((stepsOf (F'.ks.map (·.1)) F'.dims m.2)[i']) := List.getElem?_eq_getElem hl2
              generalize t.2.1[i'] = c1 at *
              generalize (stepsOf (F'.ks.map (·.1)) F'.dims m.2)[i'] = c2' at *
              refine ⟨rfl, .ref pc, rfl, .int _, rfl, pc, _, _, .int (c1 : Nat), rfl, rfl, (hpc.mono (tk_same s11)).sq, by rw [k0]; exact atI_nat (by rw [List.getElem?_map, h1]; rfl), .ref S, rfl, .int _, rfl, S, _, _, .int (c2' : Nat), rfl, rfl, .of (s11 _ _ (s9 _ _ eS)), by rw [k0]; exact atI_nat (by rw [List.getElem?_map, h2]; rfl), _, _, rfl, rfl, _, eE, small1000 (by simp only [List.length_map, List.length_take, List.length_zipWith]; omega), fun b' o e => ?_, ?_⟩
              · rw [upd_ne (ne_of_none e hE)]; exact s11 _ _ e
              · rw [upd_same, List.take_add_one, List.getElem?_zipWith, h1, h2, List.map_append]; rfl
            · obtain ⟨s11, eE⟩ := z
              have lz : (List.zipWith (fun x y => x + y) t.2.1 (stepsOf (F'.ks.map (·.1)) F'.dims m.2)).length ≤ t.2.1.length := by rw [List.length_zipWith]; omega
              rw [Int.toNat_natCast, List.length_map, List.take_of_length_le lz] at eE
              refine ⟨E, _, rfl, .inl ⟨.of eE, fun l' hl' => ⟨q3, rfl, by show 3 ≤ sizeLine; decide, fun T hT => ?_⟩⟩⟩
              have sl := same_new (o := .tup ((List.zipWith (fun x y => x + y) t.2.1 (stepsOf (F'.ks.map (·.1)) F'.dims m.2)).map (fun n : Nat => V.int (n : Nat)))) hl'
              have sT := same_new (o := .tup [V.int ((t.1 : Nat) + (dim : Nat)), .ref l', q3]) hT
              have s12 := (s11.trans sl).trans sT
              have eDT := s12 _ _ eDz
              have it' : Im K (upd (upd Hw l' (.tup ((List.zipWith (fun x y => x + y) t.2.1 (stepsOf (F'.ks.map (·.1)) F'.dims m.2)).map (fun n : Nat => V.int (n : Nat))))) T (.tup [V.int ((t.1 : Nat) + (dim : Nat)), .ref l', q3])) (.ref T) (tmD (movedT dim (stepsOf (F'.ks.map (·.1)) F'.dims m.2) t)) := by
                refine .tup (.inl upd_same) (.cons ?_ (.cons ?_ (.cons ?_ .nil)))
                · show Im K _ _ (.int ((t.1 + dim : Nat) : Int))
                  rw [show ((t.1 + dim : Nat) : Int) = (t.1 : Nat) + (dim : Nat) by omega]
                  exact .int _
                · exact .tup (.inl (sT _ _ upd_same)) (nats_im _)
                · exact Im.mono (tk_same s12) _ iq3
              generalize upd (upd Hw l' (.tup ((List.zipWith (fun x y => x + y) t.2.1 (stepsOf (F'.ks.map (·.1)) F'.dims m.2)).map (fun n : Nat => V.int (n : Nat))))) T (.tup [V.int ((t.1 : Nat) + (dim : Nat)), .ref l', q3]) = H13 at *
              have htl := (List.getElem?_eq_some_iff.mp ht).1
              refine ⟨D, zs, .ref T, rfl, rfl, eDT, Nat.lt_of_le_of_lt (show zs.length ≤ 8000 by rw [all_len iD, List.length_map, List.length_take]; omega) (by decide), _, _, _, zs ++ [.ref T], rfl, fun b' o e => ?_, upd_same, ?_⟩
              · rw [upd_ne (ne_of_none e hD)]
                exact s12 _ _ (s9 _ _ e)
              · rw [List.take_add_one, ht, List.map_append, List.map_append]
                exact (ImAll.mono ((tk_same s12).trans (tk_lst eDT)) _ iD).snoc (Im.mono (tk_lst eDT) _ it')
          · rintro σ Hz ⟨y12, y13, y14, zs, rfl, s9, eDz, iD⟩
            rw [lt2, List.take_of_length_le (Nat.le_refl _)] at iD
            have sC := sB.trans s9
            have tC := tk_same sC
            have s79 := s7.trans s9
            refine ⟨.ref R, rfl, .inl ⟨rfl, _, .of (s79 _ _ mR5)⟩, .ref pm, rfl, .int (i : Nat), rfl, pm, _, _, _, rfl, rfl, (hpm.mono tC).sq, atI_nat ex1, .int (j : Nat), rfl, pr, _, _, _, rfl, rfl, (hpr.mono tC).sq, atI_nat ex2, .ref D, rfl, D, zs, rfl, .inl ⟨.of eDz, fun l' hl' => ?_⟩⟩
            have sl := same_new (o := .tup zs) hl'
            have lzs : zs.length = ts2.length := by rw [all_len iD, List.length_map]
            refine cat_big ((hpt.mono tC).mono (tk_same sl)) (.inl upd_same) (by omega) fun p' H9 s10 ip => ?_
            have s11 := (s79.trans sl).trans s10
            have mR9 := s11 _ _ mR5
            have lvs : vs.length ≤ 6 := by
              rw [all_len im5, List.length_map, List.length_range]; omega
            refine ⟨R, vs, .ref p', rfl, rfl, mR9, small1000 (by omega), _, _, _, _, _, _, vs ++ [.ref p'], rfl, fun b' o e => ?_, (hpk.mono (tk_same s11)).mono (tk_lst mR9), (hpmk.mono (tk_same s11)).mono (tk_lst mR9), ImAll.mono ((tk_same s11).trans (tk_lst mR9)) _ ius, upd_same, ?_⟩
            · rw [upd_ne (ne_of_none e hR)]
              exact s11 _ _ (s5 _ _ e)
            · rw [range_snoc, List.map_append]
              refine (ImAll.mono ((tk_same s11).trans (tk_lst mR9)) _ im5).snoc (Im.mono (tk_lst mR9) _ (.tup ip ?_))
              unfold jcell
              rw [et, et2, ed, show (F'.ks.getD i (noS, [])) = kd by rw [List.getD_eq_getElem?_getD, hkd]; rfl, show kd.2.getD j (noS, []) = m by rw [List.getD_eq_getElem?_getD, hm]; rfl, List.map_append]
              exact ImAll.app (ImAll.mono (tk_same ((sC.trans sl).trans s10)) _ hts') (ImAll.mono ((tk_same sl).trans (tk_same s10)) _ iD)
      · rintro σ Hc ⟨y9, y10, y11, y12, y13, y14, vs, rfl, s5, hpk, hpmk, ius, mR5, im5⟩
        rw [Int.toNat_natCast, lus] at im5
        refine ⟨.ref L, rfl, .inl ⟨rfl, _, .of (s5 _ _ mL)⟩, .ref R, rfl, R, vs, rfl, .inl ⟨.of mR5, fun l' hl' => ?_⟩⟩
        have sl := same_new (o := .tup vs) hl'
        have s6 := s5.trans sl
        have mL6 := s6 _ _ mL
        have lws : ws.length ≤ 6 := by
          rw [all_len im, List.length_map, List.length_range]; omega
        refine ⟨L, ws, .ref l', rfl, rfl, mL6, small1000 (by omega), _, _, _, _, _, _, _, _, _, _, _, _, _, ws ++ [.ref l'], rfl, fun b' o e => ?_, upd_same, ?_⟩
        · rw [upd_ne (ne_of_none e hL)]
          exact s6 _ _ (sm _ _ e)
        · rw [range_snoc, List.map_append]
          refine (ImAll.mono ((tk_same s6).trans (tk_lst mL6)) _ im).snoc (Im.mono (tk_lst mL6) _ (.tup (.inl upd_same) (ImAll.mono (tk_same sl) _ ?_)))
          unfold jrow
          rw [show (F'.ks.getD i (noS, [])) = kd by rw [List.getD_eq_getElem?_getD, hkd]; rfl]
          exact im5
    · rintro σ Ha ⟨y7, y8, y9, y10, y11, y12, y13, y14, y15, y16, y17, y18, y19, ws, rfl, sm, mL, im⟩
      rw [Int.toNat_natCast, lkx] at im
      refine ⟨by show 0 ≤ sizeLine; decide, fun B hB => ?_⟩
      have sB := same_new (o := .lst []) hB
      have mB : (upd Ha B (.lst [])) B = some (.lst []) := upd_same
      have smB := sm.trans sB
      generalize upd Ha B (.lst []) = H3 at *
      refine ⟨.ref ra, rfl, ra, rxs, rfl, .inr (hra.mono (tk_same smB)).sq, (rxs.length : Nat), rfl, by omega, by omega, ?_⟩
      have d32 : ∀ {wide : Nat} {F : Form} (_ : FormOk wide F) (r : Rd), r ∈ F.rds → r.2.2.length ≤ 32 := fun ok r hr => by
        rw [(ok.rd.kind r hr).2]
        exact ok.dim_le _
      refine for_it (walk_range (lo := 0) (n := (rxs.length : Int).toNat)) (fun t σ Hc => ∃ (y7 y8 y9 y10 y11 y12 y13 y14 y16 y17 y18 y19 : Option V) (us : List V), σ = [some (.ref a), some (.ref b), some (.ref ka), some (.ref c), some (.ref pm), some (.ref ra), some (.ref L), y7, y8, y9, y10, y11, y12, y13, y14, some (.ref B), y16, y17, y18, y19, none, none] ∧ Same Ha Hc ∧ Hc B = some (.lst us) ∧ ImAll K Hc us (((List.zipWith jrd F'.rds G.rds).take t).map rdD)) ⟨_, _, _, _, _, _, _, _, _, _, _, _, [], rfl, sB, mB, .nil⟩ (fun _ _ _ _ _ => trivial) ?_ ?_
      · rintro t x σ Hc Hd hj ⟨y7, y8, y9, y10, y11, y12, y13, y14, y16, y17, y18, y19, us, rfl, s5, mB5, im5⟩ ⟨rfl, rfl⟩
        rw [Int.toNat_natCast] at hj
        show gName 16 (V.int ((0 : Int) + (t : Nat))) _ _ _
        rw [show (0 : Int) + (t : Nat) = (t : Nat) by omega]
        have sA := sm.trans s5
        have tA := tk_same sA
        obtain ⟨r, hr'⟩ : ∃ r, F'.rds[t]? = some r := ⟨_, List.getElem?_eq_getElem (by omega)⟩
        obtain ⟨r2, hr2⟩ : ∃ r2, G.rds[t]? = some r2 := ⟨_, List.getElem?_eq_getElem (by omega)⟩
        obtain ⟨xr, exr, ir⟩ := all_at (ImAll.mono tA _ hrx) hr'
        obtain ⟨xr2, exr2, ir2⟩ := all_at (ImAll.mono tA _ hry) hr2
        obtain ⟨p1, z1, z2, z3, rfl, hp1, iz1, iz2, iz3⟩ := im_trip ir
        obtain ⟨p2, v1, v2, v3, rfl, hp2, iv1, iv2, iv3⟩ := im_trip ir2
        obtain ⟨q1, as, rfl, hq1, has⟩ := vec_inv iz3
        obtain ⟨q2, bs, rfl, hq2, hbs⟩ := vec_inv iv3
        have las : as.length = r.2.2.length := all_len has
        have lbs : bs.length = r2.2.2.length := all_len hbs
        have a32 := d32 ok r (List.mem_of_getElem? hr')
        have b32 := d32 ok2 r2 (List.mem_of_getElem? hr2)
        refine ⟨.ref ra, rfl, .int (t : Nat), rfl, ra, rxs, _, .ref p1, rfl, rfl, (hra.mono tA).sq, atI_nat exr, p1, _, rfl, hp1.sq, rfl, z1, _, rfl, z2, _, rfl, .ref q1, _, rfl, rfl, ?_⟩
        refine ⟨.ref B, rfl, .inl ⟨rfl, _, .of mB5⟩, z1, rfl, z2, rfl, .ref q1, rfl, ?_⟩
        refine ⟨.ref b, rfl, b, _, 3, _, rfl, rfl, (hb.mono tA).sq, atI_nat (j := 3) rfl, .int (t : Nat), rfl, rb, rys, _, .ref p2, rfl, rfl, (hrb.mono tA).sq, atI_nat exr2, p2, _, 2, _, rfl, rfl, hp2.sq, atI_nat (j := 2) rfl, q2, rfl, ⟨_, hq2.sq⟩, fun D hD => ?_⟩
        refine lc_all (walk_tup (xs := bs)) (fun s Hz => Same Hd Hz ∧ ∃ zs, Hz D = some (.lst zs) ∧ ImAll K Hz zs (((r2.2.2.take s).map (fun x : Rat => -x)).map rD)) ⟨same_new hD, [], upd_same, .nil⟩ (fun s Hz _ z => (hq2.mono (tk_same z.1)).sq) (fun s x Hz Hy hs z y => ?_) (fun Hz z => ?_)
        · obtain ⟨s9, zs, eD, iD⟩ := z
          obtain ⟨rfl, hxs⟩ := y
          obtain ⟨x0, hx0, ix0⟩ := all_get (ImAll.mono (tk_same s9) _ hbs) hxs
          obtain ⟨px, rfl, hpx⟩ := rat_inv ix0
          refine ⟨rfl, .ref px, rfl, px, _, 0, _, rfl, rfl, hpx.sq, atI_nat (j := 0) rfl, _, rfl, .ref px, rfl, px, _, 1, _, rfl, rfl, hpx.sq, atI_nat (j := 1) rfl, by show 2 ≤ sizeLine; decide, fun T hT => ?_⟩
          have sT := same_new (o := .tup [V.int (-x0.num), .int (x0.den : Int)]) hT
          have iT : Im K (upd Hy T (.tup [V.int (-x0.num), .int (x0.den : Int)])) (.ref T) (rD (-x0)) := rat_mk (by rw [Rat.neg_num, Rat.neg_den]; exact .inl upd_same)
          have eD9 := sT _ _ eD
          refine ⟨zs, eD9, small1000 (by rw [all_len iD, List.length_map, List.length_take]; omega), fun b' o e => ?_, _, upd_same, ?_⟩
          · rw [upd_ne (ne_of_none e hD)]; exact sT _ _ (s9 _ _ e)
          · rw [List.take_add_one, hx0, List.map_append, List.map_append]
            exact (ImAll.mono ((tk_same sT).trans (tk_lst eD9)) _ iD).snoc (Im.mono (tk_lst eD9) _ iT)
        · obtain ⟨s9, zs, eD, iD⟩ := z
          rw [lbs, List.take_of_length_le (Nat.le_refl _)] at iD
          refine ⟨D, zs, rfl, .inl ⟨.of eD, fun l' hl' => ?_⟩⟩
          have sl := same_new (o := .tup zs) hl'
          have lzs : zs.length = r2.2.2.length := by rw [all_len iD, List.length_map]
          refine cat_any (hq1.mono (tk_same (s9.trans sl))) (.inl upd_same) (by omega) fun p' H9 s10 ip => ?_
          refine ⟨by show 3 ≤ sizeLine; decide, fun T3 hT3 => ?_⟩
          have s3 := same_new (o := .tup [z1, z2, .ref p']) hT3
          have s11 := (((s9.trans sl).trans s10).trans s3)
          have mB9 := s11 _ _ mB5
          have lus : us.length ≤ 60 := by
            rw [all_len im5, List.length_take, List.length_zipWith]; omega
          refine ⟨B, us, .ref T3, rfl, rfl, mB9, small1000 (by omega), _, _, _, _, _, _, _, _, _, _, _, _, _, rfl, ?_, upd_same, ?_⟩
          · intro b' o e
            rw [upd_ne (ne_of_none e hB)]
            exact s11 _ _ (s5 _ _ e)
          · rw [List.take_add_one, List.getElem?_zipWith, hr', hr2, List.map_append]
            refine (ImAll.mono ((tk_same s11).trans (tk_lst mB9)) _ im5).snoc (Im.mono (tk_lst mB9) _ (.tup (.inl upd_same) (.cons (Im.mono (tk_same s11) _ iz1) (.cons (Im.mono (tk_same s11) _ iz2) (.cons ?_ .nil)))))
            refine .tup (ip.mono (tk_same s3)) ?_
            show ImAll K _ _ ((r.2.2 ++ r2.2.2.map fun x => -x).map rD)
            rw [List.map_append]
            exact ImAll.app (ImAll.mono (tk_same s11) _ has) (ImAll.mono (((tk_same sl).trans (tk_same s10)).trans (tk_same s3)) _ iD)
      · rintro σ Hc ⟨y7, y8, y9, y10, y11, y12, y13, y14, y16, y17, y18, y19, us, rfl, s5, mB5, im5⟩
        have lzr : (List.zipWith jrd F'.rds G.rds).length ≤ rxs.length := by rw [List.length_zipWith]; omega
        rw [Int.toNat_natCast, List.take_of_length_le lzr] at im5
        have sA := sm.trans s5
        refine ⟨.ref ka, rfl, .ref ka, rfl, ka, kxs, rfl, .inr (hka.mono (tk_same sA)).sq, (kxs.length : Nat), rfl, by omega, by omega, fun D hD => ?_⟩
        refine lc_all (walk_range (lo := 0) (n := (kxs.length : Int).toNat)) (fun s Hz => Same Hc Hz ∧ Hz D = some (.lst (((List.zipWith (fun x y => x + y) F'.dims G.dims).take s).map (fun n : Nat => V.int (n : Nat))))) ⟨same_new hD, upd_same⟩ (fun _ _ _ _ => trivial) (fun s x Hz Hy hs z y => ?_) (fun Hz z => ?_)
        · obtain ⟨s9, eD⟩ := z
          obtain ⟨rfl, rfl⟩ := y
          rw [Int.toNat_natCast] at hs
          have k0 : ((0 : Int) + (s : Nat)) = ((s : Nat) : Int) := by omega
          have h1 : F'.dims[s]? = some (F'.dims[s]) := List.getElem?_eq_getElem (by omega)
          have h2 : G.dims[s]? = some (G.dims[s]) := List.getElem?_eq_getElem (by omega)
          generalize F'.dims[s] = c1 at *
          generalize G.dims[s] = c2' at *
          have tC := tk_same (sA.trans s9)
          refine ⟨rfl, .ref c, rfl, .int _, rfl, c, _, _, .int (c1 : Nat), rfl, rfl, (hc.mono tC).sq, by rw [k0]; exact atI_nat (by rw [List.getElem?_map, h1]; rfl), .ref b, rfl, b, _, 1, _, rfl, rfl, (hb.mono tC).sq, atI_nat (j := 1) rfl, .int _, rfl, c2, _, _, .int (c2' : Nat), rfl, rfl, (hc2.mono tC).sq, by rw [k0]; exact atI_nat (by rw [List.getElem?_map, h2]; rfl), _, _, rfl, rfl, _, eD, small1000 (by simp only [List.length_map, List.length_take, List.length_zipWith]; omega), fun b' o e => ?_, ?_⟩
          · rw [upd_ne (ne_of_none e hD)]; exact s9 _ _ e
          · rw [upd_same, List.take_add_one, List.getElem?_zipWith, h1, h2, List.map_append]; rfl
        · obtain ⟨s9, eD⟩ := z
          have lz : (List.zipWith (fun x y => x + y) F'.dims G.dims).length ≤ kxs.length := by rw [List.length_zipWith]; omega
          rw [Int.toNat_natCast, List.take_of_length_le lz] at eD
          refine ⟨D, _, rfl, .inl ⟨.of eD, fun l1 hl1 => ?_⟩⟩
          have t1 := same_new (o := .tup ((List.zipWith (fun x y => x + y) F'.dims G.dims).map (fun n : Nat => V.int (n : Nat)))) hl1
          have il1 : Im K (upd Hz l1 (.tup ((List.zipWith (fun x y => x + y) F'.dims G.dims).map (fun n : Nat => V.int (n : Nat))))) (.ref l1) (nsD (List.zipWith (fun x y => x + y) F'.dims G.dims)) := .tup (.inl upd_same) (nats_im _)
          generalize upd Hz l1 (.tup ((List.zipWith (fun x y => x + y) F'.dims G.dims).map (fun n : Nat => V.int (n : Nat)))) = H7 at *
          have s10 := s9.trans t1
          refine ⟨.ref L, rfl, L, ws, rfl, .inl ⟨.of (s10 _ _ (s5 _ _ mL)), fun l2 hl2 => ?_⟩⟩
          have t2 := same_new (o := .tup ws) hl2
          have il2 : Im K (upd H7 l2 (.tup ws)) (.ref l2) (mpD ((List.range F'.ks.length).map (jrow F' G))) := .tup (.inl upd_same) (ImAll.mono (tk_same ((s5.trans s10).trans t2)) _ im)
          generalize upd H7 l2 (.tup ws) = H8 at *
          have s11 := s10.trans t2
          refine ⟨.ref B, rfl, B, us, rfl, .inl ⟨.of (s11 _ _ mB5), fun l3 hl3 => ?_⟩⟩
          have t3 := same_new (o := .tup us) hl3
          have il3 : Im K (upd H8 l3 (.tup us)) (.ref l3) (rdsD (List.zipWith jrd F'.rds G.rds)) := .tup (.inl upd_same) (ImAll.mono (tk_same (s11.trans t3)) _ im5)
          generalize upd H8 l3 (.tup us) = H9 at *
          refine ⟨by show 4 ≤ sizeLine; decide, fun T hT => ?_⟩
          have t4 := same_new (o := .tup [.ref ka, .ref l1, .ref l2, .ref l3]) hT
          refine q T _ (((sA.trans s11).trans t3).trans t4) (.tup (.inl upd_same) (.cons ?_ (.cons ?_ (.cons ?_ (.cons ?_ .nil)))))
          · exact Im.mono (tk_same (((sA.trans s11).trans t3).trans t4)) _ i1
          · exact Im.mono (tk_same ((t2.trans t3).trans t4)) _ il1
          · exact Im.mono (tk_same (t3.trans t4)) _ il2
          · exact Im.mono (tk_same t4) _ il3
end
end K63

set_option Elab.async false
set_option linter.all false
set_option maxRecDepth 100000
set_option exponentiation.threshold 20000
set_option pp.deepTerms false
set_option pp.deepTerms.threshold 8
namespace K63
open PySem PySem.Spec PyProof.Rows L2 Ly Mt
/-! ### bounds -/
def Sx (B d : Nat) (q : Rat) : Prop := ∃ t : Int, q * ((6 ^ d : Nat) : Rat) = (t : Rat) ∧ t.natAbs ≤ B * 6 ^ d
theorem sx_zero (B d : Nat) : Sx B d 0 := ⟨0, by rw [Rat.zero_mul]; rfl, by simp⟩
theorem Sx.mono {B C d e : Nat} {q : Rat} (h : Sx B d q) (hB : B ≤ C) (hd : d ≤ e) : Sx C e q := by
  obtain ⟨t, et, bt⟩ := h
  obtain ⟨f, rfl⟩ : ∃ f, e = d + f := ⟨e - d, by omega⟩
  refine ⟨t * ((6 ^ f : Nat) : Int), ?_, ?_⟩
  · rw [Nat.pow_add, Rat.natCast_mul, ← Rat.mul_assoc, et, Rat.intCast_mul, Rat.intCast_natCast]
  · rw [Int.natAbs_mul, Int.natAbs_natCast, Nat.pow_add, ← Nat.mul_assoc]
    exact Nat.mul_le_mul (Nat.le_trans bt (Nat.mul_le_mul hB (Nat.le_refl _))) (Nat.le_refl _)
theorem Sx.mul {B C d e : Nat} {x y : Rat} (h : Sx B d x) (k : Sx C e y) : Sx (B * C) (d + e) (x * y) := by
  obtain ⟨t, et, bt⟩ := h
  obtain ⟨u, eu, bu⟩ := k
  refine ⟨t * u, ?_, ?_⟩
  · rw [Nat.pow_add, Rat.natCast_mul, Rat.intCast_mul, ← et, ← eu]
    generalize ((6 ^ d : Nat) : Rat) = a
    generalize ((6 ^ e : Nat) : Rat) = b
    rw [Rat.mul_assoc, ← Rat.mul_assoc y a b, Rat.mul_comm y a, Rat.mul_assoc a y b, ← Rat.mul_assoc]
  · rw [Int.natAbs_mul, Nat.pow_add]
    calc t.natAbs * u.natAbs ≤ (B * 6 ^ d) * (C * 6 ^ e) := Nat.mul_le_mul bt bu
      _ = B * C * (6 ^ d * 6 ^ e) := by simp only [Nat.mul_assoc, Nat.mul_comm, Nat.mul_left_comm]
theorem Sx.add {B C d : Nat} {x y : Rat} (h : Sx B d x) (k : Sx C d y) : Sx (B + C) d (x + y) := by
  obtain ⟨t, et, bt⟩ := h
  obtain ⟨u, eu, bu⟩ := k
  refine ⟨t + u, ?_, ?_⟩
  · rw [Rat.add_mul, et, eu, Rat.intCast_add]
  · have := Int.natAbs_add_le t u
    rw [Nat.add_mul]
    omega
theorem Sx.neg {B d : Nat} {x : Rat} (h : Sx B d x) : Sx B d (-x) := by
  obtain ⟨t, et, bt⟩ := h
  exact ⟨-t, by rw [Rat.neg_mul, et, Rat.intCast_neg], by rw [Int.natAbs_neg]; exact bt⟩
theorem sx_int {B : Nat} {e : Int} (h : e.natAbs ≤ B) : Sx B 0 (e : Rat) := ⟨e, by show (e : Rat) * 1 = _; rw [Rat.mul_one], by simpa using h⟩
theorem sx_one {B d : Nat} (h : 1 ≤ B) : Sx B d 1 := (show Sx 1 0 1 from sx_int (e := 1) (by decide)).mono h (Nat.zero_le _)
theorem sx_cf {q : Rat} (h : Cf 8 q) : Sx 88 1 q := by
  obtain ⟨t, e, b⟩ := h
  exact ⟨t, e, by omega⟩
theorem Sx.bd {B d n m : Nat} {q : Rat} (h : Sx B d q) (hn : B * 6 ^ d < 2 ^ n) (hm : 6 ^ d < 2 ^ m) : Bd n m q := by
  obtain ⟨t, et, bt⟩ := h
  have h6 : 0 < 6 ^ d := Nat.pow_pos (by decide)
  rw [as_div (by omega) et]
  refine bd_divInt (by omega) (Nat.lt_of_le_of_lt bt hn) ?_
  rw [Int.natAbs_natCast]; exact hm
/-! ### products of entries -/
def pB : List (Nat × Nat) → Nat
  | [] => 1
  | b :: bs => b.1 * pB bs
def sB : List (Nat × Nat) → Nat
  | [] => 0
  | b :: bs => b.2 + sB bs
def PB : List (List Rat) → List (Nat × Nat) → Prop
  | [], [] => True
  | p :: ps, b :: bs => (1 ≤ b.1 ∧ ∀ q ∈ p, Sx b.1 b.2 q) ∧ PB ps bs
  | _, _ => False
theorem pB_pos : ∀ {ps : List (List Rat)} {bs : List (Nat × Nat)}, PB ps bs → 1 ≤ pB bs
  | [], [], _ => Nat.le_refl _
  | [], _ :: _, h => h.elim
  | _ :: _, [], h => h.elim
  | p :: ps, b :: bs, h => Nat.mul_le_mul h.1.1 (pB_pos h.2)
theorem prod_sx : ∀ {ps : List (List Rat)} {bs : List (Nat × Nat)}, PB ps bs → ∀ (cs : List Nat) (n : Nat), Sx (pB bs) (sB bs) (prodT (ps.take n) (cs.take n))
  | [], [], _, cs, n => by rw [List.take_nil]; exact sx_one (Nat.le_refl _)
  | [], _ :: _, h, _, _ => h.elim
  | _ :: _, [], h, _, _ => h.elim
  | p :: ps, b :: bs, h, cs, 0 => by
    rw [List.take_zero]
    exact sx_one (pB_pos (ps := p :: ps) h)
  | p :: ps, b :: bs, h, [], n + 1 => by
    rw [List.take_nil]
    exact sx_one (pB_pos (ps := p :: ps) h)
  | p :: ps, b :: bs, h, c :: cs, n + 1 => by
    show Sx (b.1 * pB bs) (b.2 + sB bs) (p.getD c 0 * prodT (ps.take n) (cs.take n))
    refine Sx.mul ?_ (prod_sx h.2 cs n)
    rw [List.getD_eq_getElem?_getD]
    by_cases hc : c < p.length
    · rw [List.getElem?_eq_getElem hc]
      exact h.1.2 _ (List.getElem_mem hc)
    · rw [List.getElem?_eq_none (by omega)]
      exact sx_zero _ _
theorem wth_sx {ps : List (List Rat)} {bs : List (Nat × Nat)} (h : PB ps bs) {r : Rat} (hr : Sx 88 1 r) (cs : List Nat) (n : Nat) : Sx (88 * pB bs) (1 + sB bs) (wth r ps cs n) := hr.mul (prod_sx h cs n)
theorem vec_sx {ps : List (List Rat)} {M D dim : Nat} {ts : List Tm} (h : ∀ t ∈ ts, Sx M D (t.2.2 * prodT ps t.2.1)) : ∀ (n : Nat), ∀ q ∈ vecT dim (ts.take n) ps, Sx (n * M) D q
  | 0, q, hq => by
    rw [List.take_zero] at hq
    have := List.eq_of_mem_replicate hq
    rw [this]
    exact sx_zero _ _
  | n + 1, q, hq => by
    cases e : ts[n]? with
    | none =>
      have hle := List.getElem?_eq_none_iff.mp e
      rw [List.take_of_length_le (by omega)] at hq
      have := vec_sx h n q (by rw [List.take_of_length_le (by omega)]; exact hq)
      exact this.mono (Nat.mul_le_mul (by omega) (Nat.le_refl _)) (Nat.le_refl _)
    | some t =>
      rw [vecT_snoc e] at hq
      unfold addTerm at hq
      rcases List.mem_or_eq_of_mem_set hq with hq | rfl
      · exact (vec_sx h n q hq).mono (Nat.mul_le_mul (by omega) (Nat.le_refl _)) (Nat.le_refl _)
      · rw [Nat.succ_mul]
        refine Sx.add ?_ (h t (List.mem_of_getElem? e))
        rw [List.getD_eq_getElem?_getD]
        by_cases hc : t.1 < (vecT dim (ts.take n) ps).length
        · rw [List.getElem?_eq_getElem hc]
          exact vec_sx h n _ (List.getElem_mem hc)
        · rw [List.getElem?_eq_none (by omega)]
          exact sx_zero _ _
/-! ### the vectors of rows -/
def EE : Nat := 2 ^ 75
structure Coef (F : Form) : Prop where
  few : ∀ i j, (termsAt F i j).length ≤ 200
  cf : ∀ i j, ∀ t ∈ termsAt F i j, Sx 88 1 t.2.2
def bOf (ns : List Str) (sz : List Nat) : List Str → List Int → List (Nat × Nat)
  | f :: fs, e :: es => (if f ∈ ns then (EE ^ sz.getD e.toNat 0, sz.getD e.toNat 0) else (1000000, 0)) :: bOf ns sz fs es
  | _, _ => []
theorem bOf_s {ns : List Str} {sz : List Nat} : ∀ (fs : List Str) (es : List Int), sB (bOf ns sz fs es) = costI ns sz fs es
  | [], _ => by simp [bOf, sB, costI]
  | _ :: _, [] => by simp [bOf, sB, costI]
  | f :: fs, e :: es => by
    show _ + sB (bOf ns sz fs es) = _ + costI ns sz fs es
    rw [bOf_s fs es]
    split <;> rfl
theorem bOf_p {ns : List Str} {sz : List Nat} : ∀ (fs : List Str) (es : List Int), pB (bOf ns sz fs es) ≤ 1000000 ^ fs.length * EE ^ costI ns sz fs es
  | [], _ => by simp [bOf, pB, costI]
  | f :: fs, [] => by
    show 1 ≤ 1000000 ^ (fs.length + 1) * EE ^ 0
    rw [Nat.pow_zero, Nat.mul_one]
    exact Nat.pow_pos (by decide)
  | f :: fs, e :: es => by
    have ih := bOf_p (ns := ns) (sz := sz) fs es
    show _ * pB (bOf ns sz fs es) ≤ 1000000 ^ (fs.length + 1) * EE ^ (_ + costI ns sz fs es)
    rw [Nat.pow_succ, Nat.pow_add]
    by_cases hf : f ∈ ns
    · rw [if_pos hf, if_pos hf]
      calc EE ^ sz.getD e.toNat 0 * pB (bOf ns sz fs es) ≤ EE ^ sz.getD e.toNat 0 * (1000000 ^ fs.length * EE ^ costI ns sz fs es) := Nat.mul_le_mul (Nat.le_refl _) ih
        _ = 1000000 ^ fs.length * (EE ^ sz.getD e.toNat 0 * EE ^ costI ns sz fs es) := Nat.mul_left_comm _ _ _
        _ ≤ _ := Nat.mul_le_mul (Nat.le_mul_of_pos_right _ (by decide)) (Nat.le_refl _)
    · rw [if_neg hf, if_neg hf, Nat.pow_zero, Nat.one_mul]
      calc 1000000 * pB (bOf ns sz fs es) ≤ 1000000 * (1000000 ^ fs.length * EE ^ costI ns sz fs es) := Nat.mul_le_mul (Nat.le_refl _) ih
        _ = _ := by simp only [Nat.mul_assoc, Nat.mul_comm, Nat.mul_left_comm]
theorem take_get {α : Type} {l : List α} {t n : Nat} {x : α} (h : (l.take t)[n]? = some x) : n < t ∧ l[n]? = some x := by
  have := (List.getElem?_eq_some_iff.mp h).1
  rw [List.length_take] at this
  rw [List.getElem?_take, if_pos (by omega)] at h
  exact ⟨by omega, h⟩
theorem KindAt.of_take {ks : List Kd} {rows : List Rw} {t n i : Nat} (h : KindAt ks (rows.take t) n i) : KindAt ks rows n i := by
  obtain ⟨r, j, kd, m, e, a⟩ := h
  exact ⟨r, j, kd, m, (take_get e).2, a⟩
theorem KindAt.one {ks : List Kd} (ok : KindsOk ks) {rows : List Rw} {n i i' : Nat} (h : KindAt ks rows n i) (k : KindAt ks rows n i') : i = i' := by
  obtain ⟨r, j, kd, m, e, a⟩ := h
  obtain ⟨r', j', kd', m', e', a'⟩ := k
  rw [e] at e'
  obtain rfl := Option.some.inj e'
  exact (at_one ok a.hk a.hm a'.hk a'.hm (by rw [← a.nm, ← a'.nm])).1
/-- what is known of the vectors of the first rows -/
structure VB (F : Form) (rows : List Rw) (sz : List Nat) (t : Nat) : Prop where
  len : ∀ (n i : Nat) v, (vecsOf F (rows.take t))[n]? = some v → KindAt F.ks rows n i → v.length = F.dims.getD i 0
  sx : ∀ (n : Nat) v, (vecsOf F (rows.take t))[n]? = some v → ∀ q ∈ v, Sx (EE ^ sz.getD n 0) (sz.getD n 0) q
theorem parts_PB {F : Form} {rows : List Rw} {sz : List Nat} {t : Nat} (vb : VB F rows sz t) (tl : t ≤ rows.length) : ∀ (fs : List Str) (es : List Int), es.length = fs.length → (∀ (x : Nat) f e, fs[x]? = some f → es[x]? = some e → EntOk F.ks (rows.take t) f e) →
    PB (partsI (vecsOf F (rows.take t)) (fs.map (placeOf (F.ks.map (·.1)))) es) (bOf (F.ks.map (·.1)) sz fs es)
  | [], [], _, _ => trivial
  | [], _ :: _, h, _ => by simp at h
  | _ :: _, [], h, _ => by simp at h
  | f :: fs, e :: es, h, hent => by
    refine ⟨?_, parts_PB vb tl fs es (by simpa using h) fun x g d hg hd => hent (x + 1) g d (by simpa using hg) (by simpa using hd)⟩
    have h0 := hent 0 f e rfl rfl
    by_cases hf : f ∈ F.ks.map (·.1)
    · obtain ⟨n, rfl, hn, _⟩ := h0.1 hf
      dsimp only
      rw [if_pos hf, if_neg (fun z => place_num.mp z hf), Int.toNat_natCast]
      refine ⟨Nat.pow_pos (by decide), ?_⟩
      have hl : n < (vecsOf F (rows.take t)).length := by rw [vecsOf_len]; exact hn
      intro q hq
      rw [List.getD_eq_getElem?_getD, List.getElem?_eq_getElem hl] at hq
      exact vb.sx n _ (List.getElem?_eq_getElem hl) q hq
    · dsimp only
      rw [if_neg hf, if_pos (place_num.mpr hf)]
      refine ⟨by decide, fun q hq => ?_⟩
      have hq' : q = 1 ∨ q = (e : Rat) := by simpa using hq
      rcases hq' with rfl | rfl
      · exact sx_one (by decide)
      · exact sx_int (h0.2 hf)
theorem pow_big {c : Nat} (h : c ≤ 30) : EE ^ c * 6 ^ c < 2 ^ 2400 ∧ 6 ^ c < 2 ^ 100 := by
  have e : EE ^ c = 2 ^ (75 * c) := (Nat.pow_mul 2 75 c).symm
  have h6 : 6 ^ c ≤ 2 ^ (3 * c) := by
    rw [Nat.pow_mul 2 3 c]
    exact Nat.pow_le_pow_left (by decide) c
  constructor
  · rw [e]
    calc 2 ^ (75 * c) * 6 ^ c ≤ 2 ^ (75 * c) * 2 ^ (3 * c) := Nat.mul_le_mul (Nat.le_refl _) h6
      _ = 2 ^ (75 * c + 3 * c) := (Nat.pow_add ..).symm
      _ < 2 ^ 2400 := Nat.pow_lt_pow_right (by decide) (by omega)
  · exact Nat.lt_of_le_of_lt h6 (Nat.pow_lt_pow_right (by decide) (by omega))
end K63

set_option Elab.async false
set_option linter.all false
set_option maxRecDepth 100000
set_option exponentiation.threshold 20000
set_option pp.deepTerms false
set_option pp.deepTerms.threshold 8
namespace K63
open PySem PySem.Spec PyProof.Rows L2 Ly Mt
theorem PB_bd : ∀ {ps : List (List Rat)} {bs : List (Nat × Nat)}, PB ps bs → (∀ b ∈ bs, b.1 * 6 ^ b.2 < 2 ^ 2400 ∧ 6 ^ b.2 < 2 ^ 100) → ∀ v ∈ ps, ∀ q ∈ v, Bd 2400 100 q
  | [], [], _, _ => fun v hv => by simp at hv
  | [], _ :: _, h, _ => h.elim
  | _ :: _, [], h, _ => h.elim
  | p :: ps, b :: bs, h, hb => fun v hv q hq => by
    have h0 := hb b (List.mem_cons_self ..)
    rcases List.mem_cons.mp hv with rfl | hv
    · exact (h.1.2 q hq).bd h0.1 h0.2
    · exact PB_bd h.2 (fun b hb' => hb b (List.mem_cons_of_mem _ hb')) v hv q hq
theorem bOf_bd {ns : List Str} {sz : List Nat} (h30 : ∀ s ∈ sz, s ≤ 30) : ∀ (fs : List Str) (es : List Int), ∀ b ∈ bOf ns sz fs es, b.1 * 6 ^ b.2 < 2 ^ 2400 ∧ 6 ^ b.2 < 2 ^ 100
  | [], _, b, hb => by simp [bOf] at hb
  | _ :: _, [], b, hb => by simp [bOf] at hb
  | f :: fs, e :: es, b, hb => by
    have hb' : b = (if f ∈ ns then (EE ^ sz.getD e.toNat 0, sz.getD e.toNat 0) else (1000000, 0)) ∨ b ∈ bOf ns sz fs es := List.mem_cons.mp hb
    rcases hb' with rfl | hb'
    · split
      · refine pow_big ?_
        rw [List.getD_eq_getElem?_getD]
        by_cases hc : e.toNat < sz.length
        · rw [List.getElem?_eq_getElem hc]
          exact h30 _ (List.getElem_mem hc)
        · rw [List.getElem?_eq_none (by omega)]
          exact Nat.zero_le 30
      · refine ⟨?_, ?_⟩
        · show 1000000 * 6 ^ 0 < 2 ^ 2400
          rw [Nat.pow_zero, Nat.mul_one]
          calc 1000000 < 2 ^ 20 := by decide
            _ ≤ 2 ^ 2400 := Nat.pow_le_pow_right (by decide) (by decide)
        · show 6 ^ 0 < 2 ^ 100
          rw [Nat.pow_zero]
          exact Nat.one_lt_two_pow (by decide)
    · exact bOf_bd h30 fs es b hb'
theorem parts_at {acc : List (List Rat)} {fl es : List Int} {x : Nat} {p : List Rat} (h : (partsI acc fl es)[x]? = some p) : ∃ f e, fl[x]? = some f ∧ es[x]? = some e ∧ p = if f = -1 then [1, (e : Rat)] else acc.getD e.toNat [] := by
  unfold partsI at h
  rw [List.getElem?_zipWith] at h
  cases hf : fl[x]? with
  | none => rw [hf] at h; simp at h
  | some f =>
    cases he : es[x]? with
    | none => rw [hf, he] at h; simp at h
    | some e =>
      rw [hf, he] at h
      exact ⟨f, e, rfl, rfl, (Option.some.inj h).symm⟩
theorem parts_len {F : Form} {rows : List Rw} {sz : List Nat} {t : Nat} (vb : VB F rows sz t) {fs : List Str} {es : List Int} (hent : ∀ (x : Nat) f e, fs[x]? = some f → es[x]? = some e → EntOk F.ks (rows.take t) f e) {x : Nat} {p : List Rat}
    (h : (partsI (vecsOf F (rows.take t)) (fs.map (placeOf (F.ks.map (·.1)))) es)[x]? = some p) : ∃ f, fs[x]? = some f ∧ p.length = wd (F.ks.map (·.1)) F.dims f := by
  obtain ⟨fl, e, h1, h2, rfl⟩ := parts_at h
  rw [List.getElem?_map] at h1
  obtain ⟨f, hf, rfl⟩ := Option.map_eq_some_iff.mp h1
  refine ⟨f, hf, ?_⟩
  unfold wd
  have h0 := hent x f e hf h2
  by_cases hin : f ∈ F.ks.map (·.1)
  · rw [if_pos hin, if_neg (fun z => place_num.mp z hin)]
    obtain ⟨n, rfl, hn, ka⟩ := h0.1 hin
    have hl : n < (vecsOf F (rows.take t)).length := by rw [vecsOf_len]; exact hn
    rw [Int.toNat_natCast, List.getD_eq_getElem?_getD, List.getElem?_eq_getElem hl]
    exact vb.len n _ _ (List.getElem?_eq_getElem hl) ka.of_take
  · rw [if_neg hin, if_pos (place_num.mpr hin)]; rfl
theorem vb_step {wide : Nat} {F : Form} (ok : FormOk wide F) (cf : Coef F) (sm : Small F.ks) {rows : List Rw} {sz : List Nat} {hd : List Str} (rs : RS F.ks rows sz hd) {t : Nat} {r : Rw} (hr : rows[t]? = some r) (vb : VB F rows sz t) :
    (∀ i j kd m, At F.ks r i j kd m → VecJob (F.dims.getD i 0) (termsAt F i j) (partsI (vecsOf F (rows.take t)) (m.2.map (placeOf (F.ks.map (·.1)))) r.2)) ∧ VB F rows sz (t + 1) := by
  have ht := (List.getElem?_eq_some_iff.mp hr).1
  obtain ⟨i, j, kd, m, a, l, hent, hcost⟩ := rs.each t r hr
  have l3 := sm.flds kd (List.mem_of_getElem? a.hk) m (List.mem_of_getElem? a.hm)
  have s30 : sz.getD t 0 ≤ 30 := by
    rw [List.getD_eq_getElem?_getD, List.getElem?_eq_getElem (by have := rs.lsz; omega)]
    exact rs.s30 _ (List.getElem_mem _)
  obtain ⟨dim, row, ts, hdim, hrow, hts, ed, et⟩ := ok.at a.hk a.hm
  have tok := ok.tm i kd row a.hk hrow j m ts a.hm hts
  have few := cf.few i j
  have hcf := cf.cf i j
  rw [et] at few hcf
  rw [ed] at tok
  have pb := parts_PB vb (by omega) m.2 r.2 l hent
  generalize hps : partsI (vecsOf F (rows.take t)) (m.2.map (placeOf (F.ks.map (·.1)))) r.2 = ps at *
  have lps : ps.length = m.2.length := by
    rw [← hps]
    unfold partsI
    rw [List.length_zipWith, List.length_map]; omega
  have hsB := bOf_s (ns := F.ks.map (·.1)) (sz := sz) m.2 r.2
  have hpB := bOf_p (ns := F.ks.map (·.1)) (sz := sz) m.2 r.2
  generalize hbs : bOf (F.ks.map (·.1)) sz m.2 r.2 = bs at *
  generalize hc : costI (F.ks.map (·.1)) sz m.2 r.2 = cost at *
  generalize hs : sz.getD t 0 = sT at *
  have hM : 200 * (88 * pB bs) ≤ EE ^ sT := by
    have h1 : 1000000 ^ m.2.length ≤ 1000000 ^ 3 := Nat.pow_le_pow_right (by decide) l3
    have h2 : EE ^ (1 + cost) ≤ EE ^ sT := Nat.pow_le_pow_right (by decide) hcost
    have h3 : EE ^ (1 + cost) = EE * EE ^ cost := by rw [Nat.add_comm, Nat.pow_succ, Nat.mul_comm]
    have h4 : pB bs ≤ 1000000 ^ 3 * EE ^ cost := Nat.le_trans hpB (Nat.mul_le_mul h1 (Nat.le_refl _))
    have h5 : 17600 * 1000000 ^ 3 ≤ EE := by decide
    calc 200 * (88 * pB bs) = 17600 * pB bs := by omega
      _ ≤ 17600 * (1000000 ^ 3 * EE ^ cost) := Nat.mul_le_mul (Nat.le_refl _) h4
      _ = 17600 * 1000000 ^ 3 * EE ^ cost := (Nat.mul_assoc ..).symm
      _ ≤ EE * EE ^ cost := Nat.mul_le_mul h5 (Nat.le_refl _)
      _ = EE ^ (1 + cost) := h3.symm
      _ ≤ _ := h2
  have big := pow_big s30
  have up : ∀ {q : Rat}, Bd 2400 100 q → Bd 4400 4400 q := fun h => h.mono (by decide) (by decide)
  have hw : ∀ tm ∈ ts, ∀ n, Sx (88 * pB bs) (1 + sB bs) (wth tm.2.2 ps tm.2.1 n) := fun tm htm n => wth_sx pb (hcf tm htm) _ n
  have hv : ∀ n, ∀ q ∈ vecT dim (ts.take n) ps, Sx (EE ^ sT) sT q := fun n q hq => by
    have h1 : ∀ tm ∈ ts, Sx (88 * pB bs) (1 + sB bs) (tm.2.2 * prodT ps tm.2.1) := fun tm htm => by
      have := hw tm htm ps.length
      rw [wth_all (Nat.le_refl _) (by rw [(tok.each tm htm).len, List.length_map]; omega)] at this
      exact this
    by_cases hn : n ≤ 200
    · exact (vec_sx h1 n q hq).mono (Nat.le_trans (Nat.mul_le_mul hn (Nat.le_refl _)) hM) (by omega)
    · rw [List.take_of_length_le (by omega)] at hq
      have h2 := vec_sx h1 200 q (by rw [List.take_of_length_le few]; exact hq)
      exact h2.mono hM (by omega)
  have job : VecJob dim ts ps := by
    refine ⟨by omega, fun tm htm => (tok.each tm htm).row, fun tm htm => by rw [(tok.each tm htm).len, List.length_map]; exact lps.symm, fun tm htm x c v hc hv' => ?_, fun tm htm n => ?_, fun v hv' q hq => ?_, fun n q hq => ?_⟩
    · rw [← hps] at hv'
      obtain ⟨f, hf, hl⟩ := parts_len vb hent hv'
      rw [hl]
      exact (tok.each tm htm).cols x c _ hc (by rw [List.getElem?_map, hf]; rfl)
    · exact up (((hw tm htm n).mono (Nat.le_trans (Nat.le_mul_of_pos_left _ (by decide)) hM) (by omega)).bd big.1 big.2)
    · exact up (PB_bd pb (by rw [← hbs]; exact bOf_bd rs.s30 m.2 r.2) v hv' q hq)
    · exact ((hv n q hq).bd big.1 big.2).mono (by decide) (by decide)
  have enew : vecsOf F (rows.take (t + 1)) = vecsOf F (rows.take t) ++ [vecT dim ts ps] := by
    rw [vecsOf_snoc hr]
    unfold vecStep
    rw [rowOf_at ok.kinds a]
    show vecsOf F (rows.take t) ++ [vecT (F.dims.getD i 0) (termsAt F i j) (partsI (vecsOf F (rows.take t)) (m.2.map (placeOf (F.ks.map (·.1)))) r.2)] = _
    rw [ed, et, hps]
  have lvo : (vecsOf F (rows.take t)).length = t := by rw [vecsOf_len, List.length_take]; omega
  refine ⟨fun i' j' kd' m' a' => ?_, ⟨fun n i' v hn ka => ?_, fun n v hn q hq => ?_⟩⟩
  · obtain ⟨rfl, rfl⟩ := at_one ok.kinds a.hk a.hm a'.hk a'.hm (by rw [← a.nm, ← a'.nm])
    have h1 := a'.hk
    rw [a.hk] at h1
    obtain rfl := Option.some.inj h1
    have h2 := a'.hm
    rw [a.hm] at h2
    obtain rfl := Option.some.inj h2
    rw [ed, et, hps]
    exact job
  · rw [enew] at hn
    rcases get_snoc hn with hn2 | ⟨hn2, rfl⟩
    · exact vb.len n i' v hn2 ka
    · rw [vecT_len]
      have ka' : KindAt F.ks rows n i := ⟨r, j, kd, m, by rw [hn2, lvo]; exact hr, a⟩
      rw [ka.one ok.kinds ka', ed]
  · rw [enew] at hn
    rcases get_snoc hn with hn2 | ⟨hn2, rfl⟩
    · exact vb.sx n v hn2 q hq
    · rw [hn2, lvo, hs]
      exact hv ts.length q (by rw [List.take_of_length_le (Nat.le_refl _)]; exact hq)
theorem vb_all {wide : Nat} {F : Form} (ok : FormOk wide F) (cf : Coef F) (sm : Small F.ks) {rows : List Rw} {sz : List Nat} {hd : List Str} (rs : RS F.ks rows sz hd) : ∀ t, t ≤ rows.length → VB F rows sz t
  | 0, _ => ⟨fun n i v h => by simp [vecsOf] at h, fun n v h => by simp [vecsOf] at h⟩
  | t + 1, h => (vb_step ok cf sm rs (List.getElem?_eq_getElem (by omega)) (vb_all ok cf sm rs t (by omega))).2
theorem vecs_job {wide : Nat} {F : Form} (ok : FormOk wide F) (cf : Coef F) (sm : Small F.ks) {rows : List Rw} {sz : List Nat} {hd : List Str} (rs : RS F.ks rows sz hd) : VecsJob F rows :=
  ⟨fun t r i j kd m hr a => (vb_step ok cf sm rs hr (vb_all ok cf sm rs t (by have := (List.getElem?_eq_some_iff.mp hr).1; omega))).1 i j kd m a⟩
theorem shp_coef {ks : List Kd} {rs : List (Str × Str)} {F : Form} (h : Shp ks rs F) : (∀ i j, (termsAt F i j).length ≤ 100) ∧ ∀ i j, ∀ t ∈ termsAt F i j, Sx 88 1 t.2.2 := by
  have key : ∀ i j, (termsAt F i j).length ≤ 100 ∧ ∀ t ∈ termsAt F i j, Cf 8 t.2.2 := fun i j => by
    unfold termsAt
    by_cases hi : i < F.maps.length
    · have e : F.maps.getD i [] = F.maps[i] := by rw [List.getD_eq_getElem?_getD, List.getElem?_eq_getElem hi]; rfl
      rw [e]
      by_cases hj : j < F.maps[i].length
      · have e2 : F.maps[i].getD j [] = F.maps[i][j] := by rw [List.getD_eq_getElem?_getD, List.getElem?_eq_getElem hj]; rfl
        rw [e2]
        exact h.cf _ (List.getElem_mem hi) _ (List.getElem_mem hj)
      · have e2 : F.maps[i].getD j [] = [] := by rw [List.getD_eq_getElem?_getD, List.getElem?_eq_none (by omega)]; rfl
        rw [e2]
        exact ⟨Nat.zero_le _, fun t ht => by simp at ht⟩
    · have e : F.maps.getD i [] = [] := by rw [List.getD_eq_getElem?_getD, List.getElem?_eq_none (by omega)]; rfl
      rw [e]
      exact ⟨Nat.zero_le _, fun t ht => by simp at ht⟩
  exact ⟨fun i j => (key i j).1, fun i j t ht => sx_cf ((key i j).2 t ht)⟩
end K63

set_option Elab.async false
set_option linter.all false
set_option maxRecDepth 100000
set_option exponentiation.threshold 20000
set_option pp.deepTerms false
set_option pp.deepTerms.threshold 8
namespace K63
open PySem PySem.Spec PyProof.Rows L2 Ly Mt
/-! ### the vectors of the joint form -/
def JP : List Nat → List (List Rat) → List (List Rat) → List (List Rat) → Prop
  | [], [], [], [] => True
  | s :: ss, a :: as, b :: bs, j :: js => ((j = a ∧ j = b ∧ s = 0) ∨ (j = a ++ b ∧ s = a.length)) ∧ JP ss as bs js
  | _, _, _, _ => False
theorem prod1 : ∀ {ss : List Nat} {as bs js : List (List Rat)}, JP ss as bs js → ∀ {cs : List Nat}, (∀ (i c : Nat) v, cs[i]? = some c → as[i]? = some v → c < v.length) → prodT js cs = prodT as cs
  | [], [], [], [], _, _, _ => rfl
  | s :: ss, a :: as, b :: bs, j :: js, h, [], _ => rfl
  | s :: ss, a :: as, b :: bs, j :: js, h, c :: cs, hc => by
    have ih := prod1 h.2 (cs := cs) fun i c' v h1 h2 => hc (i + 1) c' v (by simpa using h1) (by simpa using h2)
    show j.getD c 0 * prodT js cs = a.getD c 0 * prodT as cs
    rw [ih]
    rcases h.1 with ⟨rfl, _, _⟩ | ⟨rfl, _⟩
    · rfl
    · have := hc 0 c a rfl rfl
      rw [List.getD_eq_getElem?_getD, List.getD_eq_getElem?_getD, List.getElem?_append_left this]
  | [], _ :: _, _, _, h, _, _ => by cases ‹List (List Rat)› <;> simp [JP] at h
  | [], [], _ :: _, _, h, _, _ => by simp [JP] at h
  | [], [], [], _ :: _, h, _, _ => by simp [JP] at h
  | _ :: _, [], _, _, h, _, _ => by simp [JP] at h
  | _ :: _, _ :: _, [], _, h, _, _ => by simp [JP] at h
  | _ :: _, _ :: _, _ :: _, [], h, _, _ => by simp [JP] at h
theorem prod2 : ∀ {ss : List Nat} {as bs js : List (List Rat)}, JP ss as bs js → ∀ {cs : List Nat}, cs.length = ss.length → prodT js (List.zipWith (fun x y => x + y) cs ss) = prodT bs cs
  | [], [], [], [], _, _, _ => rfl
  | s :: ss, a :: as, b :: bs, j :: js, h, [], hl => by simp at hl
  | s :: ss, a :: as, b :: bs, j :: js, h, c :: cs, hl => by
    have ih := prod2 h.2 (cs := cs) (by simpa using hl)
    show j.getD (c + s) 0 * prodT js (List.zipWith (fun x y => x + y) cs ss) = b.getD c 0 * prodT bs cs
    rw [ih]
    rcases h.1 with ⟨_, rfl, rfl⟩ | ⟨rfl, rfl⟩
    · rfl
    · rw [List.getD_eq_getElem?_getD, List.getD_eq_getElem?_getD, List.getElem?_append_right (by omega), show c + a.length - a.length = c by omega]
  | [], _ :: _, _, _, h, _, _ => by simp [JP] at h
  | [], [], _ :: _, _, h, _, _ => by simp [JP] at h
  | [], [], [], _ :: _, h, _, _ => by simp [JP] at h
  | _ :: _, [], _, _, h, _, _ => by simp [JP] at h
  | _ :: _, _ :: _, [], _, h, _, _ => by simp [JP] at h
  | _ :: _, _ :: _, _ :: _, [], h, _, _ => by simp [JP] at h
theorem foldA {PJ P1 : List (List Rat)} : ∀ (ts : List Tm) (u z : List Rat), (∀ t ∈ ts, t.1 < u.length ∧ prodT PJ t.2.1 = prodT P1 t.2.1) → ts.foldl (addTerm PJ) (u ++ z) = ts.foldl (addTerm P1) u ++ z
  | [], _, _, _ => rfl
  | t :: ts, u, z, h => by
    obtain ⟨h1, h2⟩ := h t (List.mem_cons_self ..)
    have e : addTerm PJ (u ++ z) t = addTerm P1 u t ++ z := by
      unfold addTerm
      rw [h2, List.set_append_left _ _ h1, List.getD_eq_getElem?_getD, List.getElem?_append_left h1, ← List.getD_eq_getElem?_getD]
    have lu : (addTerm P1 u t).length = u.length := by unfold addTerm; rw [List.length_set]
    rw [List.foldl_cons, List.foldl_cons, e]
    exact foldA ts _ z fun s hs => by rw [lu]; exact h s (List.mem_cons_of_mem _ hs)
theorem foldB {PJ P2 : List (List Rat)} {steps : List Nat} (u : List Rat) : ∀ (ts : List Tm) (z : List Rat), (∀ t ∈ ts, prodT PJ (List.zipWith (fun x y => x + y) t.2.1 steps) = prodT P2 t.2.1) → (ts.map (movedT u.length steps)).foldl (addTerm PJ) (u ++ z) = u ++ ts.foldl (addTerm P2) z
  | [], _, _ => rfl
  | t :: ts, z, h => by
    have h2 := h t (List.mem_cons_self ..)
    have e : addTerm PJ (u ++ z) (movedT u.length steps t) = u ++ addTerm P2 z t := by
      unfold addTerm movedT
      dsimp only
      rw [h2, List.set_append_right _ _ (by omega), List.getD_eq_getElem?_getD, List.getElem?_append_right (by omega), show t.1 + u.length - u.length = t.1 by omega, ← List.getD_eq_getElem?_getD]
    rw [List.map_cons, List.foldl_cons, List.foldl_cons, e]
    exact foldB u ts _ fun s hs => h s (List.mem_cons_of_mem _ hs)
theorem vec_join {d1 d2 : Nat} {ts1 ts2 : List Tm} {steps : List Nat} {P1 P2 PJ : List (List Rat)} (jp : JP steps P1 P2 PJ) (h1 : ∀ t ∈ ts1, t.1 < d1 ∧ ∀ (i c : Nat) v, t.2.1[i]? = some c → P1[i]? = some v → c < v.length) (h2 : ∀ t ∈ ts2, t.2.1.length = steps.length) :
    vecT (d1 + d2) (ts1 ++ ts2.map (movedT d1 steps)) PJ = vecT d1 ts1 P1 ++ vecT d2 ts2 P2 := by
  unfold vecT
  rw [List.foldl_append, List.replicate_append_replicate.symm, foldA ts1 _ _ fun t ht => ⟨by rw [List.length_replicate]; exact (h1 t ht).1, prod1 jp (h1 t ht).2⟩]
  have l : (ts1.foldl (addTerm P1) (List.replicate d1 0)).length = d1 := by rw [foldl_len, List.length_replicate]
  have := foldB (PJ := PJ) (P2 := P2) (steps := steps) (ts1.foldl (addTerm P1) (List.replicate d1 0)) ts2 (List.replicate d2 0) fun t ht => prod2 jp (h2 t ht)
  rw [l] at this
  exact this
theorem range_get {α : Type} {f : Nat → α} {n i : Nat} (h : i < n) : ((List.range n).map f)[i]? = some (f i) := by
  rw [List.getElem?_map, List.getElem?_range h]; rfl
theorem join_terms {F G : Form} {i j : Nat} {kd : Kd} {m : Mk} (hk : F.ks[i]? = some kd) (hm : kd.2[j]? = some m) : termsAt (joinF F G) i j = termsAt F i j ++ (termsAt G i j).map (movedT (F.dims.getD i 0) (stepsOf (F.ks.map (·.1)) F.dims m.2)) := by
  have hi := (List.getElem?_eq_some_iff.mp hk).1
  have hj := (List.getElem?_eq_some_iff.mp hm).1
  have ek : F.ks.getD i (noS, []) = kd := by rw [List.getD_eq_getElem?_getD, hk]; rfl
  have em : kd.2.getD j (noS, []) = m := by rw [List.getD_eq_getElem?_getD, hm]; rfl
  have e1 : (joinF F G).maps.getD i [] = jrow F G i := by
    show ((List.range F.ks.length).map (jrow F G)).getD i [] = _
    rw [List.getD_eq_getElem?_getD, range_get hi]; rfl
  have e2 : (jrow F G i).getD j [] = jcell F G i j := by
    unfold jrow
    rw [ek, List.getD_eq_getElem?_getD, range_get hj]; rfl
  show ((joinF F G).maps.getD i []).getD j [] = _
  rw [e1, e2]
  unfold jcell
  rw [ek, em]
theorem join_dim {F G : Form} {wide wide' : Nat} (ok : FormOk wide F) (ok2 : FormOk wide' G) (ek : G.ks = F.ks) {i : Nat} (hi : i < F.ks.length) : (joinF F G).dims.getD i 0 = F.dims.getD i 0 + G.dims.getD i 0 := by
  have l1 := ok.ld
  have l2 := ok2.ld
  rw [ek] at l2
  show (List.zipWith (fun x y => x + y) F.dims G.dims).getD i 0 = _
  rw [List.getD_eq_getElem?_getD, List.getD_eq_getElem?_getD, List.getD_eq_getElem?_getD, List.getElem?_zipWith, List.getElem?_eq_getElem (by omega), List.getElem?_eq_getElem (by omega)]; rfl
theorem parts_JP {F G : Form} (ek : G.ks = F.ks) {rows : List Rw} {sz sz' : List Nat} {t : Nat} (v1 : VB F rows sz t) (tl : t ≤ rows.length) {accJ : List (List Rat)} (ej : accJ = List.zipWith (fun x y => x ++ y) (vecsOf F (rows.take t)) (vecsOf G (rows.take t))) :
    ∀ (fs : List Str) (es : List Int), es.length = fs.length → (∀ (x : Nat) f e, fs[x]? = some f → es[x]? = some e → EntOk F.ks (rows.take t) f e) →
    JP (stepsOf (F.ks.map (·.1)) F.dims fs) (partsI (vecsOf F (rows.take t)) (fs.map (placeOf (F.ks.map (·.1)))) es) (partsI (vecsOf G (rows.take t)) (fs.map (placeOf (F.ks.map (·.1)))) es) (partsI accJ (fs.map (placeOf (F.ks.map (·.1)))) es)
  | [], [], _, _ => trivial
  | [], _ :: _, h, _ => by simp at h
  | _ :: _, [], h, _ => by simp at h
  | f :: fs, e :: es, h, hent => by
    refine ⟨?_, parts_JP ek v1 (sz' := sz') tl ej fs es (by simpa using h) fun x g d hg hd => hent (x + 1) g d (by simpa using hg) (by simpa using hd)⟩
    have h0 := hent 0 f e rfl rfl
    dsimp only
    by_cases hf : f ∈ F.ks.map (·.1)
    · obtain ⟨n, rfl, hn, ka⟩ := h0.1 hf
      rw [if_neg (fun z => place_num.mp z hf), if_neg (fun z => place_num.mp z hf), if_neg (fun z => place_num.mp z hf), if_pos hf, Int.toNat_natCast]
      have hl : n < (vecsOf F (rows.take t)).length := by rw [vecsOf_len]; exact hn
      have hl2 : n < (vecsOf G (rows.take t)).length := by rw [vecsOf_len]; exact hn
      have g1 : (vecsOf F (rows.take t)).getD n [] = (vecsOf F (rows.take t))[n] := by rw [List.getD_eq_getElem?_getD, List.getElem?_eq_getElem hl]; rfl
      have g2 : (vecsOf G (rows.take t)).getD n [] = (vecsOf G (rows.take t))[n] := by rw [List.getD_eq_getElem?_getD, List.getElem?_eq_getElem hl2]; rfl
      refine .inr ⟨?_, ?_⟩
      · rw [ej, List.getD_eq_getElem?_getD, List.getElem?_zipWith, List.getElem?_eq_getElem hl, List.getElem?_eq_getElem hl2, g1, g2]; rfl
      · rw [g1]
        exact (v1.len n _ _ (List.getElem?_eq_getElem hl) ka.of_take).symm
    · rw [if_pos (place_num.mpr hf), if_pos (place_num.mpr hf), if_pos (place_num.mpr hf), if_neg hf]
      exact .inl ⟨rfl, rfl, rfl⟩
theorem vecs_join {wide wide' : Nat} {F G : Form} (ok : FormOk wide F) (ok2 : FormOk wide' G) (ek : G.ks = F.ks) (cf : Coef F) (sm : Small F.ks) {rows : List Rw} {sz : List Nat} {hd : List Str} (rs : RS F.ks rows sz hd) :
    ∀ t, t ≤ rows.length → vecsOf (joinF F G) (rows.take t) = List.zipWith (fun x y => x ++ y) (vecsOf F (rows.take t)) (vecsOf G (rows.take t))
  | 0, _ => rfl
  | t + 1, h => by
    have ih := vecs_join ok ok2 ek cf sm rs t (by omega)
    have hr : rows[t]? = some rows[t] := List.getElem?_eq_getElem (by omega)
    generalize rows[t] = r at hr
    obtain ⟨i, j, kd, m, a, l, hent, _⟩ := rs.each t r hr
    have v1 := vb_all ok cf sm rs t (by omega)
    have hi := (List.getElem?_eq_some_iff.mp a.hk).1
    have a2 : At G.ks r i j kd m := ⟨by rw [ek]; exact a.hk, a.hm, a.nm⟩
    have r1 := rowOf_at ok.kinds a
    have l3 := sm.flds kd (List.mem_of_getElem? a.hk) m (List.mem_of_getElem? a.hm)
    obtain ⟨dim, row, ts, hdim, hrow, hts, ed, et⟩ := ok.at a.hk a.hm
    obtain ⟨dim2, row2, ts2, hdim2, hrow2, hts2, ed2, et2⟩ := ok2.at a2.hk a2.hm
    have tok := ok.tm i kd row a.hk hrow j m ts a.hm hts
    have tok2 := ok2.tm i kd row2 a2.hk hrow2 j m ts2 a.hm hts2
    rw [ed] at tok
    rw [vecsOf_snoc hr, vecsOf_snoc hr, vecsOf_snoc hr]
    unfold vecStep
    rw [show (joinF F G).ks = F.ks from rfl, ek, r1]
    show vecsOf (joinF F G) (rows.take t) ++ [vecT ((joinF F G).dims.getD i 0) (termsAt (joinF F G) i j) (partsI (vecsOf (joinF F G) (rows.take t)) (m.2.map (placeOf (F.ks.map (·.1)))) r.2)] =
      List.zipWith (fun x y => x ++ y) (vecsOf F (rows.take t) ++ [vecT (F.dims.getD i 0) (termsAt F i j) (partsI (vecsOf F (rows.take t)) (m.2.map (placeOf (F.ks.map (·.1)))) r.2)]) (vecsOf G (rows.take t) ++ [vecT (G.dims.getD i 0) (termsAt G i j) (partsI (vecsOf G (rows.take t)) (m.2.map (placeOf (F.ks.map (·.1)))) r.2)])
    rw [List.zipWith_append (by rw [vecsOf_len, vecsOf_len]), ← ih]
    congr 1
    have jp := parts_JP (sz' := sz) ek v1 (by omega) ih m.2 r.2 l hent
    rw [join_terms a.hk a.hm, join_dim ok ok2 ek hi]
    have lps : (stepsOf (F.ks.map (·.1)) F.dims m.2).length = m.2.length := by unfold stepsOf; rw [List.length_map]
    rw [vec_join jp (fun tm htm => ?_) (fun tm htm => ?_)]
    · rfl
    · rw [et] at htm
      refine ⟨by rw [ed]; exact (tok.each tm htm).row, fun x c v hc hv => ?_⟩
      obtain ⟨f, hf, hl⟩ := parts_len v1 hent hv
      rw [hl]
      exact (tok.each tm htm).cols x c _ hc (by rw [List.getElem?_map, hf]; rfl)
    · rw [et2] at htm
      rw [(tok2.each tm htm).len, List.length_map, lps]
/-! ### dots -/
theorem dot_app : ∀ {a x : List Rat} (b y : List Rat), a.length = x.length → dot (a ++ b) (x ++ y) = dot a x + dot b y
  | [], [], b, y, _ => by rw [dot_nil, Rat.zero_add]; rfl
  | [], _ :: _, _, _, h => by simp at h
  | _ :: _, [], _, _, h => by simp at h
  | p :: a, q :: x, b, y, h => by
    have ih := dot_app (a := a) (x := x) b y (by simpa using h)
    show p * q + dot (a ++ b) (x ++ y) = p * q + dot a x + dot b y
    rw [ih, Rat.add_assoc]
theorem dot_neg : ∀ {a x : List Rat}, dot (a.map fun z => -z) x = -dot a x
  | [], x => by rw [List.map_nil, dot_nil]; rfl
  | p :: a, [] => by rw [dot_nil2, dot_nil2]; rfl
  | p :: a, q :: x => by
    have ih := dot_neg (a := a) (x := x)
    show -p * q + dot (a.map fun z => -z) x = -(p * q + dot a x)
    rw [ih, Rat.neg_mul, Rat.neg_add]
end K63

set_option Elab.async false
set_option linter.all false
set_option maxRecDepth 100000
set_option exponentiation.threshold 20000
set_option pp.deepTerms false
set_option pp.deepTerms.threshold 8
namespace K63
open PySem PySem.Spec PyProof.Rows L2 Ly Mt
/-! ### the joint form is a wide form -/
theorem nlt_shift : ∀ {a b ss : List Nat}, a.length = ss.length → b.length = ss.length → nlt (List.zipWith (fun x y => x + y) a ss) (List.zipWith (fun x y => x + y) b ss) = nlt a b
  | [], [], [], _, _ => rfl
  | x :: a, y :: b, s :: ss, h1, h2 => by
    have ih := nlt_shift (a := a) (b := b) (ss := ss) (by simpa using h1) (by simpa using h2)
    show (decide (x + s < y + s) || (decide (x + s = y + s) && nlt (List.zipWith (fun x y => x + y) a ss) (List.zipWith (fun x y => x + y) b ss))) = (decide (x < y) || (decide (x = y) && nlt a b))
    rw [ih, decide_eq_decide.mpr (show x + s < y + s ↔ x < y by omega), decide_eq_decide.mpr (show x + s = y + s ↔ x = y by omega)]
  | [], _, _ :: _, h, _ => by simp at h
  | _ :: _, _, [], h, _ => by simp at h
  | [], _ :: _, [], _, h => by simp at h
  | _ :: _, [], _ :: _, _, h => by simp at h
theorem terms_join {d1 d2 n1 n2 : Nat} {w1 w2 wj steps : List Nat} {ts1 ts2 : List Tm} (l1 : w1.length = steps.length) (l2 : w2.length = steps.length) (lj : wj.length = steps.length) (h1 : TermsOk d1 w1 n1 ts1) (h2 : TermsOk d2 w2 n2 ts2)
    (c1 : ∀ (i a b : Nat), w1[i]? = some a → wj[i]? = some b → a ≤ b) (c2 : ∀ (i a b s : Nat), w2[i]? = some a → wj[i]? = some b → steps[i]? = some s → a + s ≤ b) : TermsOk (d1 + d2) wj (n1 + n2) (ts1 ++ ts2.map (movedT d1 steps)) := by
  have f1 := h1.few
  have f2 := h2.few
  have lz : ∀ t ∈ ts2, (List.zipWith (fun x y => x + y) t.2.1 steps).length = wj.length := fun t ht => by
    rw [List.length_zipWith, (h2.each t ht).len]; omega
  refine ⟨by rw [List.length_append, List.length_map]; omega, fun t ht => ?_, fun i a b ha hb => ?_⟩
  · rw [List.mem_append] at ht
    rcases ht with ht | ht
    · obtain ⟨r, l, c, z⟩ := h1.each t ht
      refine ⟨by omega, by omega, fun i x w hx hw => ?_, z⟩
      have hi : i < w1.length := by
        have := (List.getElem?_eq_some_iff.mp hw).1
        omega
      have := c i x _ hx (List.getElem?_eq_getElem hi)
      have := c1 i _ _ (List.getElem?_eq_getElem hi) hw
      omega
    · obtain ⟨s, hs, rfl⟩ := List.mem_map.mp ht
      obtain ⟨r, l, c, z⟩ := h2.each s hs
      refine ⟨by show s.1 + d1 < d1 + d2; omega, lz s hs, fun i x w hx hw => ?_, z⟩
      have hx' : (List.zipWith (fun x y => x + y) s.2.1 steps)[i]? = some x := hx
      have hi := (List.getElem?_eq_some_iff.mp hw).1
      rw [List.getElem?_zipWith, List.getElem?_eq_getElem (show i < s.2.1.length by omega), List.getElem?_eq_getElem (show i < steps.length by omega)] at hx'
      have e : s.2.1[i]'(by omega) + steps[i]'(by omega) = x := Option.some.inj hx'
      have b1 := c i _ _ (List.getElem?_eq_getElem (show i < s.2.1.length by omega)) (List.getElem?_eq_getElem (show i < w2.length by omega))
      have b2 := c2 i _ _ _ (List.getElem?_eq_getElem (show i < w2.length by omega)) hw (List.getElem?_eq_getElem (show i < steps.length by omega))
      omega
  · have la : ∀ t ∈ ts1 ++ ts2.map (movedT d1 steps), t.2.1.length = wj.length := fun t ht => by
      rw [List.mem_append] at ht
      rcases ht with ht | ht
      · rw [(h1.each t ht).len]; omega
      · obtain ⟨s, hs, rfl⟩ := List.mem_map.mp ht
        exact lz s hs
    have ma := la a (List.mem_of_getElem? ha)
    have mb := la b (List.mem_of_getElem? hb)
    by_cases hi : i + 1 < ts1.length
    · rw [List.getElem?_append_left (by omega)] at ha
      rw [List.getElem?_append_left hi] at hb
      exact h1.asc i a b ha hb
    · rw [List.getElem?_append_right (by omega), List.getElem?_map] at hb
      obtain ⟨t, ht, rfl⟩ := Option.map_eq_some_iff.mp hb
      rw [lt_keyT (by omega)]
      by_cases hi2 : i < ts1.length
      · rw [List.getElem?_append_left hi2] at ha
        have r1 := (h1.each a (List.mem_of_getElem? ha)).row
        show (decide (a.1 < t.1 + d1) || _) = true
        rw [decide_eq_true (by omega)]; rfl
      · rw [List.getElem?_append_right (by omega), List.getElem?_map] at ha
        obtain ⟨s, hs, rfl⟩ := Option.map_eq_some_iff.mp ha
        have e : i + 1 - ts1.length = (i - ts1.length) + 1 := by omega
        rw [e] at ht
        have lt := h2.asc _ s t hs ht
        have m1 := (h2.each s (List.mem_of_getElem? hs)).len
        have m2 := (h2.each t (List.mem_of_getElem? ht)).len
        rw [lt_keyT (by omega)] at lt
        have := nlt_shift (a := key s) (b := key t) (ss := d1 :: steps) (by simp [key]; omega) (by simp [key]; omega)
        rw [lt] at this
        exact this
theorem sum_zip : ∀ {a b : List Nat}, (List.zipWith (fun x y => x + y) a b).sum ≤ a.sum + b.sum
  | [], _ => by simp
  | _ :: _, [] => by simp
  | x :: a, y :: b => by
    have := sum_zip (a := a) (b := b)
    simp only [List.zipWith_cons_cons, List.sum_cons]
    omega
theorem head_inj {r s : Rd} (h : headD r = headD s) : r.1 = s.1 ∧ r.2.1 = s.2.1 := by
  unfold headD at h
  injection h with h
  injection h with h1 h2
  injection h1 with h1
  injection h2 with h2 _
  injection h2 with h2
  exact ⟨h1, h2⟩
theorem join_ok {F G : Form} (ok : FormOk 1 F) (ok2 : FormOk 1 G) (ek : G.ks = F.ks) (er : G.rds.map headD = F.rds.map headD) : FormOk 2 (joinF F G) := by
  have ld := ok.ld
  have ld2 := ok2.ld
  rw [ek] at ld2
  have hd1 := ok.hd
  have hd2 := ok2.hd
  have s1 := ok.sd
  have s2 := ok2.sd
  have lr : G.rds.length = F.rds.length := by
    have := congrArg List.length er
    rwa [List.length_map, List.length_map] at this
  have jd := fun i (hi : i < F.ks.length) => join_dim ok ok2 ek hi
  have rget : ∀ (n : Nat) r, (joinF F G).rds[n]? = some r → ∃ r1 r2, F.rds[n]? = some r1 ∧ G.rds[n]? = some r2 ∧ r = jrd r1 r2 ∧ r1.1 = r2.1 ∧ r1.2.1 = r2.2.1 := fun n r hr => by
    have hr' : (List.zipWith jrd F.rds G.rds)[n]? = some r := hr
    have hl := (List.getElem?_eq_some_iff.mp hr').1
    rw [List.length_zipWith] at hl
    rw [List.getElem?_zipWith, List.getElem?_eq_getElem (by omega), List.getElem?_eq_getElem (show n < G.rds.length by omega)] at hr'
    refine ⟨_, _, List.getElem?_eq_getElem (by omega), List.getElem?_eq_getElem (by omega), (Option.some.inj hr').symm, ?_⟩
    have e1 : (G.rds.map headD)[n]? = (F.rds.map headD)[n]? := by rw [er]
    rw [List.getElem?_map, List.getElem?_map, List.getElem?_eq_getElem (show n < G.rds.length by omega), List.getElem?_eq_getElem (show n < F.rds.length by omega)] at e1
    have e2 := head_inj (Option.some.inj e1)
    exact ⟨e2.1.symm, e2.2.symm⟩
  refine ⟨by decide, ok.kinds, ?_, fun d hd => ?_, ?_, ?_, fun i kd row hk hr => ?_, fun i kd row hk hr j m ts hm ht => ?_, ⟨?_, fun r hr => ?_, ?_, fun r hr => ?_⟩⟩
  · show (List.zipWith _ F.dims G.dims).length = F.ks.length
    rw [List.length_zipWith]; omega
  · obtain ⟨n, hn⟩ := List.getElem?_of_mem hd
    have hn' : (List.zipWith (fun x y => x + y) F.dims G.dims)[n]? = some d := hn
    have hl := (List.getElem?_eq_some_iff.mp hn').1
    rw [List.length_zipWith] at hl
    rw [List.getElem?_zipWith, List.getElem?_eq_getElem (show n < F.dims.length by omega), List.getElem?_eq_getElem (show n < G.dims.length by omega)] at hn'
    have e : F.dims[n]'(by omega) + G.dims[n]'(by omega) = d := Option.some.inj hn'
    have a1 := hd1 _ (List.getElem_mem (show n < F.dims.length by omega))
    have a2 := hd2 _ (List.getElem_mem (show n < G.dims.length by omega))
    omega
  · show (List.zipWith (fun x y => x + y) F.dims G.dims).sum ≤ 64
    have := sum_zip (a := F.dims) (b := G.dims)
    omega
  · show ((List.range F.ks.length).map _).length = F.ks.length
    rw [List.length_map, List.length_range]
  · have hi : i < F.ks.length := (List.getElem?_eq_some_iff.mp hk).1
    have hr' : ((List.range F.ks.length).map (jrow F G))[i]? = some row := hr
    rw [range_get hi] at hr'
    obtain rfl := Option.some.inj hr'
    unfold jrow
    rw [List.length_map, List.length_range, show F.ks.getD i (noS, []) = kd by rw [List.getD_eq_getElem?_getD]; rw [show F.ks[i]? = some kd from hk]; rfl]
  · have hk' : F.ks[i]? = some kd := hk
    have hi := (List.getElem?_eq_some_iff.mp hk').1
    have hj := (List.getElem?_eq_some_iff.mp hm).1
    have hr' : ((List.range F.ks.length).map (jrow F G))[i]? = some row := hr
    rw [range_get hi] at hr'
    obtain rfl := Option.some.inj hr'
    have ekd : F.ks.getD i (noS, []) = kd := by rw [List.getD_eq_getElem?_getD, hk']; rfl
    unfold jrow at ht
    rw [ekd, range_get hj] at ht
    obtain rfl := Option.some.inj ht
    obtain ⟨dim, row, ts, hdim, hrow, hts, ed, et⟩ := ok.at hk' hm
    obtain ⟨dim2, row2, ts2, hdim2, hrow2, hts2, ed2, et2⟩ := ok2.at (by rw [ek]; exact hk') hm
    have t1 := ok.tm i kd row hk' hrow j m ts hm hts
    have t2 := ok2.tm i kd row2 (by rw [ek]; exact hk') hrow2 j m ts2 hm hts2
    unfold jcell
    rw [ekd, show kd.2.getD j (noS, []) = m by rw [List.getD_eq_getElem?_getD, hm]; rfl, et, et2, jd i hi, ed, ed2]
    rw [ed] at t1
    rw [ed2, ek] at t2
    have wget : ∀ (dims : List Nat) (x a : Nat), (m.2.map (wd (F.ks.map (·.1)) dims))[x]? = some a → ∃ f, m.2[x]? = some f ∧ a = wd (F.ks.map (·.1)) dims f := fun dims x a h => by
      rw [List.getElem?_map] at h
      obtain ⟨f, hf, e⟩ := Option.map_eq_some_iff.mp h
      exact ⟨f, hf, e.symm⟩
    have wj : ∀ f, f ∈ F.ks.map (·.1) → wd (F.ks.map (·.1)) (joinF F G).dims f = F.dims.getD ((F.ks.map (·.1)).idxOf f) 0 + G.dims.getD ((F.ks.map (·.1)).idxOf f) 0 := fun f hf => by
      unfold wd
      rw [if_pos hf]
      have := List.idxOf_lt_length_of_mem hf
      rw [List.length_map] at this
      exact jd _ this
    refine terms_join (by unfold stepsOf; simp) (by unfold stepsOf; simp) (by unfold stepsOf; simp) t1 t2 (fun x a b ha hb => ?_) (fun x a b s ha hb hs => ?_)
    · obtain ⟨f, hf, rfl⟩ := wget _ x a ha
      obtain ⟨f', hf', rfl⟩ := wget _ x b hb
      rw [hf] at hf'
      obtain rfl := Option.some.inj hf'
      by_cases hin : f ∈ F.ks.map (·.1)
      · rw [wj f hin]
        unfold wd
        rw [if_pos hin]; omega
      · unfold wd
        rw [if_neg hin, if_neg hin]; exact Nat.le_refl _
    · obtain ⟨f, hf, rfl⟩ := wget _ x a ha
      obtain ⟨f', hf', rfl⟩ := wget _ x b hb
      rw [hf] at hf'
      obtain rfl := Option.some.inj hf'
      unfold stepsOf at hs
      rw [List.getElem?_map, hf] at hs
      have es := Option.some.inj hs
      dsimp only at es
      by_cases hin : f ∈ F.ks.map (·.1)
      · rw [if_pos hin] at es
        rw [wj f hin]
        unfold wd
        rw [if_pos hin]; omega
      · rw [if_neg hin] at es
        unfold wd
        rw [if_neg hin, if_neg hin]; omega
  · show (List.zipWith jrd F.rds G.rds).length ≤ 60
    have := ok.rd.few
    rw [List.length_zipWith]; omega
  · obtain ⟨n, hn⟩ := List.getElem?_of_mem hr
    obtain ⟨r1, r2, h1, h2, rfl, _⟩ := rget n r hn
    exact ok.rd.low r1 (List.mem_of_getElem? h1)
  · have e : (joinF F G).rds.map (·.1) = F.rds.map (·.1) := by
      refine List.ext_getElem? fun n => ?_
      rw [List.getElem?_map, List.getElem?_map]
      cases h : (joinF F G).rds[n]? with
      | none =>
        have h' : (List.zipWith jrd F.rds G.rds)[n]? = none := h
        have := List.getElem?_eq_none_iff.mp h'
        rw [List.length_zipWith] at this
        rw [List.getElem?_eq_none (show F.rds.length ≤ n by omega)]
      | some r =>
        obtain ⟨r1, r2, h1, h2, rfl, _⟩ := rget n r h
        rw [h1]; rfl
    rw [e]
    exact ok.rd.nd
  · obtain ⟨n, hn⟩ := List.getElem?_of_mem hr
    obtain ⟨r1, r2, h1, h2, rfl, e1, e2⟩ := rget n r hn
    obtain ⟨k1, l1⟩ := ok.rd.kind r1 (List.mem_of_getElem? h1)
    obtain ⟨k2, l2⟩ := ok2.rd.kind r2 (List.mem_of_getElem? h2)
    refine ⟨k1, ?_⟩
    show (r1.2.2 ++ r2.2.2.map fun x => -x).length = (joinF F G).dims.getD ((F.ks.map (·.1)).idxOf r1.2.1) 0
    have hidx := List.idxOf_lt_length_of_mem k1
    rw [List.length_map] at hidx
    rw [List.length_append, List.length_map, l1, l2, jd _ hidx, ek, ← e2]
theorem join_coef {ks : List Kd} {rs : List (Str × Str)} {F G : Form} (h1 : Shp ks rs F) (h2 : Shp ks rs G) : Coef F ∧ Coef (joinF F G) := by
  obtain ⟨a1, a2⟩ := shp_coef h1
  obtain ⟨b1, b2⟩ := shp_coef h2
  refine ⟨⟨fun i j => by have := a1 i j; omega, a2⟩, ⟨fun i j => ?_, fun i j => ?_⟩⟩
  all_goals
    have cell : termsAt (joinF F G) i j = [] ∨ termsAt (joinF F G) i j = jcell F G i j := by
      unfold termsAt
      by_cases hi : i < F.ks.length
      · have e1 : (joinF F G).maps.getD i [] = jrow F G i := by
          show ((List.range F.ks.length).map (jrow F G)).getD i [] = _
          rw [List.getD_eq_getElem?_getD, range_get hi]; rfl
        rw [e1]
        unfold jrow
        by_cases hj : j < (F.ks.getD i (noS, [])).2.length
        · rw [List.getD_eq_getElem?_getD, range_get hj]; exact .inr rfl
        · rw [List.getD_eq_getElem?_getD, List.getElem?_eq_none (by rw [List.length_map, List.length_range]; omega)]; exact .inl rfl
      · have e1 : (joinF F G).maps.getD i [] = [] := by
          show ((List.range F.ks.length).map (jrow F G)).getD i [] = _
          rw [List.getD_eq_getElem?_getD, List.getElem?_eq_none (by rw [List.length_map, List.length_range]; omega)]; rfl
        rw [e1]; exact .inl rfl
  · rcases cell with e | e
    · rw [e]; exact Nat.zero_le _
    · rw [e]
      unfold jcell
      have := a1 i j
      have := b1 i j
      rw [List.length_append, List.length_map]; omega
  · rcases cell with e | e
    · rw [e]; exact fun t ht => by simp at ht
    · rw [e]
      unfold jcell
      intro t ht
      rw [List.mem_append] at ht
      rcases ht with ht | ht
      · exact a2 i j t ht
      · obtain ⟨s, hs, rfl⟩ := List.mem_map.mp ht
        exact b2 i j s hs
/-! ### depth of data -/
theorem Fl.up {d : Nat} {x : PyData} (h : Fl d x) : Fl (d + 1) x := by
  induction h with
  | int d i => exact .int _ _
  | str d s => exact .str _ _
  | tup d ds l h ih => exact .tup _ _ l ih
theorem fl_map {α : Type} {f : α → PyData} {d : Nat} {l : List α} (hl : l.length ≤ 8000) (h : ∀ x ∈ l, Fl d (f x)) : Fl (d + 1) (.tuple (l.map f)) := .tup d _ (by rw [List.length_map]; exact hl) fun x hx => by
  obtain ⟨a, ha, rfl⟩ := List.mem_map.mp hx
  exact h a ha
theorem fl_rat (q : Rat) : Fl 1 (rD q) := .tup 0 _ (by show 2 ≤ 8000; decide) fun x hx => by
  have : x = .int q.num ∨ x = .int (q.den : Int) := by simpa using hx
  rcases this with h | h <;> rw [h] <;> exact .int _ _
theorem fl_vec {r : List Rat} (h : r.length ≤ 8000) : Fl 2 (vD r) := fl_map h fun q _ => fl_rat q
theorem fl_mat {A : List (List Rat)} (h : A.length ≤ 8000) (hr : ∀ r ∈ A, r.length ≤ 8000) : Fl 3 (mD A) := fl_map h fun r hr' => fl_vec (hr r hr')
theorem fl_form {wide : Nat} {F : Form} (ok : FormOk wide F) : Fl 6 (fmD F) := by
  have kf := ok.kinds.few
  have w2 := ok.wid
  have ld := ok.ld
  have lm := ok.lm
  have rf := ok.rd.few
  have fks : Fl 5 (ksD F.ks) := fl_map (by omega) fun k hk => by
    have m6 := ok.kinds.mks k hk
    refine .tup 3 _ (by show 2 ≤ 8000; decide) fun x hx => ?_
    have : x = .str k.1 ∨ x = .tuple (k.2.map mkD) := by simpa using hx
    rcases this with rfl | rfl
    · exact .str _ _
    · refine fl_map (by omega) fun m hm => ?_
      have m4 := (ok.kinds.mkk k hk m hm).2
      refine .tup 1 _ (by show 2 ≤ 8000; decide) fun y hy => ?_
      have : y = .str m.1 ∨ y = sD m.2 := by simpa using hy
      rcases this with rfl | rfl
      · exact .str _ _
      · exact fl_map (by omega) fun f _ => .str _ _
  have fds : Fl 5 (nsD F.dims) := (((fl_map (d := 0) (by omega) fun n _ => .int _ _ : Fl 1 (nsD F.dims)).up.up).up).up
  have fmp : Fl 5 (mpD F.maps) := fl_map (by omega) fun row hrow => by
    obtain ⟨i, hi⟩ := List.getElem?_of_mem hrow
    have hik : i < F.ks.length := by
      have := (List.getElem?_eq_some_iff.mp hi).1
      omega
    have l1 := ok.lr i _ row (List.getElem?_eq_getElem hik) hi
    have m6 := ok.kinds.mks _ (List.getElem_mem hik)
    refine fl_map (by omega) fun ts hts => ?_
    obtain ⟨j, hj⟩ := List.getElem?_of_mem hts
    have hjk : j < F.ks[i].2.length := by
      have := (List.getElem?_eq_some_iff.mp hj).1
      omega
    have tok := ok.tm i _ row (List.getElem?_eq_getElem hik) hi j _ ts (List.getElem?_eq_getElem hjk) hj
    have m4 := (ok.kinds.mkk _ (List.getElem_mem hik) _ (List.getElem_mem hjk)).2
    have few := tok.few
    refine fl_map (by omega) fun t ht => ?_
    have lt := (tok.each t ht).len
    rw [List.length_map] at lt
    refine .tup 1 _ (by show 3 ≤ 8000; decide) fun y hy => ?_
    have : y = nD t.1 ∨ y = nsD t.2.1 ∨ y = rD t.2.2 := by simpa using hy
    rcases this with rfl | rfl | rfl
    · exact .int _ _
    · exact fl_map (by omega) fun n _ => .int _ _
    · exact fl_rat _
  have frd : Fl 5 (rdsD F.rds) := (fl_map (d := 3) (by omega) fun r hr => by
    refine .tup 2 _ (by show 3 ≤ 8000; decide) fun y hy => ?_
    have lv := (ok.rd.kind r hr).2
    have d32 := ok.dim_le ((F.ks.map (·.1)).idxOf r.2.1)
    have : y = .str r.1 ∨ y = .str r.2.1 ∨ y = vD r.2.2 := by simpa using hy
    rcases this with rfl | rfl | rfl
    · exact .str _ _
    · exact .str _ _
    · exact fl_vec (by omega) : Fl 4 (rdsD F.rds)).up
  refine .tup 5 _ (by show 4 ≤ 8000; decide) fun x hx => ?_
  have : x = ksD F.ks ∨ x = nsD F.dims ∨ x = mpD F.maps ∨ x = rdsD F.rds := by simpa using hx
  rcases this with rfl | rfl | rfl | rfl
  · exact fks
  · exact fds
  · exact fmp
  · exact frd
end K63

set_option Elab.async false
set_option linter.all false
set_option maxRecDepth 100000
/-! a def that raises, called by its parameter's name -/
namespace Ly
open PySem PySem.Spec PyProof.Rows L2
def tCallKS (sp : Sp) (gV : List V → List V → List V) (E : L2.St → XK) (t tk : TA) : TE := fun σ H Q => t σ H fun vs H1 => tk σ H1 fun zs H2 => sp (gV vs zs) H2 Q (E σ)
section
variable {X : Cx} {k : Nat} {x : Str} {st : Stmt} {ps ks : List Str} {sp : Sp} {p pos : Pos} {f : Addr} {fd : FuncData} {kws : List Keyword} {tk : TA} {W : WX} {E : L2.St → XK} {CX : CXT} {g : List Value → List Value → List Value} {gV : List V → List V → List V}
theorem run_fnKS {pins : List (Addr × Obj)} {σ : L2.St} {H : Hp} {s : Shared} {Q : VK} {us ws : List Value} {vs zs : List V} (F : FnOk X.prog X.w X.K X.mg X.base CX k f fd ps sp) (hr : Room k X.A) (hb : KBinds X.K fd ps ks g gV) (hx : PassesAt CX X σ (E σ))
    (I : Inv X pins σ H s) (r : Vals vs us) (rz : Vals zs ws) (h : sp (gV vs zs) H Q (E σ)) : wpAny (model X.prog X.w) X.A (call (.ref f) us (ks.zip ws)) (EP X pins σ Q) X.xe s := by
  have r2 := hb.rel r rz
  have hl : (g us ws).length = ps.length := by rw [← r2.length]; exact F.len _ _ _ _ h
  refine wpAny_call (codeAny_mono (F.run X.A X.stack s H ⟨us, ks.zip ws⟩ (g us ws) (gV vs zs) Q (E σ) hr I.env0 (hb.to s us ws I.kIn hl) r2 h) fun r s' hq => ?_)
  cases r with
  | error e => exact hx pins H s e s' I hq
  | ok fl =>
    cases fl with
    | ret u => exact I.after hq
    | next => exact False.elim hq
    | brk => exact False.elim hq
    | cont => exact False.elim hq
theorem pe_defKX (O : DefX X.prog X.w X.K X.mg X.base k x st ps sp) (tw : Takes X W) (hr : Room k X.A) (hg : Gl X x) (kb : ∀ f fd, Fun X.K x x st f fd → KBinds X.K fd ps ks g gV) (hkw : PK X kws tk)
    (hall : (backToKw pos (keywordEach kws X.env)).all (·.1.isSome) = true := by rfl) (hks : (backToKw pos (keywordEach kws X.env)).filterMap (·.1) = ks := by rfl) (hdb : (x == ("__debug__" : Str)) = false := by decide)
    (hpl : ((backTo pos (starEach [] X.env)).any (·.1) || (backToKw pos (keywordEach kws X.env)).any (·.1.isNone)) = false := by rfl) :
    PE X (.Call (.Name x p) [] kws pos) (tCallKS sp gV (WE W) tNil tk) := by
  obtain ⟨f, fd, F, hm, hk, _, U⟩ := O.ex
  refine ⟨fun pins s σ H Q I h => wpAny_Call_Name_kw (ld_glob I hg hm (PySem.W.callWith_KW0 (h₀ := X.base) I.ok.mod.kin hk hall (thn (hkw.run pos pins s σ H _ I h) ?_) hpl) hdb)⟩
  rintro ws s2 ⟨zs, H2, I2, rz, q2⟩
  refine ⟨I2.kIn, ?_⟩
  rw [hks]
  exact run_fnKS F hr (kb f fd U) (passAt tw σ) I2 .nil rz q2
end
end Ly

set_option Elab.async false
set_option linter.all false
set_option maxRecDepth 100000
set_option exponentiation.threshold 20000
set_option pp.deepTerms false
set_option pp.deepTerms.threshold 8
namespace K63
open PySem PySem.Spec PyProof.Rows L2 Ly Mt
theorem dot_sx {B C : Nat} : ∀ {r s : List Rat}, (∀ x ∈ r, Sx B 1 x) → (∀ x ∈ s, Sx C 30 x) → Sx (r.length * (B * C)) 31 (dot r s)
  | [], s, _, _ => by rw [dot_nil]; exact sx_zero _ _
  | _ :: _, [], _, _ => by rw [dot_nil2]; exact sx_zero _ _
  | p :: r, q :: s, h1, h2 => by
    have ih := dot_sx (r := r) (s := s) (fun x hx => h1 x (List.mem_cons_of_mem _ hx)) (fun x hx => h2 x (List.mem_cons_of_mem _ hx))
    show Sx ((r.length + 1) * (B * C)) 31 (p * q + dot r s)
    rw [Nat.add_mul, Nat.one_mul, Nat.add_comm]
    exact ((h1 p (List.mem_cons_self ..)).mul (h2 q (List.mem_cons_self ..))).add ih
theorem dot_big {n : Nat} (h : n ≤ 64) : n * (88 * EE ^ 30) * 6 ^ 31 < 2 ^ 4400 ∧ 6 ^ 31 < 2 ^ 4400 := by
  have e : EE ^ 30 = 2 ^ 2250 := (Nat.pow_mul 2 75 30).symm
  have h6 : 6 ^ 31 < 2 ^ 93 := by decide
  constructor
  · rw [e]
    calc n * (88 * 2 ^ 2250) * 6 ^ 31 ≤ 64 * (88 * 2 ^ 2250) * 2 ^ 93 := Nat.mul_le_mul (Nat.mul_le_mul h (Nat.le_refl _)) (Nat.le_of_lt h6)
      _ ≤ 2 ^ 13 * 2 ^ 2250 * 2 ^ 93 := by
        refine Nat.mul_le_mul ?_ (Nat.le_refl _)
        rw [← Nat.mul_assoc]
        exact Nat.mul_le_mul (by decide) (Nat.le_refl _)
      _ = 2 ^ (13 + 2250 + 93) := by rw [Nat.pow_add, Nat.pow_add]
      _ < 2 ^ 4400 := Nat.pow_lt_pow_right (by decide) (by decide)
  · exact Nat.lt_trans h6 (Nat.pow_lt_pow_right (by decide) (by decide))
theorem dot_job {r s : List Rat} (len : r.length = s.length) (l64 : r.length ≤ 64) (h1 : ∀ x ∈ r, Sx 88 1 x) (h2 : ∀ x ∈ s, Sx (EE ^ 30) 30 x) : DotJob r s ∧ Bd 4400 4400 (dot r s) := by
  have big := fun n (h : n ≤ 64) => dot_big h
  have b1 := big 1 (by decide)
  have one : 88 * EE ^ 30 * 6 ^ 31 < 2 ^ 4400 := by
    have := b1.1
    rwa [Nat.one_mul] at this
  refine ⟨⟨len, by omega, fun x hx => ?_, fun x hx => ?_, fun i x y hx hy => ?_, fun i => ?_⟩, (dot_sx h1 h2).bd (big _ l64).1 (big _ l64).2⟩
  · exact ((h1 x hx).mono (C := 88 * EE ^ 30) (e := 31) (Nat.le_mul_of_pos_right _ (Nat.pow_pos (by decide))) (by decide)).bd one b1.2
  · exact ((h2 x hx).mono (C := 88 * EE ^ 30) (e := 31) (Nat.le_mul_of_pos_left _ (by decide)) (by decide)).bd one b1.2
  · exact ((h1 x (List.mem_of_getElem? hx)).mul (h2 y (List.mem_of_getElem? hy))).bd one b1.2
  · have l : (r.take i).length ≤ 64 := by rw [List.length_take]; omega
    exact (dot_sx (fun x hx => h1 x (List.mem_of_mem_take hx)) (fun x hx => h2 x (List.mem_of_mem_take hx))).bd (big _ l).1 (big _ l).2
theorem rows_shaped {ks : List Kd} (ok : KindsOk ks) {rows : List Rw} {sz : List Nat} {hd : List Str} (rs : RS ks rows sz hd) : SeqAt.shaped (rwsD rows) = true := by
  have lay : (rwsD rows).canLay0 = true := lay_map fun r hr => by
    obtain ⟨t, ht⟩ := List.getElem?_of_mem hr
    obtain ⟨i, j, kd, m, a, _⟩ := rs.each t r ht
    show ((PyData.str r.1).canLay0 && (PyData.canLayAll0 (r.2.map .int) && true)) = true
    rw [a.nm, name_lay (ok.mkk kd (List.mem_of_getElem? a.hk) m (List.mem_of_getElem? a.hm)).1.1, lay_map fun _ _ => rfl]; rfl
  have dep : (rwsD rows).depth ≤ 64 := by
    have h : PyData.depthAll (rows.map rwD) ≤ 2 := depth_map fun r _ => by
      have h3 : PyData.depthAll (r.2.map .int) ≤ 0 := depth_map fun f _ => Nat.le_refl 0
      show max 0 (max (PyData.depthAll (r.2.map .int) + 1) 0) + 1 ≤ 2
      omega
    show PyData.depthAll (rows.map rwD) + 1 ≤ 64
    omega
  unfold SeqAt.shaped
  rw [lay, decide_eq_true dep]; rfl
theorem heads_eq {ks : List Kd} {rs : List (Str × Str)} {F G : Form} (h1 : Shp ks rs F) (h2 : Shp ks rs G) : G.rds.map headD = F.rds.map headD := by
  have e : ∀ l : List Rd, l.map headD = (l.map fun r => (r.1, r.2.1)).map fun p : Str × Str => PyData.tuple [.str p.1, .str p.2] := fun l => by
    rw [List.map_map]; rfl
  rw [e, e, h1.hr, h2.hr]
section
variable {P : Program} {w : World} {K : PySem.W.Frag} {mg : Str → Option Value} {base : Heap}
theorem kb_joint_one_other : ∀ f fd, Fun K "joint" "joint" s_joint f fd → KBinds K fd ["one", "other"] ["one", "other"] (fun us ws => match us, ws with | [], [x, y] => [x, y] | _, _ => []) (fun us ws => match us, ws with | [], [x, y] => [x, y] | _, _ => []) := by
  intro f fd U
  obtain ⟨oc, od, kV, doc, pm, an, cdv, ct, osl, rfl, lk, hcd⟩ := U.ex
  refine ⟨fun s us ws X hl => ?_, fun {vs us zs ws} r rz => ?_⟩
  · match us, ws, hl with
    | [], [x, y], _ => exact .of_eq rfl
    | [], [], h => simp at h
    | [], [_], h => simp at h
    | [], _ :: _ :: _ :: _, h => simp at h
    | _ :: _, _, h => simp at h
  · cases r with
    | cons a b => exact .nil
    | nil =>
      cases rz with
      | nil => exact .nil
      | cons a b =>
        cases b with
        | nil => exact .nil
        | cons a2 b2 =>
          cases b2 with
          | nil => exact .cons a (.cons a2 .nil)
          | cons _ _ => exact .nil
theorem kb_joint_other_one : ∀ f fd, Fun K "joint" "joint" s_joint f fd → KBinds K fd ["one", "other"] ["other", "one"] (fun us ws => match us, ws with | [], [x, y] => [y, x] | _, _ => []) (fun us ws => match us, ws with | [], [x, y] => [y, x] | _, _ => []) := by
  intro f fd U
  obtain ⟨oc, od, kV, doc, pm, an, cdv, ct, osl, rfl, lk, hcd⟩ := U.ex
  refine ⟨fun s us ws X hl => ?_, fun {vs us zs ws} r rz => ?_⟩
  · match us, ws, hl with
    | [], [x, y], _ => exact .of_eq rfl
    | [], [], h => simp at h
    | [], [_], h => simp at h
    | [], _ :: _ :: _ :: _, h => simp at h
    | _ :: _, _, h => simp at h
  · cases r with
    | cons a b => exact .nil
    | nil =>
      cases rz with
      | nil => exact .nil
      | cons a b =>
        cases b with
        | nil => exact .nil
        | cons a2 b2 =>
          cases b2 with
          | nil => exact .cons a2 (.cons a .nil)
          | cons _ _ => exact .nil
abbrev s__law_right : Stmt := topS 87
theorem sc__law_right : FnScope ["first", "second", "rows", "found", "lefts", "rights", "r", "at", "left", "right"] ["first", "second", "rows"] (defScope s__law_right) := ⟨rfl, rfl, rfl, by decide +kernel, rfl, by decide +kernel, by decide +kernel⟩
def sp_right (K : PySem.W.Frag) : Sp := fun vs H Q _ => ∃ (v u z : V) (F G : Form) (rows : List Rw) (rs : List (Str × Str)) (sz : List Nat) (hd : List Str), vs = [v, u, z] ∧ Im K H v (fmD F) ∧ Im K H u (fmD G) ∧ Im K H z (rwsD rows) ∧ Shp F.ks rs F ∧ Shp F.ks rs G ∧ Small F.ks ∧ RS F.ks rows sz hd ∧ rows.length ≤ 10 ∧ ∀ H', Same H H' → Q (.bl true) H'
set_option maxHeartbeats 4000000 in
theorem ok__law_right {f : Addr} {fd : FuncData} {k : Nat} (F : Fun K "_law_right" "_law_right" s__law_right f fd) (T : Tx K mg){er : Er} {k1 k2 k3 k4 k5 k6 k7 k8 : Nat} (D_joint : DefX P w K mg base k1 "joint" s_joint ["one", "other"] (sp_joint K)) (D__law_same : Def P w K mg base k2 "_law_same" s__law_same ["found", "due"] (sp_same K 7)) (D__law_joint : Def P w K mg base k3 "_law_joint" s__law_joint ["first", "second"] (sp_joined K)) (D__law_vectors : Def P w K mg base k4 "_law_vectors" s__law_vectors ["shape", "rows"] (sp_lvectors K)) (D_vectors : DefX P w K mg base k5 "vectors" s_vectors ["form", "rows"] (sp_vectors K)) (D__law_where : Def P w K mg base k6 "_law_where" s__law_where ["kinds", "word"] (sp_where K)) (D__law_dot : Def P w K mg base k7 "_law_dot" s__law_dot ["xs", "ys"] (sp_dot K)) (D__law_plus : Def P w K mg base k8 "_law_plus" s__law_plus ["x", "y"] (sp_lplus K)) (e1 : k1 ≤ k) (e2 : k2 ≤ k) (e3 : k3 ≤ k) (e4 : k4 ≤ k) (e5 : k5 ≤ k) (e6 : k6 ≤ k) (e7 : k7 ≤ k) (e8 : k8 ≤ k) : FnOk P w K mg base CX0 (k + 1) f fd ["first", "second", "rows"] (sp_right K) := by
  have nd := sc__law_right.nd
  refine F.ok sc__law_right (fun vs H Q E h => ?_) (fun cdv A outer s H vs Q E hr h => ?_)
  · obtain ⟨_, _, _, _, _, _, _, _, _, rfl, _⟩ := h
    rfl
  · obtain ⟨v, u, z, F', G, rows, rs, sz, hd, rfl, iv, iu, iz, sh1, sh2, sm, rsx, r10, q⟩ := h
    have ok1 := sh1.ok
    have ok2 := sh2.ok
    have ek : G.ks = F'.ks := sh2.hk
    have er' := heads_eq sh1 sh2
    have elr : G.rds.length = F'.rds.length := by
      have := congrArg List.length er'
      rwa [List.length_map, List.length_map] at this
    have jok := join_ok ok1 ok2 ek er'
    have jok' := jok
    obtain ⟨cf1, cfj⟩ := join_coef sh1 sh2
    obtain ⟨cf2, _⟩ := join_coef sh2 sh2
    have rsG : RS G.ks rows sz hd := by rw [ek]; exact rsx
    have smG : Small G.ks := by rw [ek]; exact sm
    refine ⟨_, (pss_cons (ps_set (i := 3) nd rfl (.inl rfl) (pe_defX D_joint takes0 (hr.mono (by omega)) rfl (pa_cons (pv 0) (pa_cons (pv 1) pa_nil))))
      (pss_cons (ps_if (pt_not (pt_val (pe_def D__law_same (hr.mono (by omega)) rfl (pa_cons (pv 3) (pa_cons (pe_def D__law_joint (hr.mono (by omega)) rfl (pa_cons (pv 0) (pa_cons (pv 1) pa_nil))) pa_nil)))))
        (pss_one (ps_ret pe_bl))
        pss_nil)
      (pss_cons (ps_if (pt_cmpR (kop_eqD K hr.units) (pv 2) (pe_tup pa_nil) (nomark _))
        (pss_one (ps_ret pe_bl))
        pss_nil)
      (pss_cons (ps_asg (pe_tup (pa_cons (pe_def D__law_vectors (hr.mono (by omega)) rfl (pa_cons (pv 0) (pa_cons (pv 2) pa_nil))) (pa_cons (pe_def D__law_vectors (hr.mono (by omega)) rfl (pa_cons (pv 1) (pa_cons (pv 2) pa_nil))) pa_nil))) (kpg_tup K (n := 2) rfl (pgs_cons (pg_name (i := 4) nd rfl (.inr rfl)) (pgs_cons (pg_name (i := 5) nd rfl (.inr rfl)) pgs_nil))))
      (pss_cons (ps_if (pt_not (pt_val (pe_def D__law_same (hr.mono (by omega)) rfl (pa_cons (pe_defX D_vectors takes0 (hr.mono (by omega)) rfl (pa_cons (pv 3) (pa_cons (pv 2) pa_nil))) (pa_cons (pe_callTy (kcall_tuple K) (by rfl) T.m_tuple (by decide +kernel) (pa_cons (pe_lc (own := [("at", 7)]) (g := gName 7) (tt := tYes) rfl nd (pi_range1 rfl T.m_range (pa_cons (pe_callB (kcall_len K) (by rfl) T.m_len PySem.boot_len (pa_cons (pv 2) pa_nil)) pa_nil)) (blkOk_by (by rfl)) (fun _ _ _ _ _ => (pg_name (i := 7) nd rfl (.inl rfl))) (fun _ _ _ _ _ => pts_nil) (fun _ _ _ _ _ => (pe_op (kop_catA K) (pe_ix (kix_list K) (pv 4) (pv 7) (fun _ _ => rfl)) (pe_ix (kix_list K) (pv 5) (pv 7) (fun _ _ => rfl))))) pa_nil)) pa_nil)))))
        (pss_one (ps_ret pe_bl))
        pss_nil)
      (pss_cons (ps_for PassesOwn.never rfl (pi_range1 rfl T.m_range (pa_cons (pe_callB (kcall_len K) (by rfl) T.m_len PySem.boot_len (pa_cons (pe_ix (kix_tup K) (pv 0) pe_int (fun _ _ => rfl)) pa_nil)) pa_nil)) (pg_name (i := 6) nd rfl (.inl rfl))
        (pss_one (ps_for PassesOwn.never rfl (pi_range1 rfl T.m_range (pa_cons (pe_callB (kcall_len K) (by rfl) T.m_len PySem.boot_len (pa_cons (pv 2) pa_nil)) pa_nil)) (pg_name (i := 7) nd rfl (.inl rfl))
          (pss_one (ps_if (pt_cmpR op_eq (pe_ix (kix_tup K) (pe_ix (kix_tup K) (pe_ix (kix_tup K) (pv 0) pe_int (fun _ _ => rfl)) (pe_ix (kix_tup K) (pe_def D__law_where (hr.mono (by omega)) rfl (pa_cons (pe_ix (kix_tup K) (pv 0) pe_int (fun _ _ => rfl)) (pa_cons (pe_ix (kix_tup K) (pe_ix (kix_tup K) (pv 2) (pv 7) (fun _ _ => rfl)) pe_int (fun _ _ => rfl)) pa_nil))) pe_int (fun _ _ => rfl)) (fun _ _ => rfl)) pe_int (fun _ _ => rfl)) (pe_ix (kix_tup K) (pe_ix (kix_tup K) (pe_ix (kix_tup K) (pv 0) pe_int (fun _ _ => rfl)) (pv 6) (fun _ _ => rfl)) pe_int (fun _ _ => rfl)) (nomark _))
            (pss_cons (ps_par (i := 8) (j := 9) (by rfl) nd rfl rfl (by decide) rfl rfl (pa_cons (pe_def D__law_dot (hr.mono (by omega)) rfl (pa_cons (pe_ix (kix_tup K) (pe_ix (kix_tup K) (pe_ix (kix_tup K) (pv 0) pe_int (fun _ _ => rfl)) (pv 6) (fun _ _ => rfl)) pe_int (fun _ _ => rfl)) (pa_cons (pe_ix (kix_list K) (pv 4) (pv 7) (fun _ _ => rfl)) pa_nil))) (pa_cons (pe_def D__law_dot (hr.mono (by omega)) rfl (pa_cons (pe_ix (kix_tup K) (pe_ix (kix_tup K) (pe_ix (kix_tup K) (pv 1) pe_int (fun _ _ => rfl)) (pv 6) (fun _ _ => rfl)) pe_int (fun _ _ => rfl)) (pa_cons (pe_ix (kix_list K) (pv 5) (pv 7) (fun _ _ => rfl)) pa_nil))) pa_nil)) (by rfl))
            (pss_one (ps_if (pt_cmpR (kop_neD K hr.units) (pe_def D__law_dot (hr.mono (by omega)) rfl (pa_cons (pe_ix (kix_tup K) (pe_ix (kix_tup K) (pe_ix (kix_tup K) (pv 3) pe_int (fun _ _ => rfl)) (pv 6) (fun _ _ => rfl)) pe_int (fun _ _ => rfl)) (pa_cons (pe_op (kop_catA K) (pe_ix (kix_list K) (pv 4) (pv 7) (fun _ _ => rfl)) (pe_ix (kix_list K) (pv 5) (pv 7) (fun _ _ => rfl))) pa_nil))) (pe_def D__law_plus (hr.mono (by omega)) rfl (pa_cons (pv 8) (pa_cons (pe_tup (pa_cons (pe_un un_neg (pe_ix (kix_tup K) (pv 9) pe_int (fun _ _ => rfl))) (pa_cons (pe_ix (kix_tup K) (pv 9) pe_int (fun _ _ => rfl)) pa_nil))) pa_nil))) (nomark _))
              (pss_one (ps_ret pe_bl))
              pss_nil)))
            pss_nil)))))
      (pss_one (ps_ret pe_bl)))))))), ?_⟩
    refine ⟨v, rfl, u, rfl, v, u, F', G, rfl, iv, iu, ok1, ok2, ek, er', fun p H1 s1 i1 => ?_⟩
    have t1 := tk_same s1
    refine ⟨.ref p, rfl, v, rfl, u, rfl, v, u, F', G, rfl, Im.mono t1 _ iv, Im.mono t1 _ iu, ok1, ok2, ek, elr, fun p2 H2 s2 i2 => ?_⟩
    refine ⟨.ref p, .ref p2, fmD (joinF F' G), rfl, Im.mono (tk_same s2) _ i1, i2, fl_form jok, fun H3 s3 => ⟨true, rfl, iteF ?_⟩⟩
    have s13 := (s1.trans s2).trans s3
    have t13 := tk_same s13
    refine ⟨z, rfl, by show 0 ≤ sizeLine; decide, fun E hE => ?_⟩
    have sE := same_new (o := .tup []) hE
    have s4 := s13.trans sE
    have t4 := tk_same s4
    have iE : Im K (upd H3 E (.tup [])) (.ref E) (.tuple []) := .tup (.inl upd_same) .nil
    have i14 := Im.mono (tk_same ((s2.trans s3).trans sE)) _ i1
    generalize upd H3 E (.tup []) = H4 at *
    refine ⟨rwsD rows, .tuple [], Im.dp _ (Im.mono t4 _ iz), Im.dp _ iE, rows_shaped ok1.kinds rsx, rfl, _, rfl, ?_⟩
    by_cases h0 : rows = []
    · subst h0
      exact iteT (q _ s4)
    · have hne : PyData.eqv (rwsD rows) (.tuple []) = false := by
        cases rows with
        | nil => exact absurd rfl h0
        | cons a b => rfl
      rw [hne]
      have l1 : 1 ≤ rows.length := by
        cases rows with
        | nil => exact absurd rfl h0
        | cons a b => simp
      have ro := rsx.ok l1 (by omega)
      have roG : RowsOk G.ks rows := by rw [ek]; exact ro
      have jobF := vecs_job ok1 cf1 sm rsx
      have jobG := vecs_job ok2 cf2 smG rsG
      have jobJ : VecsJob (joinF F' G) rows := vecs_job jok cfj sm rsx
      have ej : vecsOf (joinF F' G) rows = List.zipWith (fun x y => x ++ y) (vecsOf F' rows) (vecsOf G rows) := by
        have := vecs_join ok1 ok2 ek cf1 sm rsx rows.length (Nat.le_refl _)
        rwa [List.take_of_length_le (Nat.le_refl _)] at this
      have vbF := vb_all ok1 cf1 sm rsx rows.length (Nat.le_refl _)
      have vbG := vb_all ok2 cf2 smG rsG rows.length (Nat.le_refl _)
      have etk : rows.take rows.length = rows := List.take_of_length_le (Nat.le_refl _)
      have lF := vecsOf_len F' rows
      have lG := vecsOf_len G rows
      refine iteF ⟨v, rfl, z, rfl, v, z, F', rows, rfl, Im.mono t4 _ iv, Im.mono t4 _ iz, ok1, ro, jobF, fun D1 ws1 H5 s5 hD1 eD1 iD1 => ?_⟩
      have s45 := s4.trans s5
      have t5 := tk_same s45
      refine ⟨u, rfl, z, rfl, u, z, G, rows, rfl, Im.mono t5 _ iu, Im.mono t5 _ iz, ok2, roG, jobG, fun D2 ws2 H6 s6 hD2 eD2 iD2 => ⟨by show 2 ≤ sizeLine; decide, fun T hT => ?_⟩⟩
      have sT := same_new (o := .tup [.ref D1, .ref D2]) hT
      refine ⟨T, _, rfl, .of upd_same, rfl, .ref D1, _, rfl, .ref D2, _, rfl, rfl, ?_⟩
      have s67 := s6.trans sT
      have e1 := s67 _ _ eD1
      have e2' := sT _ _ eD2
      have iL := ImAll.mono (tk_same s67) _ iD1
      have iR := ImAll.mono (tk_same sT) _ iD2
      have s7 := s45.trans s67
      have i17 := Im.mono (tk_same (s5.trans s67)) _ i14
      generalize upd H6 T (.tup [.ref D1, .ref D2]) = H7 at *
      have t7 := tk_same s7
      have lw1 : ws1.length = (vecsOf F' rows).length := all_len iL
      have lw2 : ws2.length = (vecsOf G rows).length := all_len iR
      refine ⟨.ref p, rfl, z, rfl, .ref p, z, joinF F' G, rows, rfl, i17, Im.mono t7 _ iz, jok, ro, jobJ, fun p3 H8 s8 i8 => ?_⟩
      have s78 := s7.trans s8
      obtain ⟨za, zx, rfl, hza, hzx⟩ := iz.tuple_inv
      have lz : zx.length = rows.length := all_len hzx
      refine ⟨.ref za, rfl, za, zx, rfl, .inr (hza.mono (tk_same s78)).sq, (zx.length : Nat), rfl, by omega, by omega, fun D hD => ?_⟩
      have len32 : ∀ {F : Form} (_ : VB F rows sz rows.length) (ok : FormOk 1 F) (_ : RowsOk F.ks rows), ∀ (n : Nat) v, (vecsOf F rows)[n]? = some v → v.length ≤ 32 := fun {F} vb ok ro n v hv => by
        have hn := (List.getElem?_eq_some_iff.mp hv).1
        rw [vecsOf_len] at hn
        obtain ⟨i, j, kd, m, a, _⟩ := ro.each n _ (List.getElem?_eq_getElem hn)
        have := vb.len n i v (by rw [etk]; exact hv) ⟨_, j, kd, m, List.getElem?_eq_getElem hn, a⟩
        rw [this]
        exact ok.dim_le i
      refine lc_all (walk_range (lo := 0) (n := (zx.length : Int).toNat)) (fun s Hx => Same H8 Hx ∧ ∃ us, Hx D = some (.lst us) ∧ ImAll K Hx us (((vecsOf (joinF F' G) rows).take s).map vD)) ⟨same_new hD, [], upd_same, .nil⟩ (fun _ _ _ _ => trivial) (fun s x Hx Hy hs zz y => ?_) (fun Hx zz => ?_)
      · obtain ⟨s9, us, eD, iD⟩ := zz
        obtain ⟨rfl, rfl⟩ := y
        rw [Int.toNat_natCast] at hs
        have k0 : ((0 : Int) + (s : Nat)) = ((s : Nat) : Int) := by omega
        have h1 : (vecsOf F' rows)[s]? = some ((vecsOf F' rows)[s]) := List.getElem?_eq_getElem (by omega)
        have h2 : (vecsOf G rows)[s]? = some ((vecsOf G rows)[s]) := List.getElem?_eq_getElem (by omega)
        generalize (vecsOf F' rows)[s] = v1 at *
        generalize (vecsOf G rows)[s] = v2 at *
        have s89 := s8.trans s9
        obtain ⟨x1, ex1, ix1⟩ := all_at (ImAll.mono (tk_same s89) _ iL) h1
        obtain ⟨x2, ex2, ix2⟩ := all_at (ImAll.mono (tk_same s89) _ iR) h2
        obtain ⟨q1, y1, rfl, hq1, hy1⟩ := vec_inv ix1
        obtain ⟨q2, y2, rfl, hq2, hy2⟩ := vec_inv ix2
        have l1' := len32 vbF ok1 ro s v1 h1
        have l2' := len32 vbG ok2 roG s v2 h2
        have ly1 : y1.length = v1.length := all_len hy1
        have ly2 : y2.length = v2.length := all_len hy2
        have ejs : (vecsOf (joinF F' G) rows)[s]? = some (v1 ++ v2) := by rw [ej, List.getElem?_zipWith, h1, h2]
        refine ⟨rfl, .ref D1, rfl, .int _, rfl, D1, ws1, _, .ref q1, rfl, rfl, .of (s89 _ _ e1), by rw [k0]; exact atI_nat ex1, .ref D2, rfl, .int _, rfl, D2, ws2, _, .ref q2, rfl, rfl, .of (s89 _ _ e2'), by rw [k0]; exact atI_nat ex2, cat_any hq1 hq2 (by omega) fun p' H9 s10 ip => ?_⟩
        have eD9 := s10 _ _ eD
        refine ⟨us, eD9, small1000 (by rw [all_len iD, List.length_take]; omega), fun b o e => ?_, _, upd_same, ?_⟩
        · rw [upd_ne (ne_of_none e hD)]; exact s10 _ _ (s9 _ _ e)
        · rw [List.take_add_one, ejs, List.map_append]
          refine (ImAll.mono ((tk_same s10).trans (tk_lst eD9)) _ iD).snoc (Im.mono (tk_lst eD9) _ (.tup ip ?_))
          rw [List.map_append]
          exact ImAll.app (ImAll.mono (tk_same s10) _ hy1) (ImAll.mono (tk_same s10) _ hy2)
      · obtain ⟨s9, us, eD, iD⟩ := zz
        have lJ : (vecsOf (joinF F' G) rows).length = zx.length := by rw [vecsOf_len, lz]
        rw [Int.toNat_natCast, ← lJ, List.take_of_length_le (Nat.le_refl _)] at iD
        refine ⟨D, us, rfl, .inl ⟨.of eD, fun l' hl' => ?_⟩⟩
        have sl := same_new (o := .tup us) hl'
        have il : Im K (upd Hx l' (.tup us)) (.ref l') (mD (vecsOf (joinF F' G) rows)) := .tup (.inl upd_same) (ImAll.mono (tk_same sl) _ iD)
        generalize upd Hx l' (.tup us) = H10 at *
        have flm : Fl 6 (mD (vecsOf (joinF F' G) rows)) := (((fl_mat (by rw [vecsOf_len]; omega) fun r hr => by
          obtain ⟨n, hn⟩ := List.getElem?_of_mem hr
          have hl := (List.getElem?_eq_some_iff.mp hn).1
          rw [vecsOf_len] at hl
          rw [ej, List.getElem?_zipWith, List.getElem?_eq_getElem (show n < (vecsOf F' rows).length by omega), List.getElem?_eq_getElem (show n < (vecsOf G rows).length by omega)] at hn
          have e := Option.some.inj hn
          have a1 := len32 vbF ok1 ro n _ (List.getElem?_eq_getElem (by omega))
          have a2 := len32 vbG ok2 roG n _ (List.getElem?_eq_getElem (by omega))
          rw [← e, List.length_append]
          omega : Fl 3 (mD (vecsOf (joinF F' G) rows))).up).up).up
        refine ⟨.ref p3, .ref l', _, rfl, Im.mono (tk_same (s9.trans sl)) _ i8, il, flm, fun H11 s11 => ⟨true, rfl, iteF ?_⟩⟩
        have s711 := s8.trans ((s9.trans sl).trans s11)
        have sA := s7.trans s711
        have e11 := s711 _ _ e1
        have e21 := s711 _ _ e2'
        have iL11 := ImAll.mono (tk_same s711) _ iL
        have iR11 := ImAll.mono (tk_same s711) _ iR
        have ip11 := Im.mono (tk_same s711) _ i17
        clear i8 il iD eD
        have e30 : ∀ n, sz.getD n 0 ≤ 30 := fun n => by
          rw [List.getD_eq_getElem?_getD]
          by_cases hc : n < sz.length
          · rw [List.getElem?_eq_getElem hc]
            exact rsx.s30 _ (List.getElem_mem hc)
          · rw [List.getElem?_eq_none (by omega)]
            exact Nat.zero_le 30
        have up30 : ∀ (n : Nat) {q : Rat}, Sx (EE ^ sz.getD n 0) (sz.getD n 0) q → Sx (EE ^ 30) 30 q := fun n q h => h.mono (Nat.pow_le_pow_right (by decide) (e30 n)) (e30 n)
        have ivA := Im.mono (tk_same sA) _ iv
        have iuA := Im.mono (tk_same sA) _ iu
        obtain ⟨a, x1, x2, x3, x4, rfl, ha, i1', i2', i3', i4'⟩ := im_quad ivA
        obtain ⟨b, w1, w2, w3, w4, rfl, hb, j1', j2', j3', j4'⟩ := im_quad iuA
        obtain ⟨p', z1, z2, z3, z4, epp, hp, k1', k2', k3', k4'⟩ := im_quad ip11
        obtain rfl := V.ref.inj epp
        obtain ⟨ka, kx, rfl, hka, hkx⟩ := i1'.tuple_inv
        obtain ⟨ra, rx, rfl, hra, hrx⟩ := i4'.tuple_inv
        obtain ⟨rb, ry, rfl, hrb, hry⟩ := j4'.tuple_inv
        obtain ⟨rj, rjx, rfl, hrj, hrjx⟩ := k4'.tuple_inv
        have lrx : rx.length = F'.rds.length := all_len hrx
        have rf := ok1.rd.few
        have hzaA := hza.mono (tk_same sA)
        have hzxA := ImAll.mono (tk_same sA) _ hzx
        refine ⟨.ref a, rfl, a, _, 3, _, rfl, rfl, ha.sq, atI_nat (j := 3) rfl, ra, rx, rfl, .inr hra.sq, (rx.length : Nat), rfl, by omega, by omega, ?_⟩
        refine for_it (walk_range (lo := 0) (n := (rx.length : Int).toNat)) (fun n σ Ha => ∃ (y6 y7 y8 y9 : Option V), σ = [some (.ref a), some (.ref b), some (.ref za), some (.ref p), some (.ref D1), some (.ref D2), y6, y7, y8, y9] ∧ Same H11 Ha) ⟨_, _, _, _, rfl, Same.refl _⟩ (fun _ _ _ _ _ => trivial) ?_ ?_
        · rintro n x σ Ha Hb hn ⟨y6, y7, y8, y9, rfl, sa⟩ ⟨rfl, rfl⟩
          rw [Int.toNat_natCast] at hn
          show gName 6 (V.int ((0 : Int) + (n : Nat))) _ _ _
          rw [show (0 : Int) + (n : Nat) = (n : Nat) by omega]
          have hr1 : F'.rds[n]? = some (F'.rds[n]) := List.getElem?_eq_getElem (by omega)
          have hr2 : G.rds[n]? = some (G.rds[n]) := List.getElem?_eq_getElem (by omega)
          have ehd : headD (G.rds[n]'(by omega)) = headD (F'.rds[n]'(by omega)) := by
            have e := congrArg (fun l => l[n]?) er'
            rw [List.getElem?_map, List.getElem?_map, hr1, hr2] at e
            exact Option.some.inj e
          generalize F'.rds[n]'(by omega) = rd1 at *
          generalize G.rds[n]'(by omega) = rd2 at *
          obtain ⟨_, ekn⟩ := head_inj ehd
          have hrJ : (joinF F' G).rds[n]? = some (jrd rd1 rd2) := by
            show (List.zipWith jrd F'.rds G.rds)[n]? = _
            rw [List.getElem?_zipWith, hr1, hr2]
          refine ⟨.ref za, rfl, za, zx, rfl, .inr (hzaA.mono (tk_same sa)).sq, (zx.length : Nat), rfl, by omega, by omega, ?_⟩
          refine for_it (walk_range (lo := 0) (n := (zx.length : Int).toNat)) (fun t σ Ha => ∃ (y7 y8 y9 : Option V), σ = [some (.ref a), some (.ref b), some (.ref za), some (.ref p), some (.ref D1), some (.ref D2), some (.int (n : Nat)), y7, y8, y9] ∧ Same H11 Ha) ⟨_, _, _, rfl, sa⟩ (fun _ _ _ _ _ => trivial) ?_ ?_
          · rintro t x σ Hc Hd' ht ⟨y7, y8, y9, rfl, sc⟩ ⟨rfl, rfl⟩
            rw [Int.toNat_natCast] at ht
            show gName 7 (V.int ((0 : Int) + (t : Nat))) _ _ _
            rw [show (0 : Int) + (t : Nat) = (t : Nat) by omega]
            have hrow : rows[t]? = some (rows[t]'(by omega)) := List.getElem?_eq_getElem (by omega)
            have hL : (vecsOf F' rows)[t]? = some ((vecsOf F' rows)[t]'(by omega)) := List.getElem?_eq_getElem (by omega)
            have hR : (vecsOf G rows)[t]? = some ((vecsOf G rows)[t]'(by omega)) := List.getElem?_eq_getElem (by omega)
            generalize rows[t]'(by omega) = row at *
            generalize (vecsOf F' rows)[t]'(by omega) = Lv at *
            generalize (vecsOf G rows)[t]'(by omega) = Rv at *
            obtain ⟨i, j, kd, m, at', _⟩ := ro.each t row hrow
            have tc := tk_same sc
            obtain ⟨xr, exr, ixr⟩ := all_at (ImAll.mono tc _ hzxA) hrow
            obtain ⟨pr, o1, o2, rfl, hpr, io1, io2⟩ := im_pair ixr
            obtain rfl := io1.str_inv
            refine ⟨.ref a, rfl, a, _, 0, _, rfl, rfl, (ha.mono tc).sq, atI_nat (j := 0) rfl, .ref a, rfl, a, _, 0, _, rfl, rfl, (ha.mono tc).sq, atI_nat (j := 0) rfl, .ref za, rfl, .int (t : Nat), rfl, za, zx, _, .ref pr, rfl, rfl, (hzaA.mono tc).sq, atI_nat exr, pr, _, 0, _, rfl, rfl, hpr.sq, atI_nat (j := 0) rfl, .ref ka, row.1, F'.ks, i, j, kd, m, rfl, Im.mono tc _ i1', ok1.kinds, at'.hk, at'.hm, at'.nm, fun T Hw sw hT => ?_⟩
            have scw := sc.trans sw
            have tw := tk_same scw
            obtain ⟨xk, exk, ixk⟩ := all_at (ImAll.mono tw _ hkx) at'.hk
            obtain ⟨pk, u1, u2, rfl, hpk, iu1, iu2⟩ := im_pair ixk
            obtain rfl := iu1.str_inv
            obtain ⟨xd, exd, ixd⟩ := all_at (ImAll.mono tw _ hrx) hr1
            obtain ⟨pd, d1, d2, d3, rfl, hpd, id1, id2, id3⟩ := im_trip ixd
            obtain rfl := id2.str_inv
            refine ⟨T, _, 0, _, rfl, rfl, hT.sq, atI_nat (j := 0) rfl, ka, kx, _, .ref pk, rfl, rfl, (hka.mono tw).sq, atI_nat exk, pk, _, 0, _, rfl, rfl, hpk.sq, atI_nat (j := 0) rfl, ?_⟩
            refine ⟨.ref a, rfl, a, _, 3, _, rfl, rfl, (ha.mono tw).sq, atI_nat (j := 3) rfl, .int (n : Nat), rfl, ra, rx, _, .ref pd, rfl, rfl, (hra.mono tw).sq, atI_nat exd, pd, _, 1, _, rfl, rfl, hpd.sq, atI_nat (j := 1) rfl, rfl, _, rfl, ?_⟩
            rw [dec_str]
            by_cases hkk : kd.1 = rd1.2.1
            · rw [decide_eq_true hkk]
              have hidx : (F'.ks.map (·.1)).idxOf rd1.2.1 = i := idx_get ok1.kinds.nd (by rw [List.getElem?_map, at'.hk, ← hkk]; rfl)
              have kaF : KindAt F'.ks rows t i := ⟨row, j, kd, m, hrow, at'⟩
              have kaG : KindAt G.ks rows t i := by rw [ek]; exact kaF
              have lL : Lv.length = F'.dims.getD i 0 := vbF.len t i Lv (by rw [etk]; exact hL) kaF
              have lR : Rv.length = G.dims.getD i 0 := vbG.len t i Rv (by rw [etk]; exact hR) kaG
              have l1 := (ok1.rd.kind rd1 (List.mem_of_getElem? hr1)).2
              have l2 := (ok2.rd.kind rd2 (List.mem_of_getElem? hr2)).2
              rw [hidx] at l1
              rw [ek, ekn, hidx] at l2
              have d32 := ok1.dim_le i
              have d32' := ok2.dim_le i
              have c1 : ∀ x ∈ rd1.2.2, Sx 88 1 x := fun x hx => sx_cf (sh1.rcf rd1 (List.mem_of_getElem? hr1) x hx)
              have c2 : ∀ x ∈ rd2.2.2, Sx 88 1 x := fun x hx => sx_cf (sh2.rcf rd2 (List.mem_of_getElem? hr2) x hx)
              have sL : ∀ x ∈ Lv, Sx (EE ^ 30) 30 x := fun x hx => up30 t (vbF.sx t Lv (by rw [etk]; exact hL) x hx)
              have sR : ∀ x ∈ Rv, Sx (EE ^ 30) 30 x := fun x hx => up30 t (vbG.sx t Rv (by rw [etk]; exact hR) x hx)
              obtain ⟨job1, bd1⟩ := dot_job (r := rd1.2.2) (s := Lv) (by omega) (by omega) c1 sL
              obtain ⟨job2, bd2⟩ := dot_job (r := rd2.2.2) (s := Rv) (by omega) (by omega) c2 sR
              obtain ⟨jobX, _⟩ := dot_job (r := rd1.2.2 ++ rd2.2.2.map fun x => -x) (s := Lv ++ Rv) (by simp only [List.length_append, List.length_map]; omega) (by simp only [List.length_append, List.length_map]; omega) (fun x hx => by
                rcases List.mem_append.mp hx with h | h
                · exact c1 x h
                · obtain ⟨y, hy, rfl⟩ := List.mem_map.mp h
                  exact (c2 y hy).neg) (fun x hx => by
                rcases List.mem_append.mp hx with h | h
                · exact sL x h
                · exact sR x h)
              have edot : dot (rd1.2.2 ++ rd2.2.2.map fun x => -x) (Lv ++ Rv) = dot rd1.2.2 Lv + -dot rd2.2.2 Rv := by
                rw [dot_app _ _ (by omega), dot_neg]
              obtain ⟨xL, exL, ixL⟩ := all_at (ImAll.mono tw _ iL11) hL
              refine iteT ⟨.ref a, rfl, a, _, 3, _, rfl, rfl, (ha.mono tw).sq, atI_nat (j := 3) rfl, .int (n : Nat), rfl, ra, rx, _, .ref pd, rfl, rfl, (hra.mono tw).sq, atI_nat exd, pd, _, 2, _, rfl, rfl, hpd.sq, atI_nat (j := 2) rfl, .ref D1, rfl, .int (t : Nat), rfl, D1, ws1, _, xL, rfl, rfl, .of (scw _ _ e11), atI_nat exL, d3, xL, rd1.2.2, Lv, rfl, id3, ixL, job1, fun pl H12 s12 il => ?_⟩
              have s13' := scw.trans s12
              have t13' := tk_same s13'
              obtain ⟨xe, exe, ixe⟩ := all_at (ImAll.mono t13' _ hry) hr2
              obtain ⟨pe, f1, f2, f3, rfl, hpe, if1, if2, if3⟩ := im_trip ixe
              obtain ⟨xR, exR, ixR⟩ := all_at (ImAll.mono t13' _ iR11) hR
              refine ⟨.ref b, rfl, b, _, 3, _, rfl, rfl, (hb.mono t13').sq, atI_nat (j := 3) rfl, .int (n : Nat), rfl, rb, ry, _, .ref pe, rfl, rfl, (hrb.mono t13').sq, atI_nat exe, pe, _, 2, _, rfl, rfl, hpe.sq, atI_nat (j := 2) rfl, .ref D2, rfl, .int (t : Nat), rfl, D2, ws2, _, xR, rfl, rfl, .of (s13' _ _ e21), atI_nat exR, f3, xR, rd2.2.2, Rv, rfl, if3, ixR, job2, fun pr2 H14 s14 ir => ⟨_, _, rfl, ?_⟩⟩
              have s14' := s13'.trans s14
              have t14' := tk_same s14'
              obtain ⟨xj, exj, ixj⟩ := all_at (ImAll.mono t14' _ hrjx) hrJ
              obtain ⟨pj, g1, g2, g3, rfl, hpj, ig1, ig2, ig3⟩ := im_trip ixj
              obtain ⟨xL2, exL2, ixL2⟩ := all_at (ImAll.mono t14' _ iL11) hL
              obtain ⟨xR2, exR2, ixR2⟩ := all_at (ImAll.mono t14' _ iR11) hR
              obtain ⟨qL, yL, rfl, hqL, hyL⟩ := vec_inv ixL2
              obtain ⟨qR, yR, rfl, hqR, hyR⟩ := vec_inv ixR2
              have lyL : yL.length = Lv.length := all_len hyL
              have lyR : yR.length = Rv.length := all_len hyR
              refine ⟨.ref p, rfl, p, _, 3, _, rfl, rfl, (hp.mono t14').sq, atI_nat (j := 3) rfl, .int (n : Nat), rfl, rj, rjx, _, .ref pj, rfl, rfl, (hrj.mono t14').sq, atI_nat exj, pj, _, 2, _, rfl, rfl, hpj.sq, atI_nat (j := 2) rfl, .ref D1, rfl, .int (t : Nat), rfl, D1, ws1, _, .ref qL, rfl, rfl, .of (s14' _ _ e11), atI_nat exL2, .ref D2, rfl, .int (t : Nat), rfl, D2, ws2, _, .ref qR, rfl, rfl, .of (s14' _ _ e21), atI_nat exR2, cat_any hqL hqR (by omega) fun pc H15 s15 ic => ?_⟩
              have iX : Im K H15 (.ref pc) (vD (Lv ++ Rv)) := by
                refine .tup ic ?_
                rw [List.map_append]
                exact ImAll.app (ImAll.mono (tk_same s15) _ hyL) (ImAll.mono (tk_same s15) _ hyR)
              refine ⟨g3, .ref pc, rd1.2.2 ++ rd2.2.2.map fun x => -x, Lv ++ Rv, rfl, Im.mono (tk_same s15) _ ig3, iX, jobX, fun pq H16 s16 iq => ?_⟩
              have irR := Im.mono (tk_same (s15.trans s16)) _ ir
              obtain ⟨px, epx, hpx⟩ := rat_inv irR
              obtain rfl := V.ref.inj epx
              refine ⟨.ref pl, rfl, .ref pr2, rfl, pr2, _, 0, _, rfl, rfl, hpx.sq, atI_nat (j := 0) rfl, _, rfl, .ref pr2, rfl, pr2, _, 1, _, rfl, rfl, hpx.sq, atI_nat (j := 1) rfl, by show 2 ≤ sizeLine; decide, fun T2 hT2 => ?_⟩
              have sT2 := same_new (o := .tup [V.int (-(dot rd2.2.2 Rv).num), .int ((dot rd2.2.2 Rv).den : Int)]) hT2
              have iT2 : Im K (upd H16 T2 (.tup [V.int (-(dot rd2.2.2 Rv).num), .int ((dot rd2.2.2 Rv).den : Int)])) (.ref T2) (rD (-dot rd2.2.2 Rv)) := rat_mk (by rw [Rat.neg_num, Rat.neg_den]; exact .inl upd_same)
              have s1416 := (s14.trans s15).trans (s16.trans sT2)
              have bdn : Bd 4400 4400 (-dot rd2.2.2 Rv) := ⟨by rw [Rat.neg_num, Int.natAbs_neg]; exact bd2.1, by rw [Rat.neg_den]; exact bd2.2⟩
              refine ⟨.ref pl, .ref T2, dot rd1.2.2 Lv, -dot rd2.2.2 Rv, rfl, Im.mono (tk_same s1416) _ il, iT2, bd1, bdn, fun pz H18 s18 iz' => ?_⟩
              rw [edot] at iq
              refine ⟨rD (dot rd1.2.2 Lv + -dot rd2.2.2 Rv), rD (dot rd1.2.2 Lv + -dot rd2.2.2 Rv), Im.dp _ (Im.mono (tk_same (sT2.trans s18)) _ iq), Im.dp _ iz', rfl, rfl, _, rfl, ?_⟩
              rw [SeqAt.eqv_refl _ rfl]
              exact iteF ⟨_, _, _, rfl, s13'.trans (s1416.trans s18)⟩
            · rw [decide_eq_false hkk]
              exact iteF ⟨_, _, _, rfl, scw⟩
          · rintro σ Hc ⟨y7, y8, y9, rfl, sc⟩
            exact ⟨_, _, _, _, rfl, sc⟩
        · rintro σ Ha ⟨y6, y7, y8, y9, rfl, sa⟩
          exact q _ (sA.trans sa)
end
end K63

set_option Elab.async false
set_option linter.all false
set_option maxRecDepth 100000
set_option exponentiation.threshold 20000
set_option pp.deepTerms false
set_option pp.deepTerms.threshold 8
namespace K63
open PySem PySem.Spec PyProof.Rows L2 Ly Mt
section
variable {P : Program} {w : World} {K : PySem.W.Frag} {mg : Str → Option Value} {base : Heap}
def Cell (c : Int) : Prop := ∃ n, n ≤ 1100000 ∧ c.natAbs < 2 ^ n
abbrev s_law : Stmt := topS 88
theorem sc_law : FnScope ["script", "cell", "well", "kinds", "reads", "shapes", "turn", "broad", "dims", "first", "second", "rows", "row"] ["script"] (defScope s_law) := ⟨rfl, rfl, rfl, by decide +kernel, rfl, by decide +kernel, by decide +kernel⟩
def sp_law (K : PySem.W.Frag) : Sp := fun vs H Q _ => ∃ (a : Addr) (ns : List Int), vs = [.ref a] ∧ SqL K H a (ns.map V.int) ∧ ns.length ≤ 63 ∧ (∀ c ∈ ns, Cell c) ∧ ∀ H', Q (.bl true) H'
set_option maxHeartbeats 4000000 in
theorem ok_law {f : Addr} {fd : FuncData} {k : Nat} (F : Fun K "law" "law" s_law f fd) (T : Tx K mg){er : Er} {k1 k2 k3 k4 k5 k6 k7 k8 k9 ka : Nat} (D__law_well : Def P w K mg base k1 "_law_well" s__law_well ["cell"] sp_well) (D__law_kinds : Def P w K mg base k2 "_law_kinds" s__law_kinds ["well", "top", "wide", "numbers"] (sp_kinds K)) (D__law_reads : Def P w K mg base k3 "_law_reads" s__law_reads ["well", "kinds", "many"] (sp_lreads K)) (D__law_rows : Def P w K mg base k4 "_law_rows" s__law_rows ["well", "kinds", "many"] (sp_lrows K)) (D__law_sip : Def P w K mg base k5 "_law_sip" s__law_sip ["well", "many"] sp_sip) (D__law_same : Def P w K mg base k6 "_law_same" s__law_same ["found", "due"] (sp_same K 7)) (D__law_right : Def P w K mg base k7 "_law_right" s__law_right ["first", "second", "rows"] (sp_right K)) (D_joint : DefX P w K mg base k8 "joint" s_joint ["one", "other"] (sp_joint K)) (D__law_broad : Def P w K mg base k9 "_law_broad" s__law_broad ["well", "kinds", "reads"] (sp_broad K)) (D__law_shape : Def P w K mg base ka "_law_shape" s__law_shape ["well", "kinds", "dims", "reads"] (sp_shape K)) (e1 : k1 ≤ k) (e2 : k2 ≤ k) (e3 : k3 ≤ k) (e4 : k4 ≤ k) (e5 : k5 ≤ k) (e6 : k6 ≤ k) (e7 : k7 ≤ k) (e8 : k8 ≤ k) (e9 : k9 ≤ k) (ea : ka ≤ k) : FnOk P w K mg base CX0 (k + 1) f fd ["script"] (sp_law K) := by
  have nd := sc_law.nd
  refine F.ok sc_law (fun vs H Q E h => ?_) (fun cdv A outer s H vs Q E hr h => ?_)
  · obtain ⟨_, _, rfl, _⟩ := h
    rfl
  · obtain ⟨a, ns, rfl, hS, n63, hcell, q⟩ := h
    refine ⟨_, (pss_cons (ps_for PassesOwn.never rfl (kpi_list K (pe_op op_cat (pe_lst (pa_cons pe_int (pa_cons pe_int pa_nil))) (pe_slice sl_list (pv 0) po_none (po_some pe_int)))) (pg_name (i := 1) nd rfl (.inl rfl))
        (pss_cons (ps_set (i := 2) nd rfl (.inr rfl) (pe_def D__law_well (hr.mono (by omega)) rfl (pa_cons (pv 1) pa_nil)))
        (pss_cons (ps_set (i := 3) nd rfl (.inl rfl) (pe_def D__law_kinds (hr.mono (by omega)) rfl (pa_cons (pv 2) (pa_cons pe_int (pa_cons pe_int (pa_cons pe_int pa_nil))))))
        (pss_cons (ps_set (i := 4) nd rfl (.inl rfl) (pe_def D__law_reads (hr.mono (by omega)) rfl (pa_cons (pv 2) (pa_cons (pv 3) (pa_cons (pe_def D__law_sip (hr.mono (by omega)) rfl (pa_cons (pv 2) (pa_cons pe_int pa_nil))) pa_nil)))))
        (pss_cons (ps_set (i := 5) nd rfl (.inl rfl) (pe_lst pa_nil))
        (pss_cons (ps_for PassesOwn.never rfl (pi_range1 rfl T.m_range (pa_cons pe_int pa_nil)) (pg_name (i := 6) nd rfl (.inl rfl))
          (pss_cons (ps_set (i := 7) nd rfl (.inl rfl) (pe_cmpR op_eq (pe_def D__law_sip (hr.mono (by omega)) rfl (pa_cons (pv 2) (pa_cons pe_int pa_nil))) pe_int (nomark _)))
          (pss_cons (ps_setLc (i := 8) (own := [("row", 12)]) (g := gName 12) (tt := tYes) rfl nd rfl rfl (sw_true rfl rfl rfl (by decide +kernel)) (kpi_tup K (pv 3)) (blkOk_by (by rfl)) (fun _ _ _ _ _ => (pg_name (i := 12) nd rfl (.inl rfl))) (fun _ _ _ _ _ => pts_nil) (fun _ _ _ _ _ => (pe_def D__law_sip (hr.mono (by omega)) rfl (pa_cons (pv 2) (pa_cons pe_int pa_nil)))))
          (pss_one (ps_expr (pe_bm PySem.F.plainAttrs_list PySem.F.slot_list_append PySem.F.type_list_append mt_append (pv 5) (pa_cons (pe_ifExp (pt_val (pv 7)) (pe_def D__law_broad (hr.mono (by omega)) rfl (pa_cons (pv 2) (pa_cons (pv 3) (pa_cons (pv 4) pa_nil)))) (pe_def D__law_shape (hr.mono (by omega)) rfl (pa_cons (pv 2) (pa_cons (pv 3) (pa_cons (pv 8) (pa_cons (pv 4) pa_nil)))))) pa_nil)))))))
        (pss_cons (ps_asg (pv 5) (pg_lst rfl (pgs_cons (pg_name (i := 9) nd rfl (.inl rfl)) (pgs_cons (pg_name (i := 10) nd rfl (.inl rfl)) pgs_nil))))
        (pss_cons (ps_set (i := 11) nd rfl (.inl rfl) (pe_def D__law_rows (hr.mono (by omega)) rfl (pa_cons (pv 2) (pa_cons (pv 3) (pa_cons pe_int pa_nil)))))
        (pss_cons (ps_if (PW.pt (pw_or (pt_not (pt_val (pe_def D__law_right (hr.mono (by omega)) rfl (pa_cons (pv 9) (pa_cons (pv 10) (pa_cons (pv 11) pa_nil)))))) (pw_or (pt_not (pt_val (pe_def D__law_right (hr.mono (by omega)) rfl (pa_cons (pv 10) (pa_cons (pv 9) (pa_cons (pv 11) pa_nil)))))) (pw_or1 (pt_not (pt_val (pe_def D__law_right (hr.mono (by omega)) rfl (pa_cons (pv 9) (pa_cons (pv 9) (pa_cons (pv 11) pa_nil))))))))))
          (pss_one (ps_ret pe_bl))
          pss_nil)
        (pss_one (ps_if (pt_not (pt_val (pe_def D__law_same (hr.mono (by omega)) rfl (pa_cons (pe_defKX D_joint takes0 (hr.mono (by omega)) rfl kb_joint_one_other (pk_cons (pv 10) (pk_cons (pv 9) pk_nil))) (pa_cons (pe_defKX D_joint takes0 (hr.mono (by omega)) rfl kb_joint_other_one (pk_cons (pv 9) (pk_cons (pv 10) pk_nil))) pa_nil)))))
          (pss_one (ps_ret pe_bl))
          pss_nil)))))))))))
      (pss_one (ps_ret pe_bl))), ?_⟩
    refine ⟨by show 2 ≤ sizeLine; decide, fun A1 hA1 => ?_⟩
    have s1 := same_new (o := .lst [V.int 6, .int 71]) hA1
    have eA1 : (upd H A1 (.lst [V.int 6, .int 71])) A1 = some (.lst [V.int 6, .int 71]) := upd_same
    generalize upd H A1 (.lst [V.int 6, .int 71]) = H1 at *
    refine ⟨.ref a, rfl, 3, rfl, a, _, rfl, sql_same' hS s1, fun B1 hB1 => ?_⟩
    have eB : cutV (ns.map V.int) none (some 3) = (ns.take 3).map V.int := by
      by_cases h : 3 ≤ ns.length
      · rw [show cutV (ns.map V.int) none (some 3) = (ns.map V.int).take 3 from cut_take (n := 3) (by rw [List.length_map]; exact h), List.map_take]
      · unfold cutV
        have e3 : HT.sIx (ns.map V.int).length (ns.map V.int).length (some 3) = (ns.map V.int).length := by
          rw [show (some (3 : Int)) = some ((3 : Nat) : Int) from rfl, HT.sIx_nat, List.length_map]; omega
        rw [HT.sIx_none, e3, List.drop_zero, Nat.sub_zero, List.take_of_length_le (Nat.le_refl _), List.take_of_length_le (show ns.length ≤ 3 by omega)]
    rw [eB]
    have s2 := same_new (o := .lst ((ns.take 3).map V.int)) hB1
    have eA2 := s2 _ _ eA1
    refine ⟨A1, B1, _, _, rfl, rfl, eA2, upd_same, ?_, fun C hC => ⟨C, rfl, ⟨_, .of upd_same⟩, ?_⟩⟩
    · rw [List.length_map, List.length_take]
      exact Nat.le_trans (show 2 + min 3 ns.length ≤ 1000 by omega) (by decide)
    have eC : ([V.int 6, .int 71] ++ (ns.take 3).map V.int) = (6 :: 71 :: ns.take 3).map V.int := rfl
    rw [eC]
    have cells : ∀ c ∈ 6 :: 71 :: ns.take 3, Cell c := fun c hc => by
      rcases List.mem_cons.mp hc with rfl | hc
      · exact ⟨3, by decide, by decide⟩
      · rcases List.mem_cons.mp hc with rfl | hc
        · exact ⟨7, by decide, by decide⟩
        · exact hcell c (List.mem_of_mem_take hc)
    generalize 6 :: 71 :: ns.take 3 = cs at *
    have eCC : (upd (upd H1 B1 (.lst ((ns.take 3).map V.int))) C (.lst (cs.map V.int))) C = some (.lst (cs.map V.int)) := upd_same
    generalize upd (upd H1 B1 (.lst ((ns.take 3).map V.int))) C (.lst (cs.map V.int)) = H2 at *
    refine for_it (walk_list (xs := cs.map V.int)) (fun i σ Ha => ∃ (y1 y2 y3 y4 y5 y6 y7 y8 y9 y10 y11 : Option V), σ = [some (.ref a), y1, y2, y3, y4, y5, y6, y7, y8, y9, y10, y11, none] ∧ Same H2 Ha) ⟨_, _, _, _, _, _, _, _, _, _, _, rfl, Same.refl _⟩ (fun i σ Ha _ z => ?_) ?_ ?_
    · obtain ⟨_, _, _, _, _, _, _, _, _, _, _, _, sm⟩ := z
      exact .of (sm _ _ eCC)
    · rintro i x σ Ha Hb hi ⟨y1, y2, y3, y4, y5, y6, y7, y8, y9, y10, y11, rfl, sm0⟩ ⟨rfl, hxi⟩
      rw [List.getElem?_map] at hxi
      obtain ⟨c, hc, rfl⟩ := Option.map_eq_some_iff.mp hxi
      obtain ⟨nb, hnb, hcb⟩ := cells c (List.mem_of_getElem? hc)
      refine ⟨.int c, rfl, c, nb, rfl, hnb, hcb, fun wl H3 s3 hwl uw => ?_⟩
      refine ⟨.ref wl, rfl, wl, rfl, uw, fun pk ks H4 u4 b4 ok sm ik => ?_⟩
      refine ⟨.ref wl, rfl, .ref pk, rfl, .ref wl, rfl, wl, 4, rfl, u4, by decide, by decide, fun d5 H5 d50 d54 u5 b5 => ?_⟩
      obtain ⟨n5, rfl⟩ := Int.eq_ofNat_of_zero_le d50
      refine ⟨wl, .ref pk, n5, ks, rfl, u5, by omega, Im.mono (b5.tk u4) _ ik, ok, fun RD rv rs H6 u6 b6 hRD eRD iRD lrs rh => ?_⟩
      have nRD : RD ≠ wl := u5.ne hRD
      have b46 := b5.trans b6
      have ik6 := Im.mono (b46.tk u4) _ ik
      -- what has been made since the turn's start leaves the old heap as it is
      have old : ∀ {H' : Hp}, But wl H3 H' → Same H2 H' := fun {H'} b x o e => by
        have e0 := sm0 _ _ e
        exact b x o (ne_of_none e0 hwl) (s3 _ _ e0)
      have b36 := b4.trans b46
      refine ⟨by show 0 ≤ sizeLine; decide, fun SL hSL => ?_⟩
      have nSL := u6.ne hSL
      have uS := u6.same (same_new (o := .lst []) hSL)
      refine ⟨2, rfl, by decide, by decide, ?_⟩
      refine for_it (walk_range (lo := 0) (n := (2 : Int).toNat)) (fun t σ Hx => ∃ (y6 y7 y8 : Option V) (fv : List V) (fs : List Form), σ = [some (.ref a), some (.int c), some (.ref wl), some (.ref pk), some (.ref RD), some (.ref SL), y6, y7, y8, y9, y10, y11, none] ∧ Well Hx wl ∧ But wl H6 Hx ∧ Hx SL = some (.lst fv) ∧ ImAll K Hx fv (fs.map fmD) ∧ fs.length = t ∧ ∀ F ∈ fs, Shp ks rs F) ⟨_, _, _, [], [], rfl, uS, but_same (same_new hSL), upd_same, .nil, rfl, fun F h => by simp at h⟩ (fun _ _ _ _ _ => trivial) ?_ ?_
      · rintro t x σ Hx Hy ht ⟨y6, y7, y8, fv, fs, rfl, ux, bx, eSL, iS, lt, shp⟩ ⟨rfl, rfl⟩
        have ht2 : t < 2 := ht
        refine ⟨.ref wl, rfl, wl, 3, rfl, ux, by decide, by decide, fun d7 H7 d70 d73 u7 b7 => ⟨rfl, ?_⟩⟩
        have b67 := bx.trans b7
        have ik7 := Im.mono (b67.tk u6) _ ik6
        obtain ⟨pk', kx, epk, hpk, hkx⟩ := ik7.tuple_inv
        obtain rfl := V.ref.inj epk
        have lkx : kx.length = ks.length := all_len hkx
        have kf := sm.few
        refine ⟨.ref pk, rfl, pk, rfl, ⟨_, hpk.sq⟩, fun DL hDL => ?_⟩
        have nDL := u7.ne hDL
        refine lc_all (walk_tup (xs := kx)) (fun s Hz => Well Hz wl ∧ But wl H7 Hz ∧ ∃ ds : List Nat, Hz DL = some (.lst (ds.map fun n : Nat => V.int (n : Nat))) ∧ ds.length = s ∧ ∀ d ∈ ds, d ≤ 3) ⟨u7.same (same_new hDL), but_same (same_new hDL), [], upd_same, rfl, fun d h => by simp at h⟩ (fun s Hz _ z => (hpk.mono (z.2.1.tk u7)).sq) (fun s x Hz Hw hs z y => ?_) (fun Hz z => ?_)
        · obtain ⟨uz, bz, ds, eD, lds, hd⟩ := z
          obtain ⟨rfl, _⟩ := y
          refine ⟨rfl, .ref wl, rfl, wl, 4, rfl, uz, by decide, by decide, fun d8 H8 d80 d84 u8 b8 => ?_⟩
          obtain ⟨n8, rfl⟩ := Int.eq_ofNat_of_zero_le d80
          refine ⟨_, b8 _ _ nDL eD, small1000 (by rw [List.length_map]; omega), u8.upd nDL, fun b o nb e => ?_, ds ++ [n8], ?_, by rw [List.length_append, lds]; rfl, fun d hd' => ?_⟩
          · rw [upd_ne (ne_of_none e hDL)]; exact b8 _ _ nb (bz _ _ nb e)
          · rw [upd_same, List.map_append]; rfl
          · rw [List.mem_append, List.mem_singleton] at hd'
            rcases hd' with hd' | rfl
            · exact hd d hd'
            · omega
        · obtain ⟨uz, bz, ds, eD, lds, hd⟩ := z
          have b6z := b67.trans bz
          have eSz := bz _ _ nSL (b7 _ _ nSL eSL)
          have fin : ∀ (p : Addr) (F : Form) H9, Well H9 wl → But wl Hz H9 → Im K H9 (.ref p) (fmD F) → Shp ks rs F → ∃ l xs v, V.ref SL = .ref l ∧ [V.ref p] = [v] ∧ H9 l = some (.lst xs) ∧ xs.length < sizeLine ∧ (∃ (y6 y7 y8 : Option V) (fv : List V) (fs : List Form), [some (V.ref a), some (.int c), some (.ref wl), some (.ref pk), some (.ref RD), some (.ref SL), some (.int (0 + (t : Nat))), some (.bl (decide (V.int d7 = V.int 0))), some (.ref DL), y9, y10, y11, none] = [some (.ref a), some (.int c), some (.ref wl), some (.ref pk), some (.ref RD), some (.ref SL), y6, y7, y8, y9, y10, y11, none] ∧ Well (upd H9 l (.lst (xs ++ [v]))) wl ∧ But wl H6 (upd H9 l (.lst (xs ++ [v]))) ∧ (upd H9 l (.lst (xs ++ [v]))) SL = some (.lst fv) ∧ ImAll K (upd H9 l (.lst (xs ++ [v]))) fv (fs.map fmD) ∧ fs.length = t + 1 ∧ ∀ F ∈ fs, Shp ks rs F) := fun p F H9 u9 b9 i9 sh => by
            have eS9 := b9 _ _ nSL eSz
            refine ⟨SL, fv, .ref p, rfl, rfl, eS9, small1000 (by rw [all_len iS]; omega), _, _, _, fv ++ [.ref p], fs ++ [F], rfl, u9.upd nSL, fun b o nb e => ?_, upd_same, ?_, by rw [List.length_append, lt]; rfl, fun G hG => ?_⟩
            · rw [upd_ne (ne_of_none e hSL)]
              exact b9 _ _ nb (b6z _ _ nb e)
            · rw [List.map_append]
              exact (ImAll.mono (((b7.trans (bz.trans b9)).tk ux).trans (tk_lst eS9)) _ iS).snoc (Im.mono (tk_lst eS9) _ i9)
            · rw [List.mem_append, List.mem_singleton] at hG
              rcases hG with hG | rfl
              · exact shp G hG
              · exact sh
          have ikz := Im.mono (b6z.tk u6) _ ik6
          have irz := ImAll.mono (b6z.tk u6) _ iRD
          have eRz := b6z _ _ nRD eRD
          refine ⟨.ref SL, rfl, .inl ⟨rfl, _, .of eSz⟩, .bl (decide (V.int d7 = V.int 0)), rfl, _, rfl, ?_⟩
          by_cases hbr : V.int d7 = V.int 0
          · rw [decide_eq_true hbr] at fin ⊢
            refine iteT ⟨.ref wl, rfl, .ref pk, rfl, .ref RD, rfl, wl, .ref pk, RD, ks, rv, rs, rfl, uz, ikz, ok, sm, nRD, eRz, irz, by omega, rh, fun p F H9 u9 b9 i9 sh => fin p F H9 u9 b9 i9 sh⟩
          · rw [decide_eq_false hbr] at fin ⊢
            refine iteF ⟨.ref wl, rfl, .ref pk, rfl, .ref DL, rfl, .ref RD, rfl, wl, .ref pk, DL, RD, ks, ds, rv, rs, rfl, uz, ikz, ok, sm, nDL, nRD, eD, by omega, hd, eRz, irz, by omega, rh, fun p F H9 u9 b9 i9 sh => fin p F H9 u9 b9 i9 sh⟩
      · rintro σ Hx ⟨y6, y7, y8, fv, fs, rfl, ux, bx, eSL, iS, lt, shp⟩
        have lt2 : fs.length = 2 := lt
        obtain ⟨F, G, rfl⟩ : ∃ F G, fs = [F, G] := by
          match fs, lt2 with
          | [x, y], _ => exact ⟨x, y, rfl⟩
        obtain ⟨v1, r1, rfl, i1, ir1⟩ := iS.cons_inv
        obtain ⟨v2, r2, rfl, i2, ir2⟩ := ir1.cons_inv
        obtain rfl := ir2.nil_inv
        have shF := shp F (List.mem_cons_self ..)
        have shG := shp G (List.mem_cons_of_mem _ (List.mem_cons_self ..))
        obtain rfl := shF.hk
        refine ⟨.ref SL, rfl, SL, _, rfl, .of eSL, rfl, v1, _, rfl, v2, _, rfl, rfl, ?_⟩
        refine ⟨.ref wl, rfl, .ref pk, rfl, wl, .ref pk, F.ks, rfl, ux, Im.mono (bx.tk u6) _ ik6, ok, sm, fun pr rows sz hd H7 u7 b7 i7 rsx r10 => ?_⟩
        have t7 := b7.tk ux
        have j1 := Im.mono t7 _ i1
        have j2 := Im.mono t7 _ i2
        have ekG := shG.hk
        have shF' : Shp G.ks rs F := by rw [ekG]; exact shF
        have shG' : Shp G.ks rs G := by rw [ekG]; exact shG
        have smG : Small G.ks := by rw [ekG]; exact sm
        have rsG : RS G.ks rows sz hd := by rw [ekG]; exact rsx
        refine ⟨v1, rfl, v2, rfl, .ref pr, rfl, v1, v2, .ref pr, F, G, rows, rs, sz, hd, rfl, j1, j2, i7, shF, shG, sm, rsx, r10, fun H8 s8 => ⟨true, rfl, iteF ?_⟩⟩
        refine ⟨v2, rfl, v1, rfl, .ref pr, rfl, v2, v1, .ref pr, G, F, rows, rs, sz, hd, rfl, Im.mono (tk_same s8) _ j2, Im.mono (tk_same s8) _ j1, Im.mono (tk_same s8) _ i7, shG', shF', smG, rsG, r10, fun H9 s9 => ⟨true, rfl, iteF ?_⟩⟩
        have s89 := s8.trans s9
        refine ⟨v1, rfl, v1, rfl, .ref pr, rfl, v1, v1, .ref pr, F, F, rows, rs, sz, hd, rfl, Im.mono (tk_same s89) _ j1, Im.mono (tk_same s89) _ j1, Im.mono (tk_same s89) _ i7, shF, shF, sm, rsx, r10, fun H10 s10 => ⟨true, rfl, iteF ?_⟩⟩
        have sA := s89.trans s10
        have tA := tk_same sA
        have ehs := heads_eq shG' shF'
        refine ⟨v2, rfl, v1, rfl, v2, v1, G, F, rfl, Im.mono tA _ j2, Im.mono tA _ j1, shG.ok, shF.ok, ekG.symm, ehs, fun p1 H11 s11 l1 => ?_⟩
        have tB := tk_same (sA.trans s11)
        refine ⟨v1, rfl, v2, rfl, v2, v1, G, F, rfl, Im.mono tB _ j2, Im.mono tB _ j1, shG.ok, shF.ok, ekG.symm, ehs, fun p2 H12 s12 l2 => ?_⟩
        refine ⟨.ref p1, .ref p2, fmD (joinF G F), rfl, Im.mono (tk_same s12) _ l1, l2, fl_form (join_ok shG.ok shF.ok ekG.symm ehs), fun H13 s13 => ⟨true, rfl, iteF ⟨_, _, _, _, _, _, _, _, _, _, _, rfl, ?_⟩⟩⟩
        exact old ((b36.trans (bx.trans b7)).trans (but_same (((sA.trans s11).trans s12).trans s13)))
    · rintro σ Ha ⟨y1, y2, y3, y4, y5, y6, y7, y8, y9, y10, y11, rfl, sm0⟩
      exact q _
end
end K63

set_option Elab.async false
set_option linter.all false
set_option maxRecDepth 100000
namespace K63
open PySem PySem.Spec PyProof.Rows L2 Ly Mt
theorem int_mk {K : PySem.W.Frag} {h : Heap} {mg : Str → Option Value} (X : K.In h) (G : h.Ns mainGlobals mg) {x : Str} {i : Int} {t : Tok} (a : PySem.W.nsIn K mainGlobals x = some (some (.int i t))) : ∃ u, mg x = some u ∧ L2.RelV (.int i) u := ⟨_, PySem.W.mg_of X G a, ⟨_, rfl⟩⟩
theorem str_mk {K : PySem.W.Frag} {h : Heap} {mg : Str → Option Value} (X : K.In h) (G : h.Ns mainGlobals mg) {x z : Str} {t : Tok} (a : PySem.W.nsIn K mainGlobals x = some (some (.str z t))) : ∃ u, mg x = some u ∧ L2.RelV (.str z) u := ⟨_, PySem.W.mg_of X G a, ⟨_, rfl⟩⟩
theorem strs_mk {K : PySem.W.Frag} {h : Heap} {mg : Str → Option Value} (X : K.In h) (G : h.Ns mainGlobals mg) {x : Str} {a : Addr} {i j k : Str} {t u v : Tok} {dd : Option Addr} {n : Nat} {sl : Array (Option Value)}
    (e : PySem.W.nsIn K mainGlobals x = some (some (.ref a))) (l : K.lookup a = some ⟨.type "tuple", dd, .seq #[.str i t, .str j u, .str k v] n, sl⟩) : ∃ a, mg x = some (.ref a) ∧ ∀ H, ITup K H a [.str i, .str j, .str k] :=
  ⟨a, PySem.W.mg_of X G e, fun _ => .inr ⟨_, _, _, l, rfl, rfl, by show 3 ≤ sizeLine; decide, .cons ⟨_, rfl⟩ (.cons ⟨_, rfl⟩ (.cons ⟨_, rfl⟩ .nil))⟩⟩
theorem law_cells {ns : List Int} (h : ∀ z ∈ ns, Builtin.Int.intBits z ≤ 1048576) : ∀ c ∈ ns, Cell c := fun c hc => ⟨1048576, by decide, PySem.intBits_le_iff.mp (h c hc)⟩
structure Te (K : PySem.W.Frag) (mg : Str → Option Value) (br bf bu : Addr) : Prop where
  g_BadRows : mg "BadRows" = some (.ref br)
  x_BadRows : PySem.W.excIn K br [.type "ValueError", .type "Exception", .type "BaseException", .type "object"] "ValueError.__new__" = true
  k_BadRows : PySem.W.keepIn K (.ref br) = true
  b_BadRows : PySem.W.subIn K (.ref br) (.type "BaseException") = some true
  t_BadRows : PySem.W.typeIn K (.ref br) = some (.type "type")
  g_BadForm : mg "BadForm" = some (.ref bf)
  x_BadForm : PySem.W.excIn K bf [.type "ValueError", .type "Exception", .type "BaseException", .type "object"] "ValueError.__new__" = true
  k_BadForm : PySem.W.keepIn K (.ref bf) = true
  b_BadForm : PySem.W.subIn K (.ref bf) (.type "BaseException") = some true
  t_BadForm : PySem.W.typeIn K (.ref bf) = some (.type "type")
  g_Unlike : mg "Unlike" = some (.ref bu)
  x_Unlike : PySem.W.excIn K bu [.type "ValueError", .type "Exception", .type "BaseException", .type "object"] "ValueError.__new__" = true
  k_Unlike : PySem.W.keepIn K (.ref bu) = true
  b_Unlike : PySem.W.subIn K (.ref bu) (.type "BaseException") = some true
  t_Unlike : PySem.W.typeIn K (.ref bu) = some (.type "type")
theorem Te.tr {K : PySem.W.Frag} {mg : Str → Option Value} {br bf bu : Addr} (h : Te K mg br bf bu) : Tr K mg ⟨br, bf, bu⟩ := ⟨h.g_BadRows, h.x_BadRows, h.k_BadRows, h.b_BadRows, h.t_BadRows, h.g_BadForm, h.x_BadForm, h.k_BadForm, h.b_BadForm, h.t_BadForm, h.g_Unlike, h.x_Unlike, h.k_Unlike, h.b_Unlike, h.t_Unlike⟩
set_option maxHeartbeats 0 in
theorem all_mk {l : PySem.W.OpenLaw} {w : World} {K : PySem.W.Frag} {mg : Str → Option Value} {fa br bf bu : Addr} (hfa : mg "law" = some (.ref fa)) (T : Tx K mg) (TE0 : Te K mg br bf bu)
    (h_is_int : Here K mg "is_int" s_is_int) (h_within : Here K mg "within" s_within) (h_is_pair : Here K mg "is_pair" s_is_pair) (h_is_row : Here K mg "is_row" s_is_row) (h_is_name : Here K mg "is_name" s_is_name) (h_is_low : Here K mg "is_low" s_is_low) (h_is_high : Here K mg "is_high" s_is_high) (h_all_unlike : Here K mg "all_unlike" s_all_unlike) (h_is_ratio : Here K mg "is_ratio" s_is_ratio) (h_made : Here K mg "made" s_made) (h_whole : Here K mg "whole" s_whole) (h_plus : Here K mg "plus" s_plus) (h_times : Here K mg "times" s_times) (h_opposite : Here K mg "opposite" s_opposite) (h_is_kinds : Here K mg "is_kinds" s_is_kinds) (h_maker_table : Here K mg "maker_table" s_maker_table) (h_is_entry : Here K mg "is_entry" s_is_entry) (h_rows_fit : Here K mg "rows_fit" s_rows_fit) (h_need_rows : Here K mg "need_rows" s_need_rows) (h_is_vector_of : Here K mg "is_vector_of" s_is_vector_of) (h_are_dims : Here K mg "are_dims" s_are_dims) (h_is_term : Here K mg "is_term" s_is_term) (h_are_terms : Here K mg "are_terms" s_are_terms) (h_are_reads : Here K mg "are_reads" s_are_reads) (h_are_maps : Here K mg "are_maps" s_are_maps) (h_has_form : Here K mg "has_form" s_has_form) (h_widths_of : Here K mg "widths_of" s_widths_of) (h_need_form : Here K mg "need_form" s_need_form) (h_need_wide : Here K mg "need_wide" s_need_wide) (h_vector_over : Here K mg "vector_over" s_vector_over) (h_vecs_of : Here K mg "vecs_of" s_vecs_of) (h_vectors : Here K mg "vectors" s_vectors) (h_are_comparable : Here K mg "are_comparable" s_are_comparable) (h_need_pair : Here K mg "need_pair" s_need_pair) (h_moved : Here K mg "moved" s_moved) (h_joined : Here K mg "joined" s_joined) (h_joint : Here K mg "joint" s_joint) (h__law_well : Here K mg "_law_well" s__law_well) (h__law_sip : Here K mg "_law_sip" s__law_sip) (h__law_ratio : Here K mg "_law_ratio" s__law_ratio) (h__law_plus : Here K mg "_law_plus" s__law_plus) (h__law_times : Here K mg "_law_times" s__law_times) (h__law_dot : Here K mg "_law_dot" s__law_dot) (h__law_same : Here K mg "_law_same" s__law_same) (h__law_heads : Here K mg "_law_heads" s__law_heads) (h__law_kinds : Here K mg "_law_kinds" s__law_kinds) (h__law_reads : Here K mg "_law_reads" s__law_reads) (h__law_place : Here K mg "_law_place" s__law_place) (h__law_widths : Here K mg "_law_widths" s__law_widths) (h__law_choices : Here K mg "_law_choices" s__law_choices) (h__law_number : Here K mg "_law_number" s__law_number) (h__law_told_reads : Here K mg "_law_told_reads" s__law_told_reads) (h__law_shape : Here K mg "_law_shape" s__law_shape) (h__law_made : Here K mg "_law_made" s__law_made) (h__law_where : Here K mg "_law_where" s__law_where) (h__law_parts : Here K mg "_law_parts" s__law_parts) (h__law_vectors : Here K mg "_law_vectors" s__law_vectors) (h__law_rows : Here K mg "_law_rows" s__law_rows) (h__law_joint : Here K mg "_law_joint" s__law_joint) (h__law_gathered : Here K mg "_law_gathered" s__law_gathered) (h__law_broad : Here K mg "_law_broad" s__law_broad) (h__law_right : Here K mg "_law_right" s__law_right) (h_law : Here K mg "law" s_law) :
    ∃ fd : FuncData, (∀ (s : Shared) (v : Value), BindsTo s fd ⟨[v], []⟩ [("script", v)]) ∧ ∀ base : Heap, K.In base → base.Ns mainGlobals mg → FnOk l.prog w K mg base CX0 20 fa fd ["script"] (sp_law K) := by
  obtain ⟨f, fd, hm, F⟩ := h_law
  have e : f = fa := by
    have := hm.symm.trans hfa
    injection this with e1
    injection e1
  subst e
  have TE : Tr K mg ⟨br, bf, bu⟩ := TE0.tr
  refine ⟨fd, fun s v => ?_, fun base _ _ => ?_⟩
  · obtain ⟨oc, od, kV, doc, pm, an, cdv, ct, osl, rfl, lk, hcd⟩ := F.ex
    exact .of_eq rfl
  have D_is_int : Def l.prog w K mg base 1 "is_int" s_is_int ["thing"] (sp_is_int K) := h_is_int.toDef (fun F => ok_is_int F T) fun _ _ _ _ _ _ us hl => match us, hl with | [_], _ => rfl
  have D_is_pair : Def l.prog w K mg base 1 "is_pair" s_is_pair ["thing"] (sp_is_pair K) := h_is_pair.toDef (fun F => ok_is_pair F T) fun _ _ _ _ _ _ us hl => match us, hl with | [_], _ => rfl
  have D_is_ratio : Def l.prog w K mg base 2 "is_ratio" s_is_ratio ["thing"] (sp_is_ratio K) := h_is_ratio.toDef (fun F => ok_is_ratio F T D_is_pair D_is_int (by decide)) fun _ _ _ _ _ _ us hl => match us, hl with | [_], _ => rfl
  have D_within : Def l.prog w K mg base 2 "within" s_within ["thing", "low", "high"] (sp_within K) := h_within.toDef (fun F => ok_within F T D_is_int (by decide)) fun _ _ _ _ _ _ us hl => match us, hl with | [_, _, _], _ => rfl
  have D_is_row : Def l.prog w K mg base 1 "is_row" s_is_row ["thing", "low", "high"] (sp_is_row K) := h_is_row.toDef (fun F => ok_is_row F T) fun _ _ _ _ _ _ us hl => match us, hl with | [_, _, _], _ => rfl
  have D_is_name : Def l.prog w K mg base 1 "is_name" s_is_name ["thing"] sp_is_name := h_is_name.toDef (fun F => ok_is_name F T) fun _ _ _ _ _ _ us hl => match us, hl with | [_], _ => rfl
  have D_is_low : Def l.prog w K mg base 2 "is_low" s_is_low ["thing"] sp_is_low := h_is_low.toDef (fun F => ok_is_low F T D_is_name (by decide)) fun _ _ _ _ _ _ us hl => match us, hl with | [_], _ => rfl
  have D_is_high : Def l.prog w K mg base 2 "is_high" s_is_high ["thing"] sp_is_high := h_is_high.toDef (fun F => ok_is_high F T D_is_name (by decide)) fun _ _ _ _ _ _ us hl => match us, hl with | [_], _ => rfl
  have D_all_unlike : Def l.prog w K mg base 1 "all_unlike" s_all_unlike ["names"] (sp_unlike K) := h_all_unlike.toDef (fun F => ok_all_unlike F T) fun _ _ _ _ _ _ us hl => match us, hl with | [_], _ => rfl
  have D_is_kinds : Def l.prog w K mg base 3 "is_kinds" s_is_kinds ["thing"] (sp_is_kinds K) := h_is_kinds.toDef (fun F => ok_is_kinds F T D_is_row D_is_pair D_is_high D_all_unlike (by decide) (by decide) (by decide) (by decide)) fun _ _ _ _ _ _ us hl => match us, hl with | [_], _ => rfl
  have D_maker_table : Def l.prog w K mg base 1 "maker_table" s_maker_table ["kinds"] (sp_maker_table K) := h_maker_table.toDef (fun F => ok_maker_table F T) fun _ _ _ _ _ _ us hl => match us, hl with | [_], _ => rfl
  have D_made : Def l.prog w K mg base 1 "made" s_made ["top", "bottom"] sp_made := h_made.toDef (fun F => ok_made F T) fun _ _ _ _ _ _ us hl => match us, hl with | [_, _], _ => rfl
  have D_plus : Def l.prog w K mg base 2 "plus" s_plus ["one", "other"] (sp_plus K) := h_plus.toDef (fun F => ok_plus F T D_made (by decide)) fun _ _ _ _ _ _ us hl => match us, hl with | [_, _], _ => rfl
  have D_times : Def l.prog w K mg base 2 "times" s_times ["one", "other"] (sp_times K) := h_times.toDef (fun F => ok_times F T D_made (by decide)) fun _ _ _ _ _ _ us hl => match us, hl with | [_, _], _ => rfl
  have D_opposite : Def l.prog w K mg base 1 "opposite" s_opposite ["one"] (sp_opposite K) := h_opposite.toDef (fun F => ok_opposite F T) fun _ _ _ _ _ _ us hl => match us, hl with | [_], _ => rfl
  have D_whole : Def l.prog w K mg base 1 "whole" s_whole ["number"] (sp_whole K) := h_whole.toDef (fun F => ok_whole F T) fun _ _ _ _ _ _ us hl => match us, hl with | [_], _ => rfl
  have D_is_vector_of : Def l.prog w K mg base 3 "is_vector_of" s_is_vector_of ["thing", "size"] (sp_vec_of K) := h_is_vector_of.toDef (fun F => ok_is_vector_of F T D_is_row D_is_ratio (by decide) (by decide)) fun _ _ _ _ _ _ us hl => match us, hl with | [_, _], _ => rfl
  have D_widths_of : Def l.prog w K mg base 1 "widths_of" s_widths_of ["fields", "dims"] (sp_widths K) := h_widths_of.toDef (fun F => ok_widths_of F T) fun _ _ _ _ _ _ us hl => match us, hl with | [_, _], _ => rfl
  have D_are_dims : Def l.prog w K mg base 3 "are_dims" s_are_dims ["thing", "size", "wide"] (sp_dims K) := h_are_dims.toDef (fun F => ok_are_dims F T D_is_row D_within (by decide) (by decide)) fun _ _ _ _ _ _ us hl => match us, hl with | [_, _, _], _ => rfl
  have D_is_term : Def l.prog w K mg base 3 "is_term" s_is_term ["thing", "dim", "widths"] (sp_term K) := h_is_term.toDef (fun F => ok_is_term F T D_is_row D_within D_is_ratio (by decide) (by decide) (by decide)) fun _ _ _ _ _ _ us hl => match us, hl with | [_, _, _], _ => rfl
  have D_are_terms : Def l.prog w K mg base 4 "are_terms" s_are_terms ["thing", "dim", "widths", "most"] (sp_terms K) := h_are_terms.toDef (fun F => ok_are_terms F T D_is_row D_is_term (by decide) (by decide)) fun _ _ _ _ _ _ us hl => match us, hl with | [_, _, _, _], _ => rfl
  have D_are_reads : Def l.prog w K mg base 4 "are_reads" s_are_reads ["thing", "kinds", "dims"] (sp_reads K) := h_are_reads.toDef (fun F => ok_are_reads F T D_is_row D_is_vector_of D_is_low D_all_unlike (by decide) (by decide) (by decide) (by decide)) fun _ _ _ _ _ _ us hl => match us, hl with | [_, _, _], _ => rfl
  have D_are_maps : Def l.prog w K mg base 5 "are_maps" s_are_maps ["thing", "kinds", "dims", "most"] (sp_maps K) := h_are_maps.toDef (fun F => ok_are_maps F T D_is_row D_maker_table D_are_terms D_widths_of (by decide) (by decide) (by decide) (by decide)) fun _ _ _ _ _ _ us hl => match us, hl with | [_, _, _, _], _ => rfl
  have D_has_form : Def l.prog w K mg base 6 "has_form" s_has_form ["thing", "wide"] (sp_has_form K) := h_has_form.toDef (fun F => ok_has_form F T D_is_row D_is_kinds D_are_dims D_are_maps D_are_reads (by decide) (by decide) (by decide) (by decide) (by decide)) fun _ _ _ _ _ _ us hl => match us, hl with | [_, _], _ => rfl
  have D_need_form : DefX l.prog w K mg base 7 "need_form" s_need_form ["form"] (sp_need_form K 1) := h_need_form.toDefX (fun F => ok_need_form F T TE D_has_form (by decide)) fun _ _ _ _ _ _ us hl => match us, hl with | [_], _ => rfl
  have D_need_wide : DefX l.prog w K mg base 7 "need_wide" s_need_wide ["form"] (sp_need_form K 2) := h_need_wide.toDefX (fun F => ok_need_wide F T TE D_has_form (by decide)) fun _ _ _ _ _ _ us hl => match us, hl with | [_], _ => rfl
  have D_is_entry : Def l.prog w K mg base 2 "is_entry" s_is_entry ["table", "rows", "field", "entry", "at"] (sp_entry K) := h_is_entry.toDef (fun F => ok_is_entry F T D_is_int (by decide)) fun _ _ _ _ _ _ us hl => match us, hl with | [_, _, _, _, _], _ => rfl
  have D_rows_fit : Def l.prog w K mg base 3 "rows_fit" s_rows_fit ["table", "thing"] (sp_rows_fit K) := h_rows_fit.toDef (fun F => ok_rows_fit F T D_is_row D_is_pair D_is_entry (by decide) (by decide) (by decide)) fun _ _ _ _ _ _ us hl => match us, hl with | [_, _], _ => rfl
  have D_need_rows : DefX l.prog w K mg base 4 "need_rows" s_need_rows ["kinds", "rows"] (sp_need_rows K) := h_need_rows.toDefX (fun F => ok_need_rows F T TE D_rows_fit D_maker_table (by decide) (by decide)) fun _ _ _ _ _ _ us hl => match us, hl with | [_, _], _ => rfl
  have D_vector_over : Def l.prog w K mg base 3 "vector_over" s_vector_over ["form", "kind", "maker", "entries"] (sp_vover K) := h_vector_over.toDef (fun F => ok_vector_over F T D_times D_plus (by decide) (by decide)) fun _ _ _ _ _ _ us hl => match us, hl with | [_, _, _, _], _ => rfl
  have D_vecs_of : Def l.prog w K mg base 4 "vecs_of" s_vecs_of ["form", "rows"] (sp_vecs K) := h_vecs_of.toDef (fun F => ok_vecs_of F T D_maker_table D_vector_over D_whole (by decide) (by decide) (by decide)) fun _ _ _ _ _ _ us hl => match us, hl with | [_, _], _ => rfl
  have D_vectors : DefX l.prog w K mg base 8 "vectors" s_vectors ["form", "rows"] (sp_vectors K) := h_vectors.toDefX (fun F => ok_vectors F T D_need_wide D_need_rows D_vecs_of (by decide) (by decide) (by decide)) fun _ _ _ _ _ _ us hl => match us, hl with | [_, _], _ => rfl
  have D_are_comparable : Def l.prog w K mg base 1 "are_comparable" s_are_comparable ["one", "other"] (sp_comp K) := h_are_comparable.toDef (fun F => ok_are_comparable F T) fun _ _ _ _ _ _ us hl => match us, hl with | [_, _], _ => rfl
  have D_need_pair : DefX l.prog w K mg base 8 "need_pair" s_need_pair ["one", "other"] (sp_need_pair K) := h_need_pair.toDefX (fun F => ok_need_pair F T TE D_need_form D_are_comparable (by decide) (by decide)) fun _ _ _ _ _ _ us hl => match us, hl with | [_, _], _ => rfl
  have D_moved : Def l.prog w K mg base 1 "moved" s_moved ["term", "by", "steps"] (sp_moved K) := h_moved.toDef (fun F => ok_moved F T) fun _ _ _ _ _ _ us hl => match us, hl with | [_, _, _], _ => rfl
  have D_joined : Def l.prog w K mg base 2 "joined" s_joined ["one", "other"] (sp_joined K) := h_joined.toDef (fun F => ok_joined F T D_maker_table D_moved D_opposite (by decide) (by decide) (by decide)) fun _ _ _ _ _ _ us hl => match us, hl with | [_, _], _ => rfl
  have D_joint : DefX l.prog w K mg base 9 "joint" s_joint ["one", "other"] (sp_joint K) := h_joint.toDefX (fun F => ok_joint F T D_need_pair D_joined (by decide) (by decide)) fun _ _ _ _ _ _ us hl => match us, hl with | [_, _], _ => rfl
  have D__law_well : Def l.prog w K mg base 1 "_law_well" s__law_well ["cell"] sp_well := h__law_well.toDef (fun F => ok__law_well F T) fun _ _ _ _ _ _ us hl => match us, hl with | [_], _ => rfl
  have D__law_sip : Def l.prog w K mg base 1 "_law_sip" s__law_sip ["well", "many"] sp_sip := h__law_sip.toDef (fun F => ok__law_sip F T) fun _ _ _ _ _ _ us hl => match us, hl with | [_, _], _ => rfl
  have D__law_ratio : Def l.prog w K mg base 1 "_law_ratio" s__law_ratio ["top", "bottom"] (sp_ratio K) := h__law_ratio.toDef (fun F => ok__law_ratio F T) fun _ _ _ _ _ _ us hl => match us, hl with | [_, _], _ => rfl
  have D__law_plus : Def l.prog w K mg base 2 "_law_plus" s__law_plus ["x", "y"] (sp_lplus K) := h__law_plus.toDef (fun F => ok__law_plus F T D__law_ratio (by decide)) fun _ _ _ _ _ _ us hl => match us, hl with | [_, _], _ => rfl
  have D__law_times : Def l.prog w K mg base 2 "_law_times" s__law_times ["x", "y"] (sp_ltimes K) := h__law_times.toDef (fun F => ok__law_times F T D__law_ratio (by decide)) fun _ _ _ _ _ _ us hl => match us, hl with | [_, _], _ => rfl
  have D__law_dot : Def l.prog w K mg base 3 "_law_dot" s__law_dot ["xs", "ys"] (sp_dot K) := h__law_dot.toDef (fun F => ok__law_dot F T D__law_plus D__law_times (by decide) (by decide)) fun _ _ _ _ _ _ us hl => match us, hl with | [_, _], _ => rfl
  have b__law_same : ∀ (kV doc pm : Value) (an : Option Addr) (cdv ct : Value) (us : List Value), us.length = (["found", "due"] : List Str).length → bindArgs (PySem.W.fnOf "_law_same" "_law_same" (defArgs s__law_same) (defBody s__law_same) (defScope s__law_same) .none kV doc pm an cdv ct) ⟨us, []⟩ = pure ((["found", "due"] : List Str).zip us) := fun _ _ _ _ _ _ us hl => match us, hl with | [_, _], _ => rfl
  have law_same_0 : Def l.prog w K mg base 1 "_law_same" s__law_same ["found", "due"] (sp_same K 0) := h__law_same.toDef (fun F => ok_same0 F) b__law_same
  have law_same_1 : Def l.prog w K mg base 2 "_law_same" s__law_same ["found", "due"] (sp_same K 1) := h__law_same.toDef (fun F => ok__law_same F T  law_same_0 (by decide)) b__law_same
  have law_same_2 : Def l.prog w K mg base 3 "_law_same" s__law_same ["found", "due"] (sp_same K 2) := h__law_same.toDef (fun F => ok__law_same F T  law_same_1 (by decide)) b__law_same
  have law_same_3 : Def l.prog w K mg base 4 "_law_same" s__law_same ["found", "due"] (sp_same K 3) := h__law_same.toDef (fun F => ok__law_same F T  law_same_2 (by decide)) b__law_same
  have law_same_4 : Def l.prog w K mg base 5 "_law_same" s__law_same ["found", "due"] (sp_same K 4) := h__law_same.toDef (fun F => ok__law_same F T  law_same_3 (by decide)) b__law_same
  have law_same_5 : Def l.prog w K mg base 6 "_law_same" s__law_same ["found", "due"] (sp_same K 5) := h__law_same.toDef (fun F => ok__law_same F T  law_same_4 (by decide)) b__law_same
  have law_same_6 : Def l.prog w K mg base 7 "_law_same" s__law_same ["found", "due"] (sp_same K 6) := h__law_same.toDef (fun F => ok__law_same F T  law_same_5 (by decide)) b__law_same
  have D__law_same : Def l.prog w K mg base 8 "_law_same" s__law_same ["found", "due"] (sp_same K 7) := h__law_same.toDef (fun F => ok__law_same F T  law_same_6 (by decide)) b__law_same
  have D__law_heads : Def l.prog w K mg base 2 "_law_heads" s__law_heads ["well", "many"] sp_heads := h__law_heads.toDef (fun F => ok__law_heads F T D__law_sip (by decide)) fun _ _ _ _ _ _ us hl => match us, hl with | [_, _], _ => rfl
  have D__law_kinds : Def l.prog w K mg base 3 "_law_kinds" s__law_kinds ["well", "top", "wide", "numbers"] (sp_kinds K) := h__law_kinds.toDef (fun F => ok__law_kinds F T D__law_sip D__law_heads (by decide) (by decide)) fun _ _ _ _ _ _ us hl => match us, hl with | [_, _, _, _], _ => rfl
  have D__law_number : Def l.prog w K mg base 2 "_law_number" s__law_number ["well"] (sp_number K) := h__law_number.toDef (fun F => ok__law_number F T D__law_ratio D__law_sip (by decide) (by decide)) fun _ _ _ _ _ _ us hl => match us, hl with | [_], _ => rfl
  have D__law_reads : Def l.prog w K mg base 3 "_law_reads" s__law_reads ["well", "kinds", "many"] (sp_lreads K) := h__law_reads.toDef (fun F => ok__law_reads F T D__law_sip D__law_heads (by decide) (by decide)) fun _ _ _ _ _ _ us hl => match us, hl with | [_, _, _], _ => rfl
  have D__law_place : Def l.prog w K mg base 1 "_law_place" s__law_place ["kinds", "head"] (sp_place K) := h__law_place.toDef (fun F => ok__law_place F T) fun _ _ _ _ _ _ us hl => match us, hl with | [_, _], _ => rfl
  have D__law_widths : Def l.prog w K mg base 2 "_law_widths" s__law_widths ["kinds", "dims", "fields"] (sp_lwidths K) := h__law_widths.toDef (fun F => ok__law_widths F T D__law_place (by decide)) fun _ _ _ _ _ _ us hl => match us, hl with | [_, _, _], _ => rfl
  have D__law_choices : Def l.prog w K mg base 1 "_law_choices" s__law_choices ["sizes"] (sp_choices K) := h__law_choices.toDef (fun F => ok__law_choices F T) fun _ _ _ _ _ _ us hl => match us, hl with | [_], _ => rfl
  have D__law_told_reads : Def l.prog w K mg base 3 "_law_told_reads" s__law_told_reads ["well", "kinds", "dims", "reads"] (sp_told K) := h__law_told_reads.toDef (fun F => ok__law_told_reads F T D__law_sip D__law_place D__law_number (by decide) (by decide) (by decide)) fun _ _ _ _ _ _ us hl => match us, hl with | [_, _, _, _], _ => rfl
  have D__law_shape : Def l.prog w K mg base 4 "_law_shape" s__law_shape ["well", "kinds", "dims", "reads"] (sp_shape K) := h__law_shape.toDef (fun F => ok__law_shape F T D__law_sip D__law_choices D__law_number D__law_widths D__law_told_reads (by decide) (by decide) (by decide) (by decide) (by decide)) fun _ _ _ _ _ _ us hl => match us, hl with | [_, _, _, _], _ => rfl
  have D__law_made : Def l.prog w K mg base 3 "_law_made" s__law_made ["shape", "k", "m", "parts"] (sp_vover K) := h__law_made.toDef (fun F => ok__law_made F T D__law_plus D__law_times (by decide) (by decide)) fun _ _ _ _ _ _ us hl => match us, hl with | [_, _, _, _], _ => rfl
  have D__law_where : Def l.prog w K mg base 1 "_law_where" s__law_where ["kinds", "word"] (sp_where K) := h__law_where.toDef (fun F => ok__law_where F T) fun _ _ _ _ _ _ us hl => match us, hl with | [_, _], _ => rfl
  have D__law_parts : Def l.prog w K mg base 1 "_law_parts" s__law_parts ["fields", "entries", "found"] (sp_parts K) := h__law_parts.toDef (fun F => ok__law_parts F T) fun _ _ _ _ _ _ us hl => match us, hl with | [_, _, _], _ => rfl
  have D__law_vectors : Def l.prog w K mg base 4 "_law_vectors" s__law_vectors ["shape", "rows"] (sp_lvectors K) := h__law_vectors.toDef (fun F => ok__law_vectors F T D__law_where D__law_made D__law_parts (by decide) (by decide) (by decide)) fun _ _ _ _ _ _ us hl => match us, hl with | [_, _], _ => rfl
  have D__law_rows : Def l.prog w K mg base 2 "_law_rows" s__law_rows ["well", "kinds", "many"] (sp_lrows K) := h__law_rows.toDef (fun F => ok__law_rows F T D__law_sip (by decide)) fun _ _ _ _ _ _ us hl => match us, hl with | [_, _, _], _ => rfl
  have D__law_joint : Def l.prog w K mg base 2 "_law_joint" s__law_joint ["first", "second"] (sp_joined K) := h__law_joint.toDef (fun F => ok__law_joint F T D__law_place (by decide)) fun _ _ _ _ _ _ us hl => match us, hl with | [_, _], _ => rfl
  have D__law_gathered : Def l.prog w K mg base 3 "_law_gathered" s__law_gathered ["terms"] (sp_gath K) := h__law_gathered.toDef (fun F => ok__law_gathered F T D__law_plus (by decide)) fun _ _ _ _ _ _ us hl => match us, hl with | [_], _ => rfl
  have D__law_broad : Def l.prog w K mg base 4 "_law_broad" s__law_broad ["well", "kinds", "reads"] (sp_broad K) := h__law_broad.toDef (fun F => ok__law_broad F T D__law_sip D__law_gathered D__law_number D__law_widths D__law_told_reads (by decide) (by decide) (by decide) (by decide) (by decide)) fun _ _ _ _ _ _ us hl => match us, hl with | [_, _, _], _ => rfl
  have D__law_right : Def l.prog w K mg base 10 "_law_right" s__law_right ["first", "second", "rows"] (sp_right K) := h__law_right.toDef (fun F => ok__law_right F T (er := ⟨br, bf, bu⟩) D_joint D__law_same D__law_joint D__law_vectors D_vectors D__law_where D__law_dot D__law_plus (by decide) (by decide) (by decide) (by decide) (by decide) (by decide) (by decide) (by decide)) fun _ _ _ _ _ _ us hl => match us, hl with | [_, _, _], _ => rfl
  exact ok_law F T (er := ⟨br, bf, bu⟩) D__law_well D__law_kinds D__law_reads D__law_rows D__law_sip D__law_same D__law_right D_joint D__law_broad D__law_shape (by decide) (by decide) (by decide) (by decide) (by decide) (by decide) (by decide) (by decide) (by decide) (by decide)
end K63

set_option Elab.async false
set_option linter.all false
set_option maxRecDepth 100000
open PySem PySem.W PyProof.Rows
set_option maxHeartbeats 0 in
theorem PySem.Challenge.cw_sameontrees_k63_joint_forms_side_by_side_holds : PySem.Challenge.rw_sameontrees_k63_joint_forms_side_by_side.Holds := by
  w_on; o_law; k_head; (case hw => w_witness2)
  k_fill
  refine L2.walk_ofB (l := PySem.Challenge.rw_sameontrees_k63_joint_forms_side_by_side) (n := 63) (k := 20) (x := "script") (CX := fun _ => L2.CX0) (sp := fun w => K63.sp_law _) rfl (by decide) rfl ⟨rfl, by decide, by decide⟩ (fun w h Y => PySem.W.kIn_of Y) ?F (fun _ _ a ns hl hb _ hS => ⟨a, ns, rfl, hS, hl, K63.law_cells hb, fun _ => rfl⟩) (fun _ _ _ _ _ h => h)
  case F =>
    intro w mg fa h KX G hmg
    refine' K63.all_mk hmg ⟨PySem.W.mg_none_of KX G ?z0, PySem.W.mg_none_of KX G ?z1, PySem.W.mg_none_of KX G ?z2, PySem.W.mg_none_of KX G ?z3, PySem.W.mg_none_of KX G ?z4, PySem.W.mg_none_of KX G ?z5, PySem.W.mg_none_of KX G ?z6, PySem.W.mg_none_of KX G ?z7, PySem.W.mg_none_of KX G ?z8, PySem.W.mg_none_of KX G ?z9, PySem.W.mg_none_of KX G ?z10, PySem.W.mg_none_of KX G ?z11, PySem.W.mg_none_of KX G ?z12, PySem.W.mg_none_of KX G ?z13, PySem.W.mg_none_of KX G ?z14, PySem.W.mg_none_of KX G ?z15, PySem.W.mg_of KX G ?gg, K63.int_mk KX G ?gi0, K63.int_mk KX G ?gi1, K63.int_mk KX G ?gi2, K63.int_mk KX G ?gi3, K63.int_mk KX G ?gi4, K63.int_mk KX G ?gi5, K63.int_mk KX G ?gi6, K63.str_mk KX G ?gs0, K63.str_mk KX G ?gs1, K63.str_mk KX G ?gs2, Ly.pair_mk KX G ?g3 ?g4, Ly.pair_mk KX G ?g5 ?g6, K63.strs_mk KX G ?g7 ?g8⟩ ⟨PySem.W.mg_of KX G ?ge_r, ?x_r, ?k_r, ?b_r, ?t_r, PySem.W.mg_of KX G ?ge_f, ?x_f, ?k_f, ?b_f, ?t_f, PySem.W.mg_of KX G ?ge_u, ?x_u, ?k_u, ?b_u, ?t_u⟩ (Ly.here KX G ?a0 ?l0 ?c0 ?k0) (Ly.here KX G ?a1 ?l1 ?c1 ?k1) (Ly.here KX G ?a2 ?l2 ?c2 ?k2) (Ly.here KX G ?a3 ?l3 ?c3 ?k3) (Ly.here KX G ?a4 ?l4 ?c4 ?k4) (Ly.here KX G ?a5 ?l5 ?c5 ?k5) (Ly.here KX G ?a6 ?l6 ?c6 ?k6) (Ly.here KX G ?a7 ?l7 ?c7 ?k7) (Ly.here KX G ?a8 ?l8 ?c8 ?k8) (Ly.here KX G ?a9 ?l9 ?c9 ?k9) (Ly.here KX G ?a10 ?l10 ?c10 ?k10) (Ly.here KX G ?a11 ?l11 ?c11 ?k11) (Ly.here KX G ?a12 ?l12 ?c12 ?k12) (Ly.here KX G ?a13 ?l13 ?c13 ?k13) (Ly.here KX G ?a14 ?l14 ?c14 ?k14) (Ly.here KX G ?a15 ?l15 ?c15 ?k15) (Ly.here KX G ?a16 ?l16 ?c16 ?k16) (Ly.here KX G ?a17 ?l17 ?c17 ?k17) (Ly.here KX G ?a18 ?l18 ?c18 ?k18) (Ly.here KX G ?a19 ?l19 ?c19 ?k19) (Ly.here KX G ?a20 ?l20 ?c20 ?k20) (Ly.here KX G ?a21 ?l21 ?c21 ?k21) (Ly.here KX G ?a22 ?l22 ?c22 ?k22) (Ly.here KX G ?a23 ?l23 ?c23 ?k23) (Ly.here KX G ?a24 ?l24 ?c24 ?k24) (Ly.here KX G ?a25 ?l25 ?c25 ?k25) (Ly.here KX G ?a26 ?l26 ?c26 ?k26) (Ly.here KX G ?a27 ?l27 ?c27 ?k27) (Ly.here KX G ?a28 ?l28 ?c28 ?k28) (Ly.here KX G ?a29 ?l29 ?c29 ?k29) (Ly.here KX G ?a30 ?l30 ?c30 ?k30) (Ly.here KX G ?a31 ?l31 ?c31 ?k31) (Ly.here KX G ?a32 ?l32 ?c32 ?k32) (Ly.here KX G ?a33 ?l33 ?c33 ?k33) (Ly.here KX G ?a34 ?l34 ?c34 ?k34) (Ly.here KX G ?a35 ?l35 ?c35 ?k35) (Ly.here KX G ?a36 ?l36 ?c36 ?k36) (Ly.here KX G ?a37 ?l37 ?c37 ?k37) (Ly.here KX G ?a38 ?l38 ?c38 ?k38) (Ly.here KX G ?a39 ?l39 ?c39 ?k39) (Ly.here KX G ?a40 ?l40 ?c40 ?k40) (Ly.here KX G ?a41 ?l41 ?c41 ?k41) (Ly.here KX G ?a42 ?l42 ?c42 ?k42) (Ly.here KX G ?a43 ?l43 ?c43 ?k43) (Ly.here KX G ?a44 ?l44 ?c44 ?k44) (Ly.here KX G ?a45 ?l45 ?c45 ?k45) (Ly.here KX G ?a46 ?l46 ?c46 ?k46) (Ly.here KX G ?a47 ?l47 ?c47 ?k47) (Ly.here KX G ?a48 ?l48 ?c48 ?k48) (Ly.here KX G ?a49 ?l49 ?c49 ?k49) (Ly.here KX G ?a50 ?l50 ?c50 ?k50) (Ly.here KX G ?a51 ?l51 ?c51 ?k51) (Ly.here KX G ?a52 ?l52 ?c52 ?k52) (Ly.here KX G ?a53 ?l53 ?c53 ?k53) (Ly.here KX G ?a54 ?l54 ?c54 ?k54) (Ly.here KX G ?a55 ?l55 ?c55 ?k55) (Ly.here KX G ?a56 ?l56 ?c56 ?k56) (Ly.here KX G ?a57 ?l57 ?c57 ?k57) (Ly.here KX G ?a58 ?l58 ?c58 ?k58) (Ly.here KX G ?a59 ?l59 ?c59 ?k59) (Ly.here KX G ?a60 ?l60 ?c60 ?k60) (Ly.here KX G ?a61 ?l61 ?c61 ?k61) (Ly.here KX G ?a62 ?l62 ?c62 ?k62)
    (case ge_r => k_is)
    (case ge_f => k_is)
    (case ge_u => k_is)
    (case a0 => k_is)
    (case l0 => k_is)
    (case c0 => k_is)
    (case k0 => k_is)
    (case a1 => k_is)
    (case l1 => k_is)
    (case c1 => k_is)
    (case k1 => k_is)
    (case a2 => k_is)
    (case l2 => k_is)
    (case c2 => k_is)
    (case k2 => k_is)
    (case a3 => k_is)
    (case l3 => k_is)
    (case c3 => k_is)
    (case k3 => k_is)
    (case a4 => k_is)
    (case l4 => k_is)
    (case c4 => k_is)
    (case k4 => k_is)
    (case a5 => k_is)
    (case l5 => k_is)
    (case c5 => k_is)
    (case k5 => k_is)
    (case a6 => k_is)
    (case l6 => k_is)
    (case c6 => k_is)
    (case k6 => k_is)
    (case a7 => k_is)
    (case l7 => k_is)
    (case c7 => k_is)
    (case k7 => k_is)
    (case a8 => k_is)
    (case l8 => k_is)
    (case c8 => k_is)
    (case k8 => k_is)
    (case a9 => k_is)
    (case l9 => k_is)
    (case c9 => k_is)
    (case k9 => k_is)
    (case a10 => k_is)
    (case l10 => k_is)
    (case c10 => k_is)
    (case k10 => k_is)
    (case a11 => k_is)
    (case l11 => k_is)
    (case c11 => k_is)
    (case k11 => k_is)
    (case a12 => k_is)
    (case l12 => k_is)
    (case c12 => k_is)
    (case k12 => k_is)
    (case a13 => k_is)
    (case l13 => k_is)
    (case c13 => k_is)
    (case k13 => k_is)
    (case a14 => k_is)
    (case l14 => k_is)
    (case c14 => k_is)
    (case k14 => k_is)
    (case a15 => k_is)
    (case l15 => k_is)
    (case c15 => k_is)
    (case k15 => k_is)
    (case a16 => k_is)
    (case l16 => k_is)
    (case c16 => k_is)
    (case k16 => k_is)
    (case a17 => k_is)
    (case l17 => k_is)
    (case c17 => k_is)
    (case k17 => k_is)
    (case a18 => k_is)
    (case l18 => k_is)
    (case c18 => k_is)
    (case k18 => k_is)
    (case a19 => k_is)
    (case l19 => k_is)
    (case c19 => k_is)
    (case k19 => k_is)
    (case a20 => k_is)
    (case l20 => k_is)
    (case c20 => k_is)
    (case k20 => k_is)
    (case a21 => k_is)
    (case l21 => k_is)
    (case c21 => k_is)
    (case k21 => k_is)
    (case a22 => k_is)
    (case l22 => k_is)
    (case c22 => k_is)
    (case k22 => k_is)
    (case a23 => k_is)
    (case l23 => k_is)
    (case c23 => k_is)
    (case k23 => k_is)
    (case a24 => k_is)
    (case l24 => k_is)
    (case c24 => k_is)
    (case k24 => k_is)
    (case a25 => k_is)
    (case l25 => k_is)
    (case c25 => k_is)
    (case k25 => k_is)
    (case a26 => k_is)
    (case l26 => k_is)
    (case c26 => k_is)
    (case k26 => k_is)
    (case a27 => k_is)
    (case l27 => k_is)
    (case c27 => k_is)
    (case k27 => k_is)
    (case a28 => k_is)
    (case l28 => k_is)
    (case c28 => k_is)
    (case k28 => k_is)
    (case a29 => k_is)
    (case l29 => k_is)
    (case c29 => k_is)
    (case k29 => k_is)
    (case a30 => k_is)
    (case l30 => k_is)
    (case c30 => k_is)
    (case k30 => k_is)
    (case a31 => k_is)
    (case l31 => k_is)
    (case c31 => k_is)
    (case k31 => k_is)
    (case a32 => k_is)
    (case l32 => k_is)
    (case c32 => k_is)
    (case k32 => k_is)
    (case a33 => k_is)
    (case l33 => k_is)
    (case c33 => k_is)
    (case k33 => k_is)
    (case a34 => k_is)
    (case l34 => k_is)
    (case c34 => k_is)
    (case k34 => k_is)
    (case a35 => k_is)
    (case l35 => k_is)
    (case c35 => k_is)
    (case k35 => k_is)
    (case a36 => k_is)
    (case l36 => k_is)
    (case c36 => k_is)
    (case k36 => k_is)
    (case a37 => k_is)
    (case l37 => k_is)
    (case c37 => k_is)
    (case k37 => k_is)
    (case a38 => k_is)
    (case l38 => k_is)
    (case c38 => k_is)
    (case k38 => k_is)
    (case a39 => k_is)
    (case l39 => k_is)
    (case c39 => k_is)
    (case k39 => k_is)
    (case a40 => k_is)
    (case l40 => k_is)
    (case c40 => k_is)
    (case k40 => k_is)
    (case a41 => k_is)
    (case l41 => k_is)
    (case c41 => k_is)
    (case k41 => k_is)
    (case a42 => k_is)
    (case l42 => k_is)
    (case c42 => k_is)
    (case k42 => k_is)
    (case a43 => k_is)
    (case l43 => k_is)
    (case c43 => k_is)
    (case k43 => k_is)
    (case a44 => k_is)
    (case l44 => k_is)
    (case c44 => k_is)
    (case k44 => k_is)
    (case a45 => k_is)
    (case l45 => k_is)
    (case c45 => k_is)
    (case k45 => k_is)
    (case a46 => k_is)
    (case l46 => k_is)
    (case c46 => k_is)
    (case k46 => k_is)
    (case a47 => k_is)
    (case l47 => k_is)
    (case c47 => k_is)
    (case k47 => k_is)
    (case a48 => k_is)
    (case l48 => k_is)
    (case c48 => k_is)
    (case k48 => k_is)
    (case a49 => k_is)
    (case l49 => k_is)
    (case c49 => k_is)
    (case k49 => k_is)
    (case a50 => k_is)
    (case l50 => k_is)
    (case c50 => k_is)
    (case k50 => k_is)
    (case a51 => k_is)
    (case l51 => k_is)
    (case c51 => k_is)
    (case k51 => k_is)
    (case a52 => k_is)
    (case l52 => k_is)
    (case c52 => k_is)
    (case k52 => k_is)
    (case a53 => k_is)
    (case l53 => k_is)
    (case c53 => k_is)
    (case k53 => k_is)
    (case a54 => k_is)
    (case l54 => k_is)
    (case c54 => k_is)
    (case k54 => k_is)
    (case a55 => k_is)
    (case l55 => k_is)
    (case c55 => k_is)
    (case k55 => k_is)
    (case a56 => k_is)
    (case l56 => k_is)
    (case c56 => k_is)
    (case k56 => k_is)
    (case a57 => k_is)
    (case l57 => k_is)
    (case c57 => k_is)
    (case k57 => k_is)
    (case a58 => k_is)
    (case l58 => k_is)
    (case c58 => k_is)
    (case k58 => k_is)
    (case a59 => k_is)
    (case l59 => k_is)
    (case c59 => k_is)
    (case k59 => k_is)
    (case a60 => k_is)
    (case l60 => k_is)
    (case c60 => k_is)
    (case k60 => k_is)
    (case a61 => k_is)
    (case l61 => k_is)
    (case c61 => k_is)
    (case k61 => k_is)
    (case a62 => k_is)
    (case l62 => k_is)
    (case c62 => k_is)
    (case k62 => k_is)
    (case z0 => k_is)
    (case z1 => k_is)
    (case z2 => k_is)
    (case z3 => k_is)
    (case z4 => k_is)
    (case z5 => k_is)
    (case z6 => k_is)
    (case z7 => k_is)
    (case z8 => k_is)
    (case z9 => k_is)
    (case z10 => k_is)
    (case z11 => k_is)
    (case z12 => k_is)
    (case z13 => k_is)
    (case z14 => k_is)
    (case z15 => k_is)
    (case gg => k_is)
    (case gi0 => k_is)
    (case gi1 => k_is)
    (case gi2 => k_is)
    (case gi3 => k_is)
    (case gi4 => k_is)
    (case gi5 => k_is)
    (case gi6 => k_is)
    (case gs0 => k_is)
    (case gs1 => k_is)
    (case gs2 => k_is)
    (case g3 => k_is)
    (case g4 => k_is)
    (case g5 => k_is)
    (case g6 => k_is)
    (case g7 => k_is)
    (case g8 => k_is)
    (case x_r => k_exc)
    (case k_r => k_is)
    (case b_r => k_is)
    (case t_r => k_is)
    (case x_f => k_exc)
    (case k_f => k_is)
    (case b_f => k_is)
    (case t_f => k_is)
    (case x_u => k_exc)
    (case k_u => k_is)
    (case b_u => k_is)
    (case t_u => k_is)
