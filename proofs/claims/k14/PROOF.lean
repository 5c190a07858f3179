import PyProof.Rows.All
import Wide.All
import OpenK.AllK
import Wide.FinOn
import HandS.ForMost
import HandS.IsInst
import HandS.Gcd
import HandS.Wide
import HandS.Zip
import HandS.Conv
import HandS.Flow
import HandS.Walk
import HandS.Codes
import KE.GoesMore
import KE.GoesEnum
import HandS.TupMul
import HandS.TupAny
import HandS.DictComp
import HandS.Text
import KE.KTupSum
import HandS.Strs
import HandS.EndBits
import HandS.Dict
import HandS.ForExc
import HandS.ExcIs
import HandS.TryMany
import HandS.More
import KE.KDictKeyed
import KE.SortData
import KE.DataCmp
import KE.KDictCopyH
import PyProof.NeKinds
import HandS.IterVal
import HandS.Keys
import PySem.Challenge.RW_sameontrees_k14_forms_judged
import HandS.Deep
import KE.KRevSl
import PyProof.Rows.IntBool
import PyProof.CallStr
import PyProof.StrOps2
import PyProof.ReprBulk
import PyProof.Rows.ReprOcc
import PyProof.Rows.StrCase
import HandS.SortRule
import HandS.Style
import PyProof.CallFns
import KE.IntBitsLaws
set_option Elab.async false
set_option linter.all false
set_option maxRecDepth 100000
/-! a small layer of our own over HandS: plain data that never changes, defs by name, zip of a list and a tuple -/
namespace Ly
open PySem PySem.Spec PyProof.Rows L2

/-! ### frames -/
/-- every tuple that is tracked stays -/
def TK (H H' : Hp) : Prop := ∀ b xs, H b = some (.tup xs) → H' b = some (.tup xs)
theorem TK.rfl (H : Hp) : TK H H := fun _ _ h => h
theorem TK.trans {H H1 H2 : Hp} (a : TK H H1) (b : TK H1 H2) : TK H H2 := fun c o h => b c o (a c o h)
theorem tk_same {H H' : Hp} (s : Same H H') : TK H H' := fun b _ h => s b _ h
theorem tk_new {H : Hp} {p : Addr} {o : HO} (h : H p = none) : TK H (upd H p o) := fun b xs e => by
  rw [upd_ne (ne_of_none e h)]; exact e
theorem tk_lst {H : Hp} {p : Addr} {o : HO} {xs : List V} (h : H p = some (.lst xs)) : TK H (upd H p o) := fun b ys e => by
  have : b ≠ p := by
    intro z; subst z; rw [h] at e; cases e
  rw [upd_ne this]; exact e
theorem same_new {H : Hp} {p : Addr} {o : HO} (h : H p = none) : Same H (upd H p o) := fun b x e => by
  rw [upd_ne (ne_of_none e h)]; exact e

/-! ### data: none, bools, ints, texts, tuples of such -/
/-- a tuple that stands: tracked, or of the module's own -/
def ITup (K : PySem.W.Frag) (H : Hp) (a : Addr) (xs : List V) : Prop :=
  H a = some (.tup xs) ∨ ∃ (o : Obj) (its : Array Value) (n : Nat), K.lookup a = some o ∧ o.cls = .type "tuple" ∧ o.data = .seq its n ∧ its.size ≤ sizeLine ∧ Vals xs its.toList
theorem ITup.sq {K : PySem.W.Frag} {H : Hp} {a : Addr} {xs : List V} (h : ITup K H a xs) : SqT K H a xs := h.elim (fun e => .inl (.inl e)) .inr
theorem ITup.mono {K : PySem.W.Frag} {H H' : Hp} {a : Addr} {xs : List V} (t : TK H H') (h : ITup K H a xs) : ITup K H' a xs := h.elim (fun e => .inl (t _ _ e)) .inr
mutual
inductive Im (K : PySem.W.Frag) (H : Hp) : V → PyData → Prop
  | non : Im K H .non .none
  | bl (b : Bool) : Im K H (.bl b) (.bool b)
  | int (i : Int) : Im K H (.int i) (.int i)
  | str (x : Str) : Im K H (.str x) (.str x)
  | tup {a : Addr} {xs : List V} {ds : List PyData} : ITup K H a xs → ImAll K H xs ds → Im K H (.ref a) (.tuple ds)
inductive ImAll (K : PySem.W.Frag) (H : Hp) : List V → List PyData → Prop
  | nil : ImAll K H [] []
  | cons {v : V} {vs : List V} {d : PyData} {ds : List PyData} : Im K H v d → ImAll K H vs ds → ImAll K H (v :: vs) (d :: ds)
end
section
variable {K : PySem.W.Frag} {H H' : Hp}
mutual
theorem Im.mono (t : TK H H') : ∀ (d : PyData) {v : V}, Im K H v d → Im K H' v d
  | .none, _, h => by cases h; exact .non
  | .bool _, _, h => by cases h; exact .bl _
  | .int _, _, h => by cases h; exact .int _
  | .str _, _, h => by cases h; exact .str _
  | .tuple ds, _, h => by cases h with | tup e r => exact .tup (e.mono t) (ImAll.mono t ds r)
  | .list _, _, h => by cases h
  | .dict _, _, h => by cases h
theorem ImAll.mono (t : TK H H') : ∀ (ds : List PyData) {vs : List V}, ImAll K H vs ds → ImAll K H' vs ds
  | [], _, h => by cases h; exact .nil
  | d :: ds, _, h => by cases h with | cons a r => exact .cons (Im.mono t d a) (ImAll.mono t ds r)
end
mutual
theorem Im.dp : ∀ (d : PyData) {v : V}, Im K H v d → Dp K H v d
  | .none, _, h => by cases h; exact .non
  | .bool _, _, h => by cases h; exact .bl _
  | .int _, _, h => by cases h; exact .int _
  | .str _, _, h => by cases h; exact .str _
  | .tuple ds, _, h => by cases h with | tup e r => exact .tup e.sq (ImAll.dp ds r)
  | .list _, _, h => by cases h
  | .dict _, _, h => by cases h
theorem ImAll.dp : ∀ (ds : List PyData) {vs : List V}, ImAll K H vs ds → DpAll K H vs ds
  | [], _, h => by cases h; exact .nil
  | d :: ds, _, h => by cases h with | cons a r => exact .cons (Im.dp d a) (ImAll.dp ds r)
end
theorem ImAll.length : ∀ {vs : List V} {ds : List PyData}, ImAll K H vs ds → vs.length = ds.length
  | [], ds, h => by cases h; rfl
  | _ :: _, _, h => by cases h with | cons _ r => rw [List.length_cons, List.length_cons, ImAll.length r]
theorem ImAll.get : ∀ {vs : List V} {ds : List PyData} {i : Nat} {d : PyData}, ImAll K H vs ds → ds[i]? = some d → ∃ v, vs[i]? = some v ∧ Im K H v d
  | _, _, 0, _, .cons a _, e => by
    simp at e; subst e; exact ⟨_, rfl, a⟩
  | _, _, i + 1, _, .cons _ r, e => by
    obtain ⟨v, h1, h2⟩ := ImAll.get (i := i) r (by simpa using e)
    exact ⟨v, by simpa using h1, h2⟩
  | _, _, _, _, .nil, e => by simp at e
theorem ImAll.getV : ∀ {vs : List V} {ds : List PyData} {i : Nat} {v : V}, ImAll K H vs ds → vs[i]? = some v → ∃ d, ds[i]? = some d ∧ Im K H v d
  | _, _, 0, _, .cons a _, e => by
    simp at e; subst e; exact ⟨_, rfl, a⟩
  | _, _, i + 1, _, .cons _ r, e => by
    obtain ⟨v, h1, h2⟩ := ImAll.getV (i := i) r (by simpa using e)
    exact ⟨v, by simpa using h1, h2⟩
  | _, _, _, _, .nil, e => by simp at e
theorem ImAll.snoc : ∀ {vs : List V} {ds : List PyData} {v : V} {d : PyData}, ImAll K H vs ds → Im K H v d → ImAll K H (vs ++ [v]) (ds ++ [d])
  | _, _, _, _, .nil, a => .cons a .nil
  | _, _, _, _, .cons b r, a => .cons b (ImAll.snoc r a)
theorem Im.tuple_inv {v : V} {ds : List PyData} (h : Im K H v (.tuple ds)) : ∃ a xs, v = .ref a ∧ ITup K H a xs ∧ ImAll K H xs ds := by
  cases h with | tup e r => exact ⟨_, _, rfl, e, r⟩
theorem Im.int_inv {v : V} {i : Int} (h : Im K H v (.int i)) : v = .int i := by cases h; rfl
theorem Im.bool_inv {v : V} {i : Bool} (h : Im K H v (.bool i)) : v = .bl i := by cases h; rfl
theorem Im.str_inv {v : V} {i : Str} (h : Im K H v (.str i)) : v = .str i := by cases h; rfl
theorem Im.none_inv {v : V} (h : Im K H v .none) : v = .non := by cases h; rfl
theorem ImAll.cons_inv {vs : List V} {d : PyData} {ds : List PyData} (h : ImAll K H vs (d :: ds)) : ∃ v r, vs = v :: r ∧ Im K H v d ∧ ImAll K H r ds := by
  cases h with | cons a r => exact ⟨_, _, rfl, a, r⟩
theorem ImAll.nil_inv {vs : List V} (h : ImAll K H vs []) : vs = [] := by cases h; rfl
/-- a new tuple of data -/
theorem Im.new {p : Addr} {xs : List V} {ds : List PyData} (n : H p = none) (r : ImAll K H xs ds) : Im K (upd H p (.tup xs)) (.ref p) (.tuple ds) :=
  .tup (.inl upd_same) (ImAll.mono (tk_new n) ds r)
end

/-! ### defs by their names -/
section
variable (P : Program) (w : World) (K : PySem.W.Frag) (mg : Str → Option Value) (base : Heap)
/-- the def st that the name x holds keeps the promise sp, by at most level k; nothing is raised out of it -/
structure Def (k : Nat) (x : Str) (st : Stmt) (ps : List Str) (sp : Sp) : Prop where
  ex : ∃ (f : Addr) (fd : FuncData), FnOk P w K mg base CX0 k f fd ps sp ∧ mg x = some (.ref f) ∧ PySem.W.keepIn K (.ref f) = true ∧ L2.Binds K fd ps [] ∧ Fun K x x st f fd
end
section
variable {X : Cx} {k : Nat} {x : Str} {st : Stmt} {ps ks : List Str} {sp : Sp} {p pos : Pos} {e : Expr} {es : List Expr} {kws : List Keyword} {t tk : TA} {g : List Value → List Value → List Value} {gV : List V → List V → List V}
theorem pe_def (O : Def X.prog X.w X.K X.mg X.base k x st ps sp) (hr : Room k X.A) (hg : Gl X x) (ha : PA X (e :: es) t) (hdb : (x == ("__debug__" : Str)) = false := by decide)
    (he : starEach (e :: es) X.env = (false, eval e X.env) :: starEach es X.env := by rfl) (hpl : (backTo pos (starEach es X.env)).any (·.1) = false := by rfl) :
    PE X (.Call (.Name x p) (e :: es) [] pos) (tCall sp [] E0 t) := by
  obtain ⟨f, fd, F, hm, hk, hb, _⟩ := O.ex
  exact pe_call F hr hg hm hk hb .nil pass0 ha hdb he hpl
/-- all arguments by their names -/
theorem pe_defK (O : Def X.prog X.w X.K X.mg X.base k x st ps sp) (hr : Room k X.A) (hg : Gl X x) (kb : ∀ f fd, Fun X.K x x st f fd → KBinds X.K fd ps ks g gV) (hkw : PK X kws tk)
    (hall : (backToKw pos (keywordEach kws X.env)).all (·.1.isSome) = true := by rfl) (hks : (backToKw pos (keywordEach kws X.env)).filterMap (·.1) = ks := by rfl) (hdb : (x == ("__debug__" : Str)) = false := by decide)
    (hpl : ((backTo pos (starEach [] X.env)).any (·.1) || (backToKw pos (keywordEach kws X.env)).any (·.1.isNone)) = false := by rfl) :
    PE X (.Call (.Name x p) [] kws pos) (tCallK sp gV E0 tNil tk) := by
  obtain ⟨f, fd, F, hm, hk, _, U⟩ := O.ex
  refine ⟨fun pins s σ H Q I h => wpAny_Call_Name_kw (ld_glob I hg hm (PySem.W.callWith_KW0 (h₀ := X.base) I.ok.mod.kin hk hall (thn (hkw.run pos pins s σ H _ I h) ?_) hpl) hdb)⟩
  rintro ws s2 ⟨zs, H2, I2, rz, q2⟩
  refine ⟨I2.kIn, ?_⟩
  rw [hks]
  exact run_fnk F hr (kb f fd U) pass0 I2 .nil rz q2
end
/-- a name of the module that holds a value -/
theorem pe_gv {X : Cx} {x : Str} {v : V} {pos : Pos} (hg : Gl X x) (h : ∃ u, X.mg x = some u ∧ RelV v u) (hd : (x == ("__debug__" : Str)) = false := by decide) : PE X (.Name x pos) (tC v) := by
  obtain ⟨u, h1, h2⟩ := h
  exact pe_glob hg h1 h2 hd
/-! ### zip of a list and a tuple -/
/-- the list at a and the tuple at b, as they stand at each turn, their items in new pairs -/
def ItzM (K : PySem.W.Frag) (a b : Addr) : It where
  go := fun i H => ∃ xs ys x y, SqL K H a xs ∧ SqT K H b ys ∧ xs[i]? = some x ∧ ys[i]? = some y
  yld := fun i H v H' => ∃ T x y, v = .ref T ∧ H T = none ∧ H' = upd H T (.tup [x, y]) ∧ (∀ l, SqL K H a l → l[i]? = some x) ∧ ∀ l, SqT K H b l → l[i]? = some y
  stop := fun i H => ∃ xs ys : List V, SqL K H a xs ∧ SqT K H b ys ∧ i ≤ xs.length ∧ i ≤ ys.length ∧ (i = xs.length ∨ i = ys.length)
theorem in5 {z a b c d e : Addr} (h : z ∈ [a, b, c, d, e]) : z = a ∨ z = b ∨ z = c ∨ z = d ∨ z = e := by simpa using h
theorem turnM {P : Program} {w : World} {K : PySem.W.Frag} {elts : List Expr} {kk : Nat} {tpos : Pos} {a b z TI TO i1 i2 : Addr} (S : ZipSep2 z TI TO i1 i2 [i1, a] [i2, b]) :
    Turn P w K (.Tuple elts kk tpos) (ItzM K a b) [z, TI, TO, i1, i2] z (fun i h => IsZip h z TI TO .none ∧ IsTupOf2 h TI (.ref i1) (.ref i2) ∧ (∃ x y, IsTupOf2 h TO x y) ∧ h.IsListIter i1 a i ∧ h.IsTupleIter i2 b i) := by
  have n12 : i1 ≠ i2 := fun q => S.sep1_2 (by rw [q]; exact List.mem_cons_self ..)
  have z1 := S.zi1
  have z2 := S.zi2
  have t1 := S.Ti1
  have t2 := S.Ti2
  have keep4 : ∀ {h h' : Heap} {c : Addr} {o : Obj}, (∀ c o, c ≠ z → c ≠ TO → c ≠ i1 → c ≠ i2 → h.get? c = some o → h'.get? c = some o) → c ∉ [z, TI, TO, i1, i2] → h.get? c = some o → h'.get? c = some o :=
    fun k hc q => k _ _ (fun e => hc (by simp [e])) (fun e => hc (by simp [e])) (fun e => hc (by simp [e])) (fun e => hc (by simp [e])) q
  have size5 : ∀ {h : Heap} {i : Nat}, IsZip h z TI TO .none → IsTupOf2 h TI (.ref i1) (.ref i2) → (∃ x y, IsTupOf2 h TO x y) → h.IsListIter i1 a i → h.IsTupleIter i2 b i → ∀ c ∈ [z, TI, TO, i1, i2], c < h.objs.size := by
    intro h i hz hT ⟨x, y, hO⟩ ⟨o1, e1, _⟩ ⟨o2, e2, _⟩ c hc
    rcases in5 hc with q | q | q | q | q <;> subst q
    · exact Heap.lt_size hz
    · exact Heap.lt_size hT
    · exact Heap.lt_size hO
    · exact Heap.lt_size e1
    · exact Heap.lt_size e2
  refine { mem := List.mem_cons_self .., obj := ?_, keep := ?_, item := ?_, done := ?_, self := fun A i s Q E st h => wpAny_pyIter_zip st.1 h }
  · rintro i h ⟨hz, hT, ⟨x, y, hO⟩, ⟨o1, e1, _, d1⟩, ⟨o2, e2, _, d2⟩⟩ c hc
    rcases in5 hc with q | q | q | q | q <;> subst q
    · exact ⟨_, hz, fun v q => nomatch q⟩
    · exact ⟨_, hT, fun v q => nomatch q⟩
    · exact ⟨_, hO, fun v q => nomatch q⟩
    · exact ⟨o1, e1, fun v q => by rw [d1] at q; cases q⟩
    · exact ⟨o2, e2, fun v q => by rw [d2] at q; cases q⟩
  · rintro i h h' ⟨hz, hT, ⟨x, y, hO⟩, l1, l2⟩ k
    exact ⟨k z (by simp) _ hz, k TI (by simp) _ hT, ⟨x, y, k TO (by simp) _ hO⟩, l1.at fun o q => k i1 (by simp) o q, l2.at fun o q => k i2 (by simp) o q⟩
  · intro X hP hw hK hc i pins s σ H E I hf st hg
    subst hP hw hK
    obtain ⟨hz, hT, hO, l1, l2⟩ := st
    have lts := size5 hz hT hO l1 l2
    obtain ⟨x0, y0, hO⟩ := hO
    obtain ⟨xs, ys, x, y, qx, qy, hx, hy⟩ := hg
    obtain ⟨its, rv, p, _⟩ := I.list qx
    obtain ⟨its2, rv2, p2, _⟩ := I.tuple qy
    obtain ⟨u, hu, ru⟩ := rv.get hx
    obtain ⟨u2, hu2, ru2⟩ := rv2.get hy
    have a1 : a ≠ i1 := fun q => by
      obtain ⟨o, ho, c, _⟩ := l1
      obtain ⟨o', ho', c', _⟩ := p.isList
      rw [← q, ho'] at ho; cases ho
      rw [c'] at c; simp at c
    have b2 : b ≠ i2 := fun q => by
      obtain ⟨o, ho, c, _⟩ := l2
      obtain ⟨o', ho', c', _⟩ := p2
      rw [← q, ho'] at ho; cases ho
      rw [c'] at c; simp at c
    have hd : X.A.in1.handled = none := I.ok.hd hc
    have D1 := Draws.list (prog := X.prog) (w := X.w) hd i1 a a1 its.toArray
    have D2 := Draws.tuple (prog := X.prog) (w := X.w) hd i2 b b2 its2.toArray
    have s1 : i < its.toArray.size := by
      have := (List.getElem?_eq_some_iff.mp hu).1
      simpa using this
    have s2 : i < its2.toArray.size := by
      have := (List.getElem?_eq_some_iff.mp hu2).1
      simpa using this
    refine wpAny_pyNext_zipD2_item S D1 D2 hz hT hO ⟨l1, p.isList⟩ ⟨l2, p2⟩ s1 s2 fun v1 v2 h' tk e1 e2 z' O' st1 st2 hN hsz hk => ?_
    have ev1 : u = v1 := by
      have : its[i]? = some v1 := by simpa using e1
      rw [hu] at this; exact Option.some.inj this
    have ev2 : u2 = v2 := by
      have : its2[i]? = some v2 := by simpa using e2
      rw [hu2] at this; exact Option.some.inj this
    subst ev1 ev2
    refine ⟨_, rfl, wpAny_letOwnedTupleGo_zip (s := { s with heap := h', toks := tk }) z' fun h2 zz sb => ?_⟩
    have zlt : z < s.heap.objs.size := lts z (by simp)
    have pair : h2.get? s.heap.objs.size = some { cls := .type "tuple", data := .seq #[u, u2] } := (sb.2 _ (Nat.ne_of_gt zlt)).trans hN
    have new : ObjOk X.prog X.w (upd H s.heap.objs.size (.tup [x, y])) h2 s.heap.objs.size (.tup [x, y]) := ⟨by show 2 ≤ sizeLine; decide, [u, u2], .cons ru (.cons ru2 .nil), ⟨_, pair, rfl, _, rfl⟩⟩
    have I2 : Inv X pins σ (upd H s.heap.objs.size (.tup [x, y])) { s with heap := h2, toks := tk } :=
      I.turnedNew (t' := tk) (ch := [z, TI, TO, i1, i2]) (fun c o hb q => (sb.2 c (fun e => hb (by simp [e]))).trans (keep4 hk hb q)) hf (Nat.le_refl _) new
    refine ⟨.ref s.heap.objs.size, _, I2, rfl, ⟨_, x, y, rfl, I.hok.fresh (Nat.le_refl _), rfl, fun l hl => by rw [I.list_inj hl qx]; exact hx, fun l hl => by rw [I.tuple_inj hl qy]; exact hy⟩, ⟨zz, ?_, ⟨u, u2, ?_⟩, ?_, ?_⟩, fun c hc => ?_⟩
    · exact (sb.2 _ S.TIz).trans (hk _ _ S.TIz S.TITO S.TIi1 S.TIi2 hT)
    · exact (sb.2 _ S.TOz).trans O'
    · exact st1.1.at fun o q => (sb.2 _ z1.symm).trans q
    · exact st2.1.at fun o q => (sb.2 _ z2.symm).trans q
    · rw [upd_ne (Nat.ne_of_lt (lts c hc))]
      exact (hf c hc).1
  · intro X hP hw hK hc i pins s σ H E I hf st hg
    subst hP hw hK
    obtain ⟨hz, hT, ⟨x0, y0, hO⟩, l1, l2⟩ := st
    obtain ⟨xs, ys, qx, qy, le1, le2, hend⟩ := hg
    obtain ⟨its, rv, p, _⟩ := I.list qx
    obtain ⟨its2, rv2, p2, _⟩ := I.tuple qy
    have a1 : a ≠ i1 := fun q => by
      obtain ⟨o, ho, c, _⟩ := l1
      obtain ⟨o', ho', c', _⟩ := p.isList
      rw [← q, ho'] at ho; cases ho
      rw [c'] at c; simp at c
    have b2 : b ≠ i2 := fun q => by
      obtain ⟨o, ho, c, _⟩ := l2
      obtain ⟨o', ho', c', _⟩ := p2
      rw [← q, ho'] at ho; cases ho
      rw [c'] at c; simp at c
    have hd : X.A.in1.handled = none := I.ok.hd hc
    have e1 := rv.length
    have e2 := rv2.length
    refine wpAny_pyNext_zipD2_end S (Draws.list (prog := X.prog) (w := X.w) hd i1 a a1 its.toArray) (Draws.tuple (prog := X.prog) (w := X.w) hd i2 b b2 its2.toArray) hz hT hO ⟨l1, p.isList⟩ ⟨l2, p2⟩ (by simp; omega) (by simp; omega) (by simp; omega) fun h' tk hk => ?_
    exact ⟨rfl, I.turnedL (t' := tk) (ch := [z, TI, TO, i1, i2]) (fun c o hb q => keep4 hk hb q) hf⟩
def iZipM (K : PySem.W.Frag) (ta : TA) : TI := fun σ H R => ta σ H fun vs H1 => ∃ a b xs ys, vs = [.ref a, .ref b] ∧ SqL K H1 a xs ∧ SqT K H1 b ys ∧ R (ItzM K a b) H1
theorem pi_zipM {X : Cx} {e e2 : Expr} {ta : TA} {p pos tpos : Pos} {elts : List Expr} {kk : Nat} (hg : Gl X "zip") (hm : X.mg "zip" = none) (ha : PA X [e, e2] ta)
    (hs : starEach [e, e2] X.env = (false, eval e X.env) :: starEach [e2] X.env := by rfl) (hpl : (backTo pos (starEach [e2] X.env)).any (·.1) = false := by rfl) :
    PI X (.Tuple elts kk tpos) (.Call (.Name "zip" p) [e, e2] [] pos) (iZipM X.K ta) := by
  refine ⟨fun pins s σ H R I h => Call_ (ld_blt I hg hm PyProof.Rows.boot_zip (PyProof.Rows.callWith_type1 (thn (ha.run pos pins s σ H _ I h) ?_) hs hpl))⟩
  rintro us s1 ⟨vs, H1, I1, r1, a, b, xs, ys, rfl, qx, qy, q⟩
  cases r1 with | cons r rr => cases rr with | cons r' rr =>
  cases rr
  cases r
  cases r'
  obtain ⟨its, rv, p1, _⟩ := I1.list qx
  obtain ⟨its2, rv2, p2, _⟩ := I1.tuple qy
  obtain ⟨o2, ho2, _⟩ := id p2
  have lb : b < s1.heap.objs.size := Heap.lt_size ho2
  have la : a < s1.heap.objs.size := p1.lt
  have S := zip_sep2 (N := s1.heap.objs.size) (fp1 := [a]) (fp2 := [b]) (fun c hc => by simp at hc; rw [hc]; exact la) (fun c hc => by simp at hc; rw [hc]; exact lb)
  refine zip_begins2 (begins_list a its.toArray) (begins_tuple b its2.toArray) p1.isList p2 fun h' hz hT hO g1 g2 hsz hk => wpAny_pyIter_zip hz ?_
  have I2 : Inv X pins σ H1 { s1 with heap := h' } := I1.kept (t' := s1.toks) hk
  refine ⟨_, [s1.heap.objs.size + 4, s1.heap.objs.size + 2, s1.heap.objs.size + 3, s1.heap.objs.size, s1.heap.objs.size + 1], _, _, H1, rfl, I2, turnM S, ⟨hz, hT, ⟨_, _, hO⟩, ⟨_, g1, rfl, rfl⟩, ⟨_, g2, rfl, rfl⟩⟩, fun c hc => ?_, q⟩
  have le : s1.heap.objs.size ≤ c := by
    rcases in5 hc with z | z | z | z | z <;> rw [z] <;> first | exact Nat.le_refl _ | exact Nat.le_add_right _ _
  exact I1.fpOk le (I1.hok.fresh le)
theorem walk_zipM {K : PySem.W.Frag} {a b : Addr} {xs ys : List V} (e : xs.length = ys.length) : Walk (ItzM K a b) xs.length (fun H => SqL K H a xs ∧ SqT K H b ys) (YPair (fun i => xs[i]?) (fun i => ys[i]?)) := by
  refine ⟨fun i _ hi q => ?_, fun _ q => ⟨xs, ys, q.1, q.2, Nat.le_refl _, Nat.le_of_eq e, .inl rfl⟩, fun i H v H' _ q y => ?_⟩
  · have h2 : i < ys.length := by omega
    exact ⟨xs, ys, xs[i], ys[i], q.1, q.2, by simp [hi], by simp [h2]⟩
  · obtain ⟨T, x, z, h1, h2, h3, h4, h5⟩ := y
    exact ⟨T, x, z, h1, h2, h3, h4 xs q.1, h5 ys q.2⟩
theorem walk_zipT {K : PySem.W.Frag} {a b : Addr} {xs ys : List V} (e : xs.length = ys.length) : Walk (RZ.ItzT K a b) xs.length (fun H => SqT K H a xs ∧ SqT K H b ys) (YPair (fun i => xs[i]?) (fun i => ys[i]?)) := by
  refine ⟨fun i _ hi q => ?_, fun _ q => ⟨xs, ys, q.1, q.2, .inl (Nat.le_refl _)⟩, fun i H v H' _ q y => ?_⟩
  · have h2 : i < ys.length := by omega
    exact ⟨xs, ys, xs[i], ys[i], q.1, q.2, by simp [hi], by simp [h2]⟩
  · obtain ⟨T, x, z, h1, h2, h3, h4, h5⟩ := y
    exact ⟨T, x, z, h1, h2, h3, h4 xs q.1, h5 ys q.2⟩

/-! ### lists of ints as data -/
section
variable {K : PySem.W.Frag} {H : Hp}
theorem dp_ints : ∀ ns : List Int, DpAll K H (ns.map V.int) (ns.map PyData.int)
  | [] => .nil
  | n :: ns => .cons (.int n) (dp_ints ns)
theorem lay_ints : ∀ ns : List Int, PyData.canLayAll0 (ns.map PyData.int) = true
  | [] => by simp [PyData.canLayAll0]
  | n :: ns => by simp [PyData.canLayAll0, PyData.canLay0, lay_ints ns]
theorem deep_ints : ∀ ns : List Int, PyData.depthAll (ns.map PyData.int) ≤ 1
  | [] => by simp [PyData.depthAll]
  | n :: ns => by
    have := deep_ints ns
    simp only [List.map_cons, PyData.depthAll, PyData.depth]
    omega
theorem shaped_ints (ns : List Int) : SeqAt.shaped (.list (ns.map PyData.int)) = true := by
  have h := deep_ints ns
  have h2 : PyData.depth (.list (ns.map PyData.int)) ≤ 64 := by
    simp only [PyData.depth]; omega
  show (PyData.canLay0 (.list (ns.map PyData.int)) && decide (PyData.depth (.list (ns.map PyData.int)) ≤ 64)) = true
  rw [Bool.and_eq_true]
  exact ⟨by simp only [PyData.canLay0]; exact lay_ints ns, decide_eq_true h2⟩
theorem eqv_ints_nil (ns : List Int) : PyData.eqv (.list (ns.map PyData.int)) (.list []) = ns.isEmpty := by
  cases ns <;> simp [PyData.eqv, PyData.eqvAll]
end
/-! ### rules with the written part told: what they ask hangs on no block's own things -/
section
variable {X : Cx} (K : PySem.W.Frag)
theorem kix_tup (e : X.K = K := by rfl) : IxR X (rIxT K) := by subst e; exact ix_tup
theorem kix_list (e : X.K = K := by rfl) : IxR X (rIxL K) := by subst e; exact ix_list
def rLenK : List V → Hp → VK → Prop := fun xs H Q => ∃ p ys, xs = [.ref p] ∧ (SqL K H p ys ∨ SqT K H p ys) ∧ Q (.int ys.length) H
theorem kcall_len (e : X.K = K := by rfl) : CallR X (.builtin "len") (rLenK K) := by subst e; exact call_len_seq
def rTupK : List V → Hp → VK → Prop := fun xs H Q => ∃ p ys, xs = [.ref p] ∧ ((SqL K H p ys ∧ ∀ l, H l = none → Q (.ref l) (upd H l (.tup ys))) ∨ (SqT K H p ys ∧ Q (.ref p) H))
theorem kcall_tuple (e : X.K = K := by rfl) : CallR X (.type "tuple") (rTupK K) := by subst e; exact call_tuple_of
def rLstK : List V → Hp → VK → Prop := fun xs H Q => ∃ p ys, xs = [.ref p] ∧ (SqL K H p ys ∨ SqT K H p ys) ∧ ∀ l, H l = none → Q (.ref l) (upd H l (.lst ys))
theorem kcall_list (e : X.K = K := by rfl) : CallR X (.type "list") (rLstK K) := by subst e; exact call_list_of
theorem kcall_isi (e : X.K = K := by rfl) : CallR X (.builtin "isinstance") (rIsi K) := by subst e; exact call_isi
theorem kcr_all (hc : X.calm = true := by rfl) (e : X.K = K := by rfl) : CallR X (.builtin "all") (rAll K) := by subst e; exact cr_all hc
theorem kop_eqD (hu : X.A.units + 64 < cLine) (e : X.K = K := by rfl) : OpR X (compareOp .Eq) (rEqD K) := by subst e; exact op_eqD hu
theorem kop_neD (hu : X.A.units + 64 < cLine) (e : X.K = K := by rfl) : OpR X (compareOp .NotEq) (rNeD K) := by subst e; exact op_neD hu
theorem kpi_tup {tg l : Expr} {tl : TE} (hl : PE X l tl) (e : X.K = K := by rfl) : PI X tg l (iTup K tl) := by subst e; exact pi_tup hl
theorem kpi_list {tg l : Expr} {tl : TE} (hl : PE X l tl) (e : X.K = K := by rfl) : PI X tg l (iList K tl) := by subst e; exact pi_list hl
theorem kpg_tup {es : List Expr} {k : Nat} {pos : Pos} {t : TGs} {n : Nat} (hc : X.calm = true) (h : PGs X es t) (hn : (assignEach es X.env).length = n := by rfl) (hst : (assignEach es X.env).findIdx? (·.1) = none := by rfl) (e : X.K = K := by rfl) : PG X (.Tuple es k pos) (gTup K n t) := by
  subst e; exact pg_tup hc h hn hst
theorem kpi_zipM {e1 e2 : Expr} {ta : TA} {p pos tpos : Pos} {elts : List Expr} {kk : Nat} (hg : Gl X "zip") (hm : X.mg "zip" = none) (ha : PA X [e1, e2] ta)
    (hs : starEach [e1, e2] X.env = (false, eval e1 X.env) :: starEach [e2] X.env := by rfl) (hpl : (backTo pos (starEach [e2] X.env)).any (·.1) = false := by rfl) (e : X.K = K := by rfl) :
    PI X (.Tuple elts kk tpos) (.Call (.Name "zip" p) [e1, e2] [] pos) (iZipM K ta) := by subst e; exact pi_zipM hg hm ha hs hpl
theorem kpi_zip {e1 e2 : Expr} {ta : TA} {p pos tpos : Pos} {elts : List Expr} {kk : Nat} (hg : Gl X "zip") (hm : X.mg "zip" = none) (ha : PA X [e1, e2] ta)
    (hs : starEach [e1, e2] X.env = (false, eval e1 X.env) :: starEach [e2] X.env := by rfl) (hpl : (backTo pos (starEach [e2] X.env)).any (·.1) = false := by rfl) (e : X.K = K := by rfl) :
    PI X (.Tuple elts kk tpos) (.Call (.Name "zip" p) [e1, e2] [] pos) (RZ.iZipA K ta) := by subst e; exact RZ.pi_zipA hg hm ha hs hpl
end
/-! ### a comprehension without tests -/
theorem lc_all {J : It} {n : Nat} {G : Hp → Prop} {Y : Nat → Hp → V → Hp → Prop} (w : Walk J n G Y) {g : TG} {te : TE} {vs : List Nat} {σ : L2.St} {H1 : Hp} {D : Addr} {Qd : Hp → Prop} (Pv : Nat → Hp → Prop) (h0 : Pv 0 (upd H1 D (.lst []))) (hG : ∀ i H, i ≤ n → Pv i H → G H)
    (hs : ∀ i x H H', i < n → Pv i H → Y i H x H' → g x (wipe σ vs) H' fun σ2 H2 => wipe σ2 vs = wipe σ vs ∧ te σ2 H2 fun y H4 => ∃ acc, H4 D = some (.lst acc) ∧ acc.length < sizeLine ∧ Pv (i + 1) (upd H4 D (.lst (acc ++ [y]))))
    (hd : ∀ H, Pv n H → Qd H) :
    ∃ W : Nat → Nat → Hp → Prop, (∃ m, W 0 m (upd H1 D (.lst []))) ∧ ∀ i m H, W i m H →
      (J.stop i H ∧ Qd H) ∨ (J.go i H ∧ ∃ Nx : Hp → Prop, (∀ H', Nx H' → ∃ m', m' < m ∧ W (i + 1) m' H') ∧ ∀ x H', J.yld i H x H' → g x (wipe σ vs) H' fun σ2 H2 => wipe σ2 vs = wipe σ vs ∧ tYes σ2 H2 fun b H3 =>
        if b = true then te σ2 H3 fun y H4 => ∃ acc, H4 D = some (.lst acc) ∧ acc.length < sizeLine ∧ Nx (upd H4 D (.lst (acc ++ [y]))) else Nx H3) := by
  refine lc_it w Pv h0 hG (fun i x H H' hi p y => ?_) hd
  have h := hs i x H H' hi p y
  refine Eq.mp (congrArg (g x (wipe σ vs) H') ?_) h
  funext σ2 H2
  simp only [tYes, if_true]
/-- nothing is kept but the values that came: the list holds f of each turn -/
theorem lc_acc {J : It} {n : Nat} {G : Hp → Prop} {Y : Nat → Hp → V → Hp → Prop} (w : Walk J n G Y) {g : TG} {te : TE} {vs : List Nat} {σ : L2.St} {H1 : Hp} {D : Addr} {Qd : Hp → Prop} (Pv : Nat → List V → Hp → Prop) (hn : n < sizeLine) (h0 : Pv 0 [] (upd H1 D (.lst []))) (hG : ∀ i acc H, i ≤ n → Pv i acc H → G H)
    (hs : ∀ i x acc H H', i < n → Pv i acc H → H D = some (.lst acc) → acc.length = i → Y i H x H' → g x (wipe σ vs) H' fun σ2 H2 => wipe σ2 vs = wipe σ vs ∧ te σ2 H2 fun y H4 => H4 D = some (.lst acc) ∧ Pv (i + 1) (acc ++ [y]) (upd H4 D (.lst (acc ++ [y]))))
    (mono : ∀ σ H (Q Q' : VK), (∀ v H1, Q v H1 → Q' v H1) → te σ H Q → te σ H Q') (gmono : ∀ x σ H (Q Q' : L2.St → Hp → Prop), (∀ σ1 H1, Q σ1 H1 → Q' σ1 H1) → g x σ H Q → g x σ H Q')
    (hd : ∀ acc H, Pv n acc H → H D = some (.lst acc) → acc.length = n → Qd H) :
    ∃ W : Nat → Nat → Hp → Prop, (∃ m, W 0 m (upd H1 D (.lst []))) ∧ ∀ i m H, W i m H →
      (J.stop i H ∧ Qd H) ∨ (J.go i H ∧ ∃ Nx : Hp → Prop, (∀ H', Nx H' → ∃ m', m' < m ∧ W (i + 1) m' H') ∧ ∀ x H', J.yld i H x H' → g x (wipe σ vs) H' fun σ2 H2 => wipe σ2 vs = wipe σ vs ∧ tYes σ2 H2 fun b H3 =>
        if b = true then te σ2 H3 fun y H4 => ∃ acc, H4 D = some (.lst acc) ∧ acc.length < sizeLine ∧ Nx (upd H4 D (.lst (acc ++ [y]))) else Nx H3) := by
  refine lc_all w (fun i H => ∃ acc, acc.length = i ∧ H D = some (.lst acc) ∧ Pv i acc H) ⟨[], rfl, upd_same, h0⟩ (fun i H hi ⟨acc, _, _, p⟩ => hG i acc H hi p) (fun i x H H' hi ⟨acc, l, e, p⟩ y => ?_) (fun H ⟨acc, l, e, p⟩ => hd acc H p e l)
  refine gmono _ _ _ _ _ (fun σ1 H2 ⟨a, b⟩ => ⟨a, mono _ _ _ _ (fun v H3 ⟨c, d⟩ => ⟨acc, c, by omega, acc ++ [v], by rw [List.length_append, l]; rfl, upd_same, d⟩) b⟩) (hs i x acc H H' hi p e l y)

/-! ### the end: where each def stands behind the top -/
/-- the name x holds the def st -/
def Here (K : PySem.W.Frag) (mg : Str → Option Value) (x : Str) (st : Stmt) : Prop := ∃ f fd, mg x = some (.ref f) ∧ Fun K x x st f fd
section
variable {P : Program} {w : World} {K : PySem.W.Frag} {mg : Str → Option Value} {base h : Heap}
theorem here (X : K.In h) (G : h.Ns mainGlobals mg) {x : Str} {st : Stmt} {f : Addr} {oc : Value} {od an : Option Addr} {osl : Array (Option Value)} {kV doc pm cdv ct : Value}
    (a : PySem.W.nsIn K mainGlobals x = some (some (.ref f)))
    (l : K.lookup f = some ⟨oc, od, .func (PySem.W.fnOf x x (defArgs st) (defBody st) (defScope st) .none kV doc pm an cdv ct), osl⟩)
    (c : PySem.W.codeIn K cdv x = true) (k : PySem.W.keepIn K (.ref f) = true) : Here K mg x st := ⟨f, _, PySem.W.mg_of X G a, fun_mk l c k⟩
theorem Here.toDef {x : Str} {st : Stmt} {k : Nat} {ps : List Str} {sp : Sp} (z : Here K mg x st) (ok : ∀ {f : Addr} {fd : FuncData}, Fun K x x st f fd → FnOk P w K mg base CX0 k f fd ps sp)
    (b : ∀ (kV doc pm : Value) (an : Option Addr) (cdv ct : Value) (us : List Value), us.length = ps.length → bindArgs (PySem.W.fnOf x x (defArgs st) (defBody st) (defScope st) .none kV doc pm an cdv ct) ⟨us, []⟩ = pure (ps.zip us)) : Def P w K mg base k x st ps sp := by
  obtain ⟨f, fd, hm, F⟩ := z
  exact ⟨f, fd, ok F, hm, F.kp, F.binds b, F⟩
theorem pair_mk (X : K.In h) (G : h.Ns mainGlobals mg) {x : Str} {a : Addr} {i j : Int} {t u : Tok} {dd : Option Addr} {n : Nat} {sl : Array (Option Value)}
    (h1 : PySem.W.nsIn K mainGlobals x = some (some (.ref a))) (h2 : K.lookup a = some ⟨.type "tuple", dd, .seq #[.int i t, .int j u] n, sl⟩) : ∃ a, mg x = some (.ref a) ∧ ∀ H, ITup K H a [.int i, .int j] :=
  ⟨a, PySem.W.mg_of X G h1, fun _ => .inr ⟨_, _, _, h2, rfl, rfl, by show 2 ≤ sizeLine; decide, .cons ⟨_, rfl⟩ (.cons ⟨_, rfl⟩ .nil)⟩⟩
end
end Ly

set_option linter.all false
set_option maxRecDepth 10000
/-! plain mathematics: ratios, sums of products, products of matrices -/
namespace Mt
theorem made_num {t b : Int} (hb : 0 < b) : t / ((Nat.gcd t.natAbs b.natAbs : Nat) : Int) = (Rat.divInt t b).num := by
  rw [Rat.num_divInt, Int.sign_eq_one_of_pos hb, Int.one_mul, Int.gcd_comm]; rfl
theorem made_den {t b : Int} (hb : 0 < b) : b / ((Nat.gcd t.natAbs b.natAbs : Nat) : Int) = ((Rat.divInt t b).den : Int) := by
  rw [Rat.den_divInt, if_neg (by omega), Int.gcd_comm]
  show b / ((Nat.gcd t.natAbs b.natAbs : Nat) : Int) = ((b.natAbs / Nat.gcd t.natAbs b.natAbs : Nat) : Int)
  have e : b = (b.natAbs : Int) := by omega
  rw [Int.natCast_ediv]
  congr 1
theorem gcd_pos {t b : Int} (hb : 0 < b) : (0 : Int) < ((Nat.gcd t.natAbs b.natAbs : Nat) : Int) := by
  have : 0 < Nat.gcd t.natAbs b.natAbs := Nat.gcd_pos_of_pos_right _ (by omega)
  omega
theorem gcd_le {t b : Int} (hb : 0 < b) : ((Nat.gcd t.natAbs b.natAbs : Nat) : Int).natAbs ≤ b.natAbs := by
  show Nat.gcd t.natAbs b.natAbs ≤ b.natAbs
  exact Nat.gcd_le_right _ (by omega)
theorem den_pos (q : Rat) : (0 : Int) < (q.den : Int) := by have := q.den_pos; omega
theorem cop (q : Rat) : Nat.gcd q.num.natAbs ((q.den : Int)).natAbs = 1 := q.reduced
theorem add_as (x y : Rat) : Rat.divInt (x.num * (y.den : Int) + y.num * (x.den : Int)) ((x.den : Int) * (y.den : Int)) = x + y := by
  have hx : (x.den : Int) ≠ 0 := by have := den_pos x; omega
  have hy : (y.den : Int) ≠ 0 := by have := den_pos y; omega
  rw [← Rat.divInt_add_divInt _ _ hx hy, Rat.num_divInt_den, Rat.num_divInt_den]
theorem mul_as (x y : Rat) : Rat.divInt (x.num * y.num) ((x.den : Int) * (y.den : Int)) = x * y := by
  rw [← Rat.divInt_mul_divInt, Rat.num_divInt_den, Rat.num_divInt_den]
theorem num_zero {q : Rat} (h : q.num = 0) : q = 0 := by
  have := Rat.num_divInt_den q
  rw [h] at this
  rw [← this]
  simp
/-- bounds of both parts -/
def Bd (n m : Nat) (q : Rat) : Prop := q.num.natAbs < 2 ^ n ∧ ((q.den : Int)).natAbs < 2 ^ m
theorem Bd.mono {n m n' m' : Nat} {q : Rat} (h : Bd n m q) (hn : n ≤ n') (hm : m ≤ m') : Bd n' m' q :=
  ⟨Nat.lt_of_lt_of_le h.1 (Nat.pow_le_pow_right (by decide) hn), Nat.lt_of_lt_of_le h.2 (Nat.pow_le_pow_right (by decide) hm)⟩
theorem bd_divInt {n m : Nat} {t b : Int} (hb : 0 < b) (ht : t.natAbs < 2 ^ n) (hm : b.natAbs < 2 ^ m) : Bd n m (Rat.divInt t b) := by
  refine ⟨?_, ?_⟩
  · rw [← made_num hb, Int.natAbs_ediv_of_dvd (Int.ofNat_dvd_left.mpr (Nat.gcd_dvd_left _ _))]
    exact Nat.lt_of_le_of_lt (Nat.div_le_self _ _) ht
  · rw [← made_den hb, Int.natAbs_ediv_of_dvd (Int.ofNat_dvd_left.mpr (Nat.gcd_dvd_right _ _))]
    exact Nat.lt_of_le_of_lt (Nat.div_le_self _ _) hm
theorem lt_mul {i j : Int} {a b : Nat} (ha : i.natAbs < 2 ^ a) (hb : j.natAbs < 2 ^ b) : (i * j).natAbs < 2 ^ (a + b) := by
  rw [Int.natAbs_mul, Nat.pow_add]
  exact Nat.mul_lt_mul'' ha hb
theorem lt_add {i j : Int} {a : Nat} (ha : i.natAbs < 2 ^ a) (hb : j.natAbs < 2 ^ a) : (i + j).natAbs < 2 ^ (a + 1) := by
  have := Int.natAbs_add_le i j
  rw [Nat.pow_succ]; omega
theorem lt_up {i : Int} {a b : Nat} (ha : i.natAbs < 2 ^ a) (h : a ≤ b) : i.natAbs < 2 ^ b := Nat.lt_of_lt_of_le ha (Nat.pow_le_pow_right (by decide) h)
theorem Bd.mul {n m n' m' : Nat} {x y : Rat} (h : Bd n m x) (k : Bd n' m' y) : Bd (n + n') (m + m') (x * y) := by
  rw [← mul_as]
  exact bd_divInt (Int.mul_pos (den_pos x) (den_pos y)) (lt_mul h.1 k.1) (lt_mul h.2 k.2)
theorem Bd.add {n m n' m' N : Nat} {x y : Rat} (h : Bd n m x) (k : Bd n' m' y) (h1 : n + m' ≤ N) (h2 : n' + m ≤ N) : Bd (N + 1) (m + m') (x + y) := by
  rw [← add_as]
  exact bd_divInt (Int.mul_pos (den_pos x) (den_pos y)) (lt_add (lt_up (lt_mul h.1 k.2) h1) (lt_up (lt_mul k.1 h.2) h2)) (lt_mul h.2 k.2)
theorem bd_zero {n m : Nat} (hm : 1 ≤ m) : Bd n m 0 := by
  refine ⟨?_, ?_⟩
  · show 0 < 2 ^ n
    exact Nat.two_pow_pos n
  · show 1 < 2 ^ m
    exact Nat.lt_of_lt_of_le (by decide : 1 < 2 ^ 1) (Nat.pow_le_pow_right (by decide) hm)

/-! ### sums of products -/
def dot : List Rat → List Rat → Rat
  | x :: xs, y :: ys => x * y + dot xs ys
  | _, _ => 0
theorem dot_nil (ys : List Rat) : dot [] ys = 0 := by cases ys <;> rfl
theorem dot_nil2 (xs : List Rat) : dot xs [] = 0 := by cases xs <;> rfl
theorem dot_take : ∀ {xs ys : List Rat} {i : Nat} {x y : Rat}, xs[i]? = some x → ys[i]? = some y → dot (xs.take (i + 1)) (ys.take (i + 1)) = dot (xs.take i) (ys.take i) + x * y
  | a :: xs, b :: ys, 0, x, y, h, k => by
    simp at h k; subst h k
    simp [dot]; grind
  | a :: xs, b :: ys, i + 1, x, y, h, k => by
    have ih := dot_take (xs := xs) (ys := ys) (i := i) (by simpa using h) (by simpa using k)
    simp only [List.take_succ_cons, dot] at ih ⊢
    rw [ih]; grind
  | [], _, _, _, _, h, _ => by simp at h
  | _ :: _, [], _, _, _, _, k => by simp at k
/-- a row and a multiple of another one -/
def addS (acc : List Rat) (w : Rat) (r : List Rat) : List Rat := List.zipWith (fun o t => o + w * t) acc r
/-- the sum of multiples of rows, ahead of it acc -/
def comb : List Rat → List (List Rat) → List Rat → List Rat
  | w :: ws, r :: rs, acc => comb ws rs (addS acc w r)
  | _, _, acc => acc
theorem addS_length {acc r : List Rat} {w : Rat} (h : r.length = acc.length) : (addS acc w r).length = acc.length := by
  unfold addS; rw [List.length_zipWith]; omega
theorem addS_zero : ∀ {acc r : List Rat}, r.length = acc.length → addS acc 0 r = acc
  | [], [], _ => rfl
  | a :: acc, b :: r, h => by
    have ih := addS_zero (acc := acc) (r := r) (by simpa using h)
    show (a + 0 * b) :: addS acc 0 r = a :: acc
    rw [ih, Rat.zero_mul, Rat.add_zero]
  | [], _ :: _, h => by simp at h
  | _ :: _, [], h => by simp at h
theorem addS_get {acc r : List Rat} {w : Rat} {k : Nat} {a b : Rat} (ha : acc[k]? = some a) (hb : r[k]? = some b) : (addS acc w r)[k]? = some (a + w * b) := by
  unfold addS; rw [List.getElem?_zipWith, ha, hb]
theorem comb_length : ∀ {ws : List Rat} {rs : List (List Rat)} {acc : List Rat}, (∀ r ∈ rs, r.length = acc.length) → (comb ws rs acc).length = acc.length
  | [], _, _, _ => by simp [comb]
  | _ :: _, [], _, _ => by simp [comb]
  | w :: ws, r :: rs, acc, h => by
    have h0 := h r (List.mem_cons_self ..)
    have e := addS_length (w := w) h0
    show (comb ws rs (addS acc w r)).length = acc.length
    rw [comb_length (fun q hq => by rw [e]; exact h q (List.mem_cons_of_mem _ hq)), e]
/-- the k-th column -/
def col (rs : List (List Rat)) (k : Nat) : List Rat := rs.map fun r => r.getD k 0
theorem comb_get : ∀ {ws : List Rat} {rs : List (List Rat)} {acc : List Rat} {k : Nat} {a : Rat}, (∀ r ∈ rs, r.length = acc.length) → acc[k]? = some a → (comb ws rs acc)[k]? = some (a + dot ws (col rs k))
  | [], rs, acc, k, a, _, ha => by
    rw [dot_nil, Rat.add_zero]; simpa [comb] using ha
  | _ :: _, [], acc, k, a, _, ha => by
    show acc[k]? = some (a + dot _ [])
    rw [dot_nil2, Rat.add_zero]; exact ha
  | w :: ws, r :: rs, acc, k, a, h, ha => by
    have h0 := h r (List.mem_cons_self ..)
    have hk : k < r.length := by rw [h0]; exact (List.getElem?_eq_some_iff.mp ha).1
    have hr : r[k]? = some r[k] := List.getElem?_eq_getElem hk
    have e := addS_length (w := w) h0
    have ih := comb_get (ws := ws) (rs := rs) (acc := addS acc w r) (k := k) (fun q hq => by rw [e]; exact h q (List.mem_cons_of_mem _ hq)) (addS_get (w := w) ha hr)
    show (comb ws rs (addS acc w r))[k]? = some (a + (w * r.getD k 0 + dot ws (col rs k)))
    rw [ih, List.getD_eq_getElem?_getD, hr]
    show some (a + w * r[k] + dot ws (col rs k)) = some (a + (w * r[k] + dot ws (col rs k)))
    rw [Rat.add_assoc]
theorem comb_snoc : ∀ {ws : List Rat} {rs : List (List Rat)} {acc : List Rat} {w : Rat} {r : List Rat}, ws.length = rs.length → comb (ws ++ [w]) (rs ++ [r]) acc = addS (comb ws rs acc) w r
  | [], [], _, _, _, _ => rfl
  | a :: ws, b :: rs, acc, w, r, h => by
    show comb (ws ++ [w]) (rs ++ [r]) (addS acc a b) = addS (comb ws rs (addS acc a b)) w r
    exact comb_snoc (by simpa using h)
  | [], _ :: _, _, _, _, h => by simp at h
  | _ :: _, [], _, _, _, h => by simp at h
/-- one row times a matrix whose rows have n entries -/
def vm (n : Nat) (r : List Rat) (B : List (List Rat)) : List Rat := comb r B (List.replicate n 0)
theorem vm_as {n : Nat} {r : List Rat} {B : List (List Rat)} (h : ∀ b ∈ B, b.length = n) : vm n r B = (List.range n).map fun k => dot r (col B k) := by
  have h' : ∀ b ∈ B, b.length = (List.replicate n (0 : Rat)).length := fun b hb => by rw [h b hb, List.length_replicate]
  apply List.ext_getElem?
  intro k
  by_cases hk : k < n
  · have e : (List.replicate n (0 : Rat))[k]? = some 0 := by rw [List.getElem?_replicate, if_pos hk]
    have := comb_get (ws := r) h' e
    unfold vm
    rw [this, List.getElem?_map, List.getElem?_range hk, Rat.zero_add]
    rfl
  · have l1 : (vm n r B).length = n := by unfold vm; rw [comb_length h', List.length_replicate]
    rw [List.getElem?_eq_none (by omega), List.getElem?_eq_none (by simp; omega)]
theorem vm_length {n : Nat} {r : List Rat} {B : List (List Rat)} (h : ∀ b ∈ B, b.length = n) : (vm n r B).length = n := by
  rw [vm_as h]; simp
def mm (n : Nat) (A B : List (List Rat)) : List (List Rat) := A.map fun r => vm n r B
theorem dot_addS : ∀ {acc b c : List Rat} {w : Rat}, b.length = acc.length → dot (addS acc w b) c = dot acc c + w * dot b c
  | [], [], c, w, _ => by
    show dot [] c = dot [] c + w * dot [] c
    rw [dot_nil]; grind
  | x :: acc, y :: b, [], w, _ => by
    rw [dot_nil2, dot_nil2, dot_nil2]; grind
  | x :: acc, y :: b, z :: c, w, h => by
    have ih := dot_addS (acc := acc) (b := b) (c := c) (w := w) (by simpa using h)
    show (x + w * y) * z + dot (addS acc w b) c = x * z + dot acc c + w * (y * z + dot b c)
    rw [ih]; grind
  | [], _ :: _, _, _, h => by simp at h
  | _ :: _, [], _, _, h => by simp at h
theorem dot_comb : ∀ {ws : List Rat} {rs : List (List Rat)} {acc c : List Rat}, (∀ r ∈ rs, r.length = acc.length) → dot (comb ws rs acc) c = dot acc c + dot ws (rs.map fun r => dot r c)
  | [], rs, acc, c, _ => by
    rw [dot_nil, Rat.add_zero]; simp [comb]
  | _ :: _, [], acc, c, _ => by
    show dot acc c = dot acc c + dot _ []
    rw [dot_nil2, Rat.add_zero]
  | w :: ws, r :: rs, acc, c, h => by
    have h0 := h r (List.mem_cons_self ..)
    have e := addS_length (w := w) h0
    have ih := dot_comb (ws := ws) (rs := rs) (acc := addS acc w r) (c := c) (fun q hq => by rw [e]; exact h q (List.mem_cons_of_mem _ hq))
    show dot (comb ws rs (addS acc w r)) c = dot acc c + (w * dot r c + dot ws (rs.map fun r => dot r c))
    rw [ih, dot_addS h0, Rat.add_assoc]
theorem dot_zeros : ∀ {n : Nat} {c : List Rat}, dot (List.replicate n 0) c = 0
  | 0, c => dot_nil c
  | n + 1, [] => dot_nil2 _
  | n + 1, z :: c => by
    rw [List.replicate_succ]
    show 0 * z + dot (List.replicate n 0) c = 0
    rw [dot_zeros, Rat.zero_mul, Rat.add_zero]
theorem dot_vm {n : Nat} {r c : List Rat} {B : List (List Rat)} (h : ∀ b ∈ B, b.length = n) : dot (vm n r B) c = dot r (B.map fun b => dot b c) := by
  unfold vm
  rw [dot_comb (fun b hb => by rw [h b hb, List.length_replicate]), dot_zeros, Rat.zero_add]
/-- of three matrices it is the same whichever two come first -/
theorem mm_assoc {n m : Nat} {A B C : List (List Rat)} (hB : ∀ b ∈ B, b.length = n) (hC : ∀ c ∈ C, c.length = m) : mm m (mm n A B) C = mm m A (mm m B C) := by
  unfold mm
  rw [List.map_map]
  refine List.map_congr_left fun r _ => ?_
  show vm m (vm n r B) C = vm m r (B.map fun b => vm m b C)
  have hM : ∀ x ∈ B.map (fun b => vm m b C), x.length = m := fun x hx => by
    obtain ⟨b', _, rfl⟩ := List.mem_map.mp hx
    exact vm_length hC
  rw [vm_as hM, vm_as (r := vm n r B) hC]
  refine List.map_congr_left fun k hk => ?_
  have hk' : k < m := List.mem_range.mp hk
  rw [dot_vm hB]
  congr 1
  unfold col
  rw [List.map_map]
  refine List.map_congr_left fun b _ => ?_
  show dot b (C.map fun r => r.getD k 0) = (vm m b C).getD k 0
  rw [vm_as hC, List.getD_eq_getElem?_getD, List.getElem?_map, List.getElem?_range hk']
  rfl
/-! ### bounds of what comes -/
theorem bd_dot {N M : Nat} : ∀ {i : Nat} {xs ys : List Rat}, (∀ x ∈ xs, ∀ y ∈ ys, Bd N M (x * y)) → xs.length ≤ i → Bd (N + i * (M + 2)) (i * M + 1) (dot xs ys)
  | i, [], ys, _, _ => by rw [dot_nil]; exact bd_zero (by omega)
  | i, _ :: _, [], _, _ => by rw [dot_nil2]; exact bd_zero (by omega)
  | 0, _ :: _, _ :: _, _, h => by simp at h
  | i + 1, x :: xs, y :: ys, h, hl => by
    have ih := bd_dot (i := i) (xs := xs) (ys := ys) (fun a ha b hb => h a (List.mem_cons_of_mem _ ha) b (List.mem_cons_of_mem _ hb)) (by simpa using hl)
    have h0 := h x (List.mem_cons_self ..) y (List.mem_cons_self ..)
    have e1 : (i + 1) * (M + 2) = i * M + 2 * i + M + 2 := by grind
    have e2 : (i + 1) * M = i * M + M := by grind
    have e3 : i * (M + 2) = i * M + 2 * i := by grind
    show Bd _ _ (x * y + dot xs ys)
    have q := Bd.add h0 ih (N := N + i * M + 2 * i + M + 1) (by omega) (by rw [e3]; omega)
    refine q.mono (by rw [e1]; omega) (by rw [e2]; omega)
theorem bd_vm {n : Nat} {ws : List Rat} {B : List (List Rat)} (h : ∀ b ∈ B, b.length = n) (hw : ∀ x ∈ ws, Bd 400 40 x) (hB : ∀ b ∈ B, ∀ y ∈ b, Bd 400 40 y) (hl : ws.length ≤ 48) : ∀ q ∈ vm n ws B, Bd 5000 4000 q := by
  intro q hq
  rw [vm_as h] at hq
  obtain ⟨k, hk, rfl⟩ := List.mem_map.mp hq
  have hk' := List.mem_range.mp hk
  refine (bd_dot (N := 800) (M := 80) (i := 48) (fun x hx y hy => ?_) hl).mono (by decide) (by decide)
  obtain ⟨b, hb, rfl⟩ := List.mem_map.mp hy
  have e : b.getD k 0 ∈ b := by
    have hkb : k < b.length := by rw [h b hb]; exact hk'
    rw [List.getD_eq_getElem?_getD, List.getElem?_eq_getElem hkb]
    exact List.getElem_mem hkb
  exact (Bd.mul (hw x hx) (hB b hb _ e)).mono (by decide) (by decide)
theorem vm_step {n i : Nat} {ws : List Rat} {B : List (List Rat)} {w : Rat} {r : List Rat} (hl : ws.length = B.length) (hw : ws[i]? = some w) (hr : B[i]? = some r) : vm n (ws.take (i + 1)) (B.take (i + 1)) = addS (vm n (ws.take i) (B.take i)) w r := by
  unfold vm
  rw [List.take_add_one, List.take_add_one, hw, hr]
  exact comb_snoc (by rw [List.length_take, List.length_take, hl])
end Mt

set_option Elab.async false
set_option linter.all false
set_option maxRecDepth 100000
/-! ratios, vectors and matrices as data -/
namespace Ly
open PySem PySem.Spec PyProof.Rows L2 Mt
def rD (q : Rat) : PyData := .tuple [.int q.num, .int (q.den : Int)]
def vD (r : List Rat) : PyData := .tuple (r.map rD)
def mD (A : List (List Rat)) : PyData := .tuple (A.map vD)
section
variable {K : PySem.W.Frag} {H H' : Hp} {v : V}
theorem ity {a : Addr} {xs : List V} (h : ITup K H a xs) : TyX K H (.ref a) (.type "tuple") := by
  rcases h with h | ⟨o, its, n, hk, hc, _⟩
  · exact .base (.tup h)
  · exact .kTuple hk hc
theorem rat_inv {q : Rat} (h : Im K H v (rD q)) : ∃ p, v = .ref p ∧ ITup K H p [.int q.num, .int (q.den : Int)] := by
  obtain ⟨a, xs, rfl, h1, h2⟩ := h.tuple_inv
  obtain ⟨x, r, rfl, h3, h4⟩ := h2.cons_inv
  obtain ⟨y, r', rfl, h5, h6⟩ := h4.cons_inv
  rw [h6.nil_inv, h3.int_inv, h5.int_inv] at h1
  exact ⟨a, rfl, h1⟩
theorem rat_mk {q : Rat} {p : Addr} (h : ITup K H p [.int q.num, .int (q.den : Int)]) : Im K H (.ref p) (rD q) := .tup h (.cons (.int _) (.cons (.int _) .nil))
theorem vec_inv {r : List Rat} (h : Im K H v (vD r)) : ∃ p xs, v = .ref p ∧ ITup K H p xs ∧ ImAll K H xs (r.map rD) := h.tuple_inv
theorem mat_inv {A : List (List Rat)} (h : Im K H v (mD A)) : ∃ p xs, v = .ref p ∧ ITup K H p xs ∧ ImAll K H xs (A.map vD) := h.tuple_inv
theorem all_get {α : Type} {f : α → PyData} {xs : List V} {l : List α} {i : Nat} {x : V} (h : ImAll K H xs (l.map f)) (e : xs[i]? = some x) : ∃ a, l[i]? = some a ∧ Im K H x (f a) := by
  obtain ⟨d, h1, h2⟩ := h.getV e
  rw [List.getElem?_map] at h1
  cases hl : l[i]? with
  | none => rw [hl] at h1; simp at h1
  | some a =>
    rw [hl] at h1
    have : f a = d := by simpa using h1
    subst this
    exact ⟨a, rfl, h2⟩
theorem all_at {α : Type} {f : α → PyData} {xs : List V} {l : List α} {i : Nat} {a : α} (h : ImAll K H xs (l.map f)) (e : l[i]? = some a) : ∃ x, xs[i]? = some x ∧ Im K H x (f a) := h.get (by rw [List.getElem?_map, e]; rfl)
theorem all_len {α : Type} {f : α → PyData} {xs : List V} {l : List α} (h : ImAll K H xs (l.map f)) : xs.length = l.length := by rw [h.length, List.length_map]
theorem all_rep {α : Type} {f : α → PyData} {x : V} {a : α} (h : Im K H x (f a)) : ∀ n : Nat, ImAll K H (List.replicate n x) ((List.replicate n a).map f)
  | 0 => .nil
  | n + 1 => by
    rw [List.replicate_succ, List.replicate_succ, List.map_cons]
    exact .cons h (all_rep h n)
theorem flat1 {x : V} : ∀ n : Nat, (List.replicate n [x]).flatten = List.replicate n x
  | 0 => rfl
  | n + 1 => by
    rw [List.replicate_succ, List.flatten_cons, flat1 n]; rfl
/-- the parts so far, one more -/
theorem all_snoc {α : Type} {f : α → PyData} {xs : List V} {l : List α} {i : Nat} {a : α} {x : V} (h : ImAll K H xs ((l.take i).map f)) (e : l[i]? = some a) (r : Im K H x (f a)) : ImAll K H (xs ++ [x]) ((l.take (i + 1)).map f) := by
  rw [List.take_add_one, e, List.map_append]
  exact h.snoc r
end
end Ly

set_option Elab.async false
set_option linter.all false
set_option maxRecDepth 100000
/-! enumerate of a tuple; methods and instances of own classes by their defs -/
namespace Ly
open PySem PySem.Spec PyProof.Rows L2
/-- iter and enumerate as they are laid -/
abbrev tupIt (a : Addr) : Obj := { cls := .type "tuple_iterator", data := .fields #[.ref a, .int 0 0] }
abbrev enumOf (n : Nat) : Obj := { cls := .type "enumerate", data := .fields #[.none, .bool false, .ref n, rawInt 0, .none, .none] }
theorem meets_enumT (a : Addr) (items : Array Value) :
    Meets (Builtin.«enumerate.__new__» ⟨[.type "enumerate", .ref a], []⟩) (fun _ R s => s.heap.IsTuple a items ∧ R (.ok (.ret (.ref (s.heap.push (tupIt a)).objs.size))) { s with heap := (s.heap.push (tupIt a)).push (enumOf s.heap.objs.size) }) :=
  .of_wp fun prog w A R s h => by
    obtain ⟨hp, g, d, tk, os⟩ := s
    obtain ⟨h1, h⟩ := h
    have sub := sub_enumerate
    have go : ∀ {A' : Around} {E Q : Value → Shared → Prop}, Q (.ref hp.objs.size) ⟨hp.push (tupIt a), g, d, tk, os⟩ → wpAny (model prog w) A' (pyIter (.ref a)) Q E ⟨hp, g, d, tk, os⟩ := fun q => (begins_tuple a items).iter prog w _ _ ⟨hp, g, d, tk, os⟩ _ h1 q
    have ld : ∃ o, hp.get? a = some o ∧ o.cls = .type "tuple" := let ⟨o, e1, e2, _⟩ := h1; ⟨o, e1, e2⟩
    obtain ⟨⟨oc, od, dt, sl⟩, lo, lc⟩ := ld
    simp only at lc
    subst lc
    wp_walk using AutoSeq1.wpAny_loadPart' lo, go
    refine wpAny_stack_any fun st => wpAny_pure ?_
    split
    · rename_i c _ _ _ _ _
      cases (c == Value.type "enumerate") <;> (wp_walk using AutoSeq1.wpAny_loadPart' lo, go; exact ⟨_, rfl, h⟩)
    · wp_walk using AutoSeq1.wpAny_loadPart' lo, go
      exact ⟨_, rfl, h⟩
theorem call_enumT {prog : Program} {w : World} {A : Around} {E : Value → Shared → Prop} {s : Shared} {a : Addr} {items : Array Value} {Q : Value → Shared → Prop} (hT : s.heap.IsTuple a items)
    (h : ∀ h', IsEnum h' (s.heap.objs.size + 1) s.heap.objs.size 0 .none → h'.IsTupleIter s.heap.objs.size a 0 → (∀ b o, s.heap.get? b = some o → h'.get? b = some o) → Q (.ref (s.heap.objs.size + 1)) { s with heap := h' }) :
    wpAny (model prog w) A (call (.type "enumerate") [.ref a]) Q E s := by
  refine callType_new F.called_enumerate (by decide) (F.typeCall_enumerate_1 _) (F.newCall_enumerate_1 _) (fun obj => F.args_object_init_2 obj _) F.entry_enumerate_new (meets_enumT a items) ⟨hT, ?_⟩
  have z1 : (s.heap.push (tupIt a)).objs.size = s.heap.objs.size + 1 := Heap.size_push ..
  have g2 : ((s.heap.push (tupIt a)).push (enumOf s.heap.objs.size)).get? (s.heap.push (tupIt a)).objs.size = some (enumOf s.heap.objs.size) := Heap.get?_push_size _ rfl
  have g1 : ((s.heap.push (tupIt a)).push (enumOf s.heap.objs.size)).get? s.heap.objs.size = some (tupIt a) := Heap.get?_push_of_some _ (Heap.get?_push_size _ rfl)
  show _ ∧ _
  rw [z1] at g2 ⊢
  exact ⟨⟨_, g2, rfl⟩, h _ g2 ⟨_, g1, rfl, rfl⟩ fun b o x => Heap.get?_push_of_some _ (Heap.get?_push_of_some _ x)⟩
/-- the tuple at a as it stands at each turn, its items with their numbers in new pairs -/
def IteT (K : PySem.W.Frag) (a : Addr) : It where
  go := fun i H => ∃ xs x, SqT K H a xs ∧ xs[i]? = some x
  yld := fun i H v H' => ∃ T x, v = .ref T ∧ H T = none ∧ H' = upd H T (.tup [.int (i : Nat), x]) ∧ ∀ l, SqT K H a l → l[i]? = some x
  stop := fun i H => ∃ xs : List V, SqT K H a xs ∧ xs.length = i
theorem in2 {z a b : Addr} (h : z ∈ [a, b]) : z = a ∨ z = b := by simpa using h
theorem turnE {P : Program} {w : World} {K : PySem.W.Frag} {elts : List Expr} {kk : Nat} {tpos : Pos} {a e it : Addr} (ne : e ≠ it) :
    Turn P w K (.Tuple elts kk tpos) (IteT K a) [e, it] e (fun i h => (∃ old, IsEnum h e it ((i : Nat) : Int) old) ∧ h.IsTupleIter it a i) := by
  refine { mem := List.mem_cons_self .., obj := ?_, keep := ?_, item := ?_, done := ?_, self := fun A i s Q E st h => let ⟨⟨_, he⟩, _⟩ := st; wpAny_pyIter_enum he h }
  · rintro i h ⟨⟨old, he⟩, ⟨o, ho, hc, hd⟩⟩ b hb
    rcases in2 hb with z | z <;> subst z
    · exact ⟨_, he, fun v q => nomatch q⟩
    · exact ⟨o, ho, fun v q => by rw [hd] at q; cases q⟩
  · rintro i h h' ⟨⟨old, he⟩, hi⟩ k
    exact ⟨⟨old, k e (by simp) _ he⟩, hi.at fun o q => k it (by simp) o q⟩
  · intro X hP hw hK hc i pins s σ H E I hf st hg
    subst hP hw hK
    obtain ⟨⟨old, he⟩, hit⟩ := st
    obtain ⟨xs, x, hq, hx⟩ := hg
    obtain ⟨its, rv, p, _⟩ := I.tuple hq
    obtain ⟨u, hu, ru⟩ := rv.get hx
    have le : e < s.heap.objs.size := Heap.lt_size he
    have li : it < s.heap.objs.size := by obtain ⟨_, q, _⟩ := hit; exact Heap.lt_size q
    have na : a ≠ it := fun q => by
      obtain ⟨o, ho, c, _⟩ := hit
      obtain ⟨o', ho', c', _⟩ := p
      rw [← q, ho'] at ho; cases ho
      rw [c'] at c; simp at c
    have nea : e ≠ a := fun q => by
      obtain ⟨o', ho', c', _⟩ := p
      rw [← q, he] at ho'; cases ho'
      simp at c'
    have hd : X.A.in1.handled = none := I.ok.hd hc
    have D := Draws.tuple (prog := X.prog) (w := X.w) hd it a na its.toArray
    have s1 : i < its.toArray.size := by
      have := (List.getElem?_eq_some_iff.mp hu).1
      simpa using this
    refine wpAny_pyNext_enum_itemC D he ⟨hit, p⟩ s1 ne (by simp [ne, nea]) fun v h' tk ev out st' hT hsz hk => ?_
    have eu : u = v := by
      have : its[i]? = some v := by simpa using ev
      rw [hu] at this; exact Option.some.inj this
    subst eu
    refine ⟨_, rfl, wpAny_letOwnedTupleGo_enum (s := { s with heap := h', toks := tk + 1 }) out fun h2 he2 sb => ?_⟩
    have pair : h2.get? s.heap.objs.size = some { cls := .type "tuple", data := .seq #[.int ((i : Nat) : Int) tk, u] } := (sb.2 _ (Nat.ne_of_gt le)).trans hT
    have new : ObjOk X.prog X.w (upd H s.heap.objs.size (.tup [.int (i : Nat), x])) h2 s.heap.objs.size (.tup [.int (i : Nat), x]) := ⟨by show 2 ≤ sizeLine; decide, [.int ((i : Nat) : Int) tk, u], .cons ⟨_, rfl⟩ (.cons ru .nil), ⟨_, pair, rfl, _, rfl⟩⟩
    have I2 : Inv X pins σ (upd H s.heap.objs.size (.tup [.int (i : Nat), x])) { s with heap := h2, toks := tk + 1 } :=
      I.turnedNew (ch := [e, it]) (fun b o hb q => (sb.2 b (fun z => hb (by simp [z]))).trans (hk b o (fun z => hb (by simp [z])) (fun z => hb (by simp [z])) q)) hf (Nat.le_refl _) new
    refine ⟨.ref s.heap.objs.size, _, I2, rfl, ⟨_, x, rfl, I.hok.fresh (Nat.le_refl _), rfl, fun l hl => by rw [I.tuple_inj hl hq]; exact hx⟩, ⟨⟨u, ?_⟩, st'.1.at fun o q => (sb.2 it ne.symm).trans q⟩, fun b hb => ?_⟩
    · rw [show ((i + 1 : Nat) : Int) = (i : Int) + 1 by omega]
      exact he2
    · have hb' : b < s.heap.objs.size := by rcases in2 hb with z | z <;> rw [z] <;> assumption
      rw [upd_ne (Nat.ne_of_lt hb')]
      exact (hf b hb).1
  · intro X hP hw hK hc i pins s σ H E I hf st hg
    subst hP hw hK
    obtain ⟨⟨old, he⟩, hit⟩ := st
    obtain ⟨xs, hq, hx⟩ := hg
    obtain ⟨its, rv, p, _⟩ := I.tuple hq
    have na : a ≠ it := fun q => by
      obtain ⟨o, ho, c, _⟩ := hit
      obtain ⟨o', ho', c', _⟩ := p
      rw [← q, ho'] at ho; cases ho
      rw [c'] at c; simp at c
    have hd : X.A.in1.handled = none := I.ok.hd hc
    have hl := rv.length
    have es : its.toArray.size = i := by simp; omega
    obtain ⟨f0, f1, f2, f3, f4, f5⟩ := hf it (by simp)
    exact wpAny_pyNext_enum_endD (Draws.tuple (prog := X.prog) (w := X.w) hd it a na its.toArray) he (by rw [es]; exact ⟨hit, p⟩) fun h' eb => ⟨rfl, I.turned (t' := s.toks) (fun b o hb q => eb b o hb q) f0 f1 f3 f4 f5⟩
def iEnumT (K : PySem.W.Frag) (ta : TA) : TI := fun σ H R => ta σ H fun vs H1 => ∃ a xs, vs = [.ref a] ∧ SqT K H1 a xs ∧ R (IteT K a) H1
theorem kpi_enumT {X : Cx} (K : PySem.W.Frag) {e : Expr} {ta : TA} {p pos tpos : Pos} {elts : List Expr} {kk : Nat} (hg : Gl X "enumerate") (hm : X.mg "enumerate" = none) (ha : PA X [e] ta) (hs : starEach [e] X.env = [(false, eval e X.env)] := by rfl) (ek : X.K = K := by rfl) :
    PI X (.Tuple elts kk tpos) (.Call (.Name "enumerate" p) [e] [] pos) (iEnumT K ta) := by
  subst ek
  refine ⟨fun pins s σ H R I h => Call_ (ld_blt I hg hm boot_enumerate (PyProof.Rows.callWith_type1 (thn (ha.run pos pins s σ H _ I h) ?_) hs rfl))⟩
  rintro us s1 ⟨vs, H1, I1, r1, a, xs, rfl, hq, q⟩
  cases r1 with | cons r rr =>
  cases rr
  cases r
  obtain ⟨its, rv, p', _⟩ := I1.tuple hq
  refine call_enumT (show s1.heap.IsTuple a its.toArray from p') fun h' he hit hk => wpAny_pyIter_enum he ?_
  have I2 : Inv X pins σ H1 { s1 with heap := h' } := I1.kept (t' := s1.toks) hk
  refine ⟨s1.heap.objs.size + 1, [s1.heap.objs.size + 1, s1.heap.objs.size], _, _, H1, rfl, I2, turnE (Nat.succ_ne_self _), ⟨⟨.none, he⟩, hit⟩, fun b hb => ?_, q⟩
  have le : s1.heap.objs.size ≤ b := by
    rcases in2 hb with z | z <;> rw [z] <;> first | exact Nat.le_refl _ | exact Nat.le_add_right _ _
  exact I1.fpOk le (I1.hok.fresh le)
theorem walk_enumT {K : PySem.W.Frag} {a : Addr} {xs : List V} : Walk (IteT K a) xs.length (fun H => SqT K H a xs) (YPair (fun i => some (.int (i : Nat))) (fun i => xs[i]?)) := by
  refine ⟨fun i _ hi q => ⟨xs, xs[i], q, by simp [hi]⟩, fun _ q => ⟨xs, q, rfl⟩, fun i H v H' _ q y => ?_⟩
  obtain ⟨T, x, h1, h2, h3, h4⟩ := y
  exact ⟨T, .int (i : Nat), x, h1, h2, h3, rfl, h4 xs q⟩
/-! ### own classes -/
section
variable (P : Program) (w : World) (K : PySem.W.Frag) (mg : Str → Option Value) (base : Heap)
/-- the method m of the class at C keeps the promise -/
structure Met (k : Nat) (C : Addr) (m : Str) (ps : List Str) (sp : Sp) : Prop where
  ex : ∃ (f : Addr) (fd : FuncData), FnOk P w K mg base CX0 k f fd ps sp ∧ Meth K C m f ∧ L2.Binds K fd ps []
/-- the class's __init__ does -/
structure Ini (k : Nat) (C : Addr) (ps : List Str) (sp : Sp) : Prop where
  ex : ∃ (f : Addr) (fd : FuncData), FnOk P w K mg base CX0 k f fd ps sp ∧ Mk K C f ∧ L2.Binds K fd ps []
end
section
variable {X : Cx} {k : Nat} {C : Addr} {m x : Str} {ps : List Str} {sp : Sp} {apos p pos : Pos} {o e : Expr} {es : List Expr} {to : TE} {t : TA}
theorem pe_ini (O : Ini X.prog X.w X.K X.mg X.base k C ps sp) (hr : Room (k + 1) X.A) (hg : Gl X x) (hm : X.mg x = some (.ref C)) (ha : PA X (e :: es) t) (hdb : (x == ("__debug__" : Str)) = false := by decide)
    (he : starEach (e :: es) X.env = (false, eval e X.env) :: starEach es X.env := by rfl) (hpl : (backTo pos (starEach es X.env)).any (·.1) = false := by rfl) : PE X (.Call (.Name x p) (e :: es) [] pos) (tMake C sp [] E0 t) := by
  obtain ⟨f, fd, F, M, hb⟩ := O.ex
  exact pe_make M F hr hg hm hb .nil pass0 ha hdb he hpl
theorem pe_met {pl : Sem Bool} (O : Met X.prog X.w X.K X.mg X.base k C m ps sp) (c : Cls X.K C) (hr : Room k X.A) (ho : PE X o to) (ha : PA X (e :: es) t)
    (hst : starEach (e :: es) X.env = (false, eval e X.env) :: starEach es X.env := by rfl) (hpl : (backTo pos (starEach es X.env)).any (·.1) = false := by rfl)
    (ht : eval (.Call (.Attribute o m apos) (e :: es) [] pos) X.env = (do
      let ov ← eval o X.env
      standAt apos.atName
      let (f, first) ← holding [ov] (getMethod ov m pl)
      callWith pos f first (backTo pos (starEach (e :: es) X.env)) (backToKw pos (keywordEach [] X.env))) := by rfl) : PE X (.Call (.Attribute o m apos) (e :: es) [] pos) (tMeth C m sp [] E0 to t) := by
  obtain ⟨f, fd, F, M, hb⟩ := O.ex
  exact pe_meth ho c M F hr hb .nil pass0 ha hst hpl ht
theorem kpe_fld (K : PySem.W.Frag) {f : Str} (ho : PE X o to) (hb : attributeBase o f X.env (eval o X.env) = eval o X.env := by rfl) (ek : X.K = K := by rfl) : PE X (.Attribute o f pos) (tFld K to f) := by
  subst ek
  exact pe_fld ho hb
end
end Ly

set_option Elab.async false
set_option linter.all false
set_option maxRecDepth 100000
set_option maxHeartbeats 4000000
/-! tuple * int for 0 and 1 too; items of a list or a tuple, whichever it be -/
namespace Ly
open PySem PySem.Spec PyProof.Rows L2
theorem tuple_mul0 (l : Addr) (items : Array Value) (n : Nat) (dd : Option Addr) (sl : Array (Option Value)) (u : Tok) (hi : items.isEmpty = false) :
    Meets (Builtin.«tuple.__mul__» ⟨[.ref l, .int 0 u], []⟩) (fun _ R s => s.heap.get? l = some { cls := .type "tuple", dict := dd, data := .seq items n, slots := sl } ∧
      R (.ok (.ret (Value.ref s.heap.objs.size))) { s with heap := s.heap.push { cls := Value.type "tuple", data := Data.seq #[] }, toks := s.toks }) :=
  .of_wp fun prog w A R s h => by
    obtain ⟨hp, g, d, tk, os⟩ := s
    obtain ⟨hl, h⟩ := h
    have f1 := AutoSeq1.idx_int
    wp_walk using wpAny_loadPart' hl
    repeat (first
      | (refine wpAny_ite_false (decide_eq_false (by rw [hi]; decide)) ?_; wp_walk using wpAny_loadPart' hl)
      | (refine wpAny_ite_true (decide_eq_true (by rw [hi]; decide)) ?_; wp_walk using wpAny_loadPart' hl)
      | (refine wpAny_ite_false (decide_eq_false (by decide)) ?_; wp_walk using wpAny_loadPart' hl)
      | (refine wpAny_ite_true (decide_eq_true (by decide)) ?_; wp_walk using wpAny_loadPart' hl))
    exact ⟨_, rfl, h⟩
theorem tuple_mul1 (l : Addr) (items : Array Value) (n : Nat) (dd : Option Addr) (sl : Array (Option Value)) (u : Tok) (hi : items.isEmpty = false) :
    Meets (Builtin.«tuple.__mul__» ⟨[.ref l, .int 1 u], []⟩) (fun _ R s => s.heap.get? l = some { cls := .type "tuple", dict := dd, data := .seq items n, slots := sl } ∧
      R (.ok (.ret (Value.ref l))) s) :=
  .of_wp fun prog w A R s h => by
    obtain ⟨hp, g, d, tk, os⟩ := s
    obtain ⟨hl, h⟩ := h
    have f1 := AutoSeq1.idx_int
    wp_walk using wpAny_loadPart' hl
    repeat (first
      | (refine wpAny_ite_false (decide_eq_false (by rw [hi]; decide)) ?_; wp_walk using wpAny_loadPart' hl)
      | (refine wpAny_ite_true (decide_eq_true (by rw [hi]; decide)) ?_; wp_walk using wpAny_loadPart' hl)
      | (refine wpAny_ite_false (decide_eq_false (by decide)) ?_; wp_walk using wpAny_loadPart' hl)
      | (refine wpAny_ite_true (decide_eq_true (by decide)) ?_; wp_walk using wpAny_loadPart' hl))
    exact ⟨_, rfl, h⟩
def rRepTA (K : PySem.W.Frag) : R2 := fun x y H Q => ∃ l k xs, x = .ref l ∧ y = .int k ∧ SqT K H l xs ∧ xs ≠ [] ∧ 0 ≤ k ∧ k ≤ 1000 ∧ xs.length ≤ 1000 ∧ (k = 1 → Q (.ref l) H) ∧ (k ≠ 1 → ∀ p, H p = none → Q (.ref p) (upd H p (.tup (List.replicate k.toNat xs).flatten)))
section
variable {X : Cx}
theorem op_repTA : OpR X (binaryOp .Mult) (rRepTA X.K) := by
  intro pins s σ H x y v u Q I rx ry h
  obtain ⟨l, k, xs, rfl, rfl, hT, hne, h1, h2, hz, q1, q2⟩ := h
  by_cases k2 : 2 ≤ k
  · exact op_repT pins s σ H _ _ v u Q I rx ry ⟨l, k, xs, rfl, rfl, hT, hne, k2, h2, hz, q2 (by omega)⟩
  cases rx
  obtain ⟨t, rfl⟩ := ry
  obtain ⟨its, r, ⟨⟨cls, dd, data, sl⟩, ho, hc, n, hd⟩, hs⟩ := I.tuple hT
  simp only at hc hd
  subst hc hd
  have hle : its.length = xs.length := r.length.symm
  have hn : its ≠ [] := fun e => hne (by
    rw [e] at hle
    exact List.eq_nil_of_length_eq_zero hle.symm)
  have hi : its.toArray.isEmpty = false := by
    cases its with
    | nil => exact absurd rfl hn
    | cons a b => rfl
  have hk : k = 0 ∨ k = 1 := by omega
  rcases hk with rfl | rfl
  · refine wpAny_binaryOp_repeat_ref (T := "tuple") (U := "int") (by decide) ⟨_, ho, rfl⟩ (fun s' => typeIs_int s' 0 t) noFill_tuple_mul F.fills_int_mul F.slot_int_rmul repeat_tuple F.slot_int_index.lookup
      (call_meets F.slot_int_rmul (typeIs_int s 0 t) F.entry_int_rmul (F.args_int_rmul_2 _ _) (int_rmul_tuple 0 t l its.toArray n dd sl)
        ⟨ho, rfl, ⟨_, ho, rfl⟩, call_meets F.slot_tuple_mul ⟨_, ho, rfl⟩ F.entry_tuple_mul (F.args_tuple_mul_2 _ _) (tuple_mul0 l its.toArray n dd sl t hi) ⟨ho, ?_⟩⟩)
    refine ⟨.ref s.heap.objs.size, _, I.laid (t' := s.toks) (o := .tup []) (fun b ob q => Heap.get?_push_of_some _ q) (Nat.le_refl _) ?_, rfl, q2 (by decide) _ (I.hok.fresh (Nat.le_refl _))⟩
    exact ⟨Nat.zero_le _, [], .nil, IsTup.new _ _⟩
  · exact wpAny_binaryOp_repeat_ref (T := "tuple") (U := "int") (by decide) ⟨_, ho, rfl⟩ (fun s' => typeIs_int s' 1 t) noFill_tuple_mul F.fills_int_mul F.slot_int_rmul repeat_tuple F.slot_int_index.lookup
      (call_meets F.slot_int_rmul (typeIs_int s 1 t) F.entry_int_rmul (F.args_int_rmul_2 _ _) (int_rmul_tuple 1 t l its.toArray n dd sl)
        ⟨ho, rfl, ⟨_, ho, rfl⟩, call_meets F.slot_tuple_mul ⟨_, ho, rfl⟩ F.entry_tuple_mul (F.args_tuple_mul_2 _ _) (tuple_mul1 l its.toArray n dd sl t hi) ⟨ho, ⟨.ref l, H, I, rfl, q1 rfl⟩⟩⟩)
/-! ### a list or a tuple -/
def rIxA (K : PySem.W.Frag) : R2 := fun x y H Q => ∃ p xs i v, x = .ref p ∧ y = .int i ∧ (SqL K H p xs ∨ SqT K H p xs) ∧ atI xs i = some v ∧ Q v H
theorem kix_any (K : PySem.W.Frag) (e : X.K = K := by rfl) : IxR X (rIxA K) := by
  subst e
  intro value slice pins s σ H x y v u Q I rx ry h hs
  obtain ⟨p, xs, i, z, e1, e2, hq, he, q⟩ := h
  rcases hq with hq | hq
  · exact ix_list value slice pins s σ H x y v u Q I rx ry ⟨p, xs, i, z, e1, e2, hq, he, q⟩ hs
  · exact ix_tup value slice pins s σ H x y v u Q I rx ry ⟨p, xs, i, z, e1, e2, hq, he, q⟩ hs
def iAny (K : PySem.W.Frag) (tl : TE) : TI := fun σ H R => tl σ H fun x H1 => ∃ a, x = .ref a ∧ (((∃ xs, SqL K H1 a xs) ∧ R (Itl K a) H1) ∨ ((∃ xs, SqT K H1 a xs) ∧ R (Itt K a) H1))
theorem kpi_any (K : PySem.W.Frag) {tg l : Expr} {tl : TE} (hl : PE X l tl) (e : X.K = K := by rfl) : PI X tg l (iAny K tl) := by
  subst e
  refine ⟨fun pins s σ H R I h => ?_⟩
  refine thn (hl.run pins s σ H _ I h) fun v s1 ⟨x, H1, I1, r1, q1⟩ => ?_
  obtain ⟨a, e, q⟩ := q1
  subst e
  cases r1
  rcases q with ⟨⟨xs, hq⟩, q⟩ | ⟨⟨xs, hq⟩, q⟩
  · obtain ⟨its, rv, p, hz⟩ := I1.list hq
    refine wpAny_pyIter_list p.isList ?_
    refine ⟨s1.heap.objs.size, [s1.heap.objs.size], _, _, H1, rfl, I1.kept (t' := s1.toks) fun b o e => Heap.get?_push_of_some _ e, turn_list a _, ⟨_, Heap.get?_push_size _ rfl, rfl, rfl⟩, fun b hb => ?_, q⟩
    have e : b = s1.heap.objs.size := by simpa using hb
    subst e
    exact I1.fpOk (Nat.le_refl _) (I1.hok.fresh (Nat.le_refl _))
  · obtain ⟨its, rv, p, hz⟩ := I1.tuple hq
    refine wpAny_pyIter_tuple (show s1.heap.IsTuple a its.toArray from p) ?_
    refine ⟨s1.heap.objs.size, [s1.heap.objs.size], _, _, H1, rfl, I1.kept (t' := s1.toks) fun b o e => Heap.get?_push_of_some _ e, turn_tuple a _, ⟨_, Heap.get?_push_size _ rfl, rfl, rfl⟩, fun b hb => ?_, q⟩
    have e : b = s1.heap.objs.size := by simpa using hb
    subst e
    exact I1.fpOk (Nat.le_refl _) (I1.hok.fresh (Nat.le_refl _))
theorem kop_repTA (K : PySem.W.Frag) (e : X.K = K := by rfl) : OpR X (binaryOp .Mult) (rRepTA K) := by subst e; exact op_repTA
theorem kop_catA (K : PySem.W.Frag) (e : X.K = K := by rfl) : OpR X (binaryOp .Add) (rCatA K) := by subst e; exact op_catA
theorem ksl_tupA (K : PySem.W.Frag) (e : X.K = K := by rfl) : SlR X (rSlA K) := by subst e; exact sl_tupA
theorem kop_notIn (K : PySem.W.Frag) (e : X.K = K := by rfl) : OpR X (compareOp .NotIn) (rIn K true) := by subst e; exact op_notIn_seq
end
end Ly

set_option Elab.async false
set_option linter.all false
set_option maxRecDepth 100000
/-! any data: none, bools, ints, texts, tuples and lists of such; what judges ask of it -/
namespace Ly
open PySem PySem.Spec PyProof.Rows L2 Mt
theorem rd_same' {H H' : Hp} {p : Addr} {o : HO} (h : Rd H p o) (s : Same H H') : Rd H' p o := by
  rcases h with h | ⟨u, h⟩
  · exact .inl (s _ _ h)
  · exact .inr ⟨u, s _ _ h⟩
section
variable {K : PySem.W.Frag} {H H' : Hp}
theorem sql_same' {p : Addr} {xs : List V} (h : SqL K H p xs) (s : Same H H') : SqL K H' p xs := h.imp (fun h => rd_same' h s) id
theorem sqt_same' {p : Addr} {xs : List V} (h : SqT K H p xs) (s : Same H H') : SqT K H' p xs := h.imp (fun h => rd_same' h s) id
mutual
theorem dp_same (s : Same H H') : ∀ (d : PyData) {v : V}, Dp K H v d → Dp K H' v d
  | .none, _, h => by cases h; exact .non
  | .bool _, _, h => by cases h; exact .bl _
  | .int _, _, h => by cases h; exact .int _
  | .str _, _, h => by cases h; exact .str _
  | .tuple ds, _, h => by cases h with | tup e r => exact .tup (sqt_same' e s) (dpAll_same s ds r)
  | .list ds, _, h => by cases h with | lst e r => exact .lst (sql_same' e s) (dpAll_same s ds r)
  | .dict _, _, h => by cases h
theorem dpAll_same (s : Same H H') : ∀ (ds : List PyData) {vs : List V}, DpAll K H vs ds → DpAll K H' vs ds
  | [], _, h => by cases h; exact .nil
  | d :: ds, _, h => by cases h with | cons a r => exact .cons (dp_same s d a) (dpAll_same s ds r)
end
theorem dpAll_len : ∀ {vs : List V} {ds : List PyData}, DpAll K H vs ds → vs.length = ds.length
  | [], ds, h => by cases h; rfl
  | _ :: _, _, h => by cases h with | cons _ r => rw [List.length_cons, List.length_cons, dpAll_len r]
theorem dpAll_get : ∀ {vs : List V} {ds : List PyData} {i : Nat} {d : PyData}, DpAll K H vs ds → ds[i]? = some d → ∃ v, vs[i]? = some v ∧ Dp K H v d
  | _, _, 0, _, .cons a _, e => by
    simp at e; subst e; exact ⟨_, rfl, a⟩
  | _, _, i + 1, _, .cons _ r, e => by
    obtain ⟨v, h1, h2⟩ := dpAll_get (i := i) r (by simpa using e)
    exact ⟨v, by simpa using h1, h2⟩
  | _, _, _, _, .nil, e => by simp at e
theorem dpAll_getV : ∀ {vs : List V} {ds : List PyData} {i : Nat} {v : V}, DpAll K H vs ds → vs[i]? = some v → ∃ d, ds[i]? = some d ∧ Dp K H v d
  | _, _, 0, _, .cons a _, e => by
    simp at e; subst e; exact ⟨_, rfl, a⟩
  | _, _, i + 1, _, .cons _ r, e => by
    obtain ⟨v, h1, h2⟩ := dpAll_getV (i := i) r (by simpa using e)
    exact ⟨v, by simpa using h1, h2⟩
  | _, _, _, _, .nil, e => by simp at e
/-- the name of a thing's type -/
def tyName : PyData → String
  | .none => "NoneType"
  | .bool _ => "bool"
  | .int _ => "int"
  | .str _ => "str"
  | .tuple _ => "tuple"
  | .list _ => "list"
  | .dict _ => "dict"
theorem sqt_ty {a : Addr} {xs : List V} (h : SqT K H a xs) : TyX K H (.ref a) (.type "tuple") := by
  rcases h with (h | ⟨o, h⟩) | ⟨o, its, n, hk, hc, _⟩
  · exact .base (.tup h)
  · exact .fTuple h
  · exact .kTuple hk hc
theorem sql_ty {a : Addr} {xs : List V} (h : SqL K H a xs) : TyX K H (.ref a) (.type "list") := by
  rcases h with (h | ⟨o, h⟩) | ⟨o, its, n, hk, hc, _⟩
  · exact .base (.lst h)
  · exact .base (.frz h)
  · exact .kList hk hc
theorem dp_ty {d : PyData} {v : V} (h : Dp K H v d) : TyX K H v (.type (tyName d)) := by
  cases h with
  | non => exact .base .non
  | bl b => exact .base (.bl b)
  | int i => exact .base (.int i)
  | str x => exact .base (.str x)
  | tup e _ => exact sqt_ty e
  | lst e _ => exact sql_ty e
def jIntB : PyData → Bool
  | .int _ => true
  | .bool _ => true
  | _ => false
def jBool : PyData → Bool
  | .bool _ => true
  | _ => false
def jTup : PyData → Bool
  | .tuple _ => true
  | _ => false
def jStr : PyData → Bool
  | .str _ => true
  | _ => false
theorem kit_int : ∀ d : PyData, kitB (tyName d) "int" = some (jIntB d)
  | .none => show kitB "NoneType" "int" = some false from by decide +kernel
  | .bool _ => show kitB "bool" "int" = some true from by decide +kernel
  | .int _ => show kitB "int" "int" = some true from by decide +kernel
  | .str _ => show kitB "str" "int" = some false from by decide +kernel
  | .tuple _ => show kitB "tuple" "int" = some false from by decide +kernel
  | .list _ => show kitB "list" "int" = some false from by decide +kernel
  | .dict _ => show kitB "dict" "int" = some false from by decide +kernel
theorem kit_bool : ∀ d : PyData, kitB (tyName d) "bool" = some (jBool d)
  | .none => show kitB "NoneType" "bool" = some false from by decide +kernel
  | .bool _ => show kitB "bool" "bool" = some true from by decide +kernel
  | .int _ => show kitB "int" "bool" = some false from by decide +kernel
  | .str _ => show kitB "str" "bool" = some false from by decide +kernel
  | .tuple _ => show kitB "tuple" "bool" = some false from by decide +kernel
  | .list _ => show kitB "list" "bool" = some false from by decide +kernel
  | .dict _ => show kitB "dict" "bool" = some false from by decide +kernel
theorem kit_tup : ∀ d : PyData, kitB (tyName d) "tuple" = some (jTup d)
  | .none => show kitB "NoneType" "tuple" = some false from by decide +kernel
  | .bool _ => show kitB "bool" "tuple" = some false from by decide +kernel
  | .int _ => show kitB "int" "tuple" = some false from by decide +kernel
  | .str _ => show kitB "str" "tuple" = some false from by decide +kernel
  | .tuple _ => show kitB "tuple" "tuple" = some true from by decide +kernel
  | .list _ => show kitB "list" "tuple" = some false from by decide +kernel
  | .dict _ => show kitB "dict" "tuple" = some false from by decide +kernel
theorem kit_str : ∀ d : PyData, kitB (tyName d) "str" = some (jStr d)
  | .none => show kitB "NoneType" "str" = some false from by decide +kernel
  | .bool _ => show kitB "bool" "str" = some false from by decide +kernel
  | .int _ => show kitB "int" "str" = some false from by decide +kernel
  | .str _ => show kitB "str" "str" = some true from by decide +kernel
  | .tuple _ => show kitB "tuple" "str" = some false from by decide +kernel
  | .list _ => show kitB "list" "str" = some false from by decide +kernel
  | .dict _ => show kitB "dict" "str" = some false from by decide +kernel
end
end Ly

set_option Elab.async false
set_option linter.all false
set_option maxRecDepth 100000
/-! dict comprehensions over any walk; the sum of a tuple of ints -/
namespace Ly
open PySem PySem.Spec PyProof.Rows L2
theorem dc_all {J : It} {n : Nat} {G : Hp → Prop} {Y : Nat → Hp → V → Hp → Prop} (w : Walk J n G Y) {g : TG} {tk tv : TE} {vs : List Nat} {σ : L2.St} {H1 : Hp} {D : Addr} {Qd : Hp → Prop} (Pv : Nat → Hp → Prop) (h0 : Pv 0 (upd H1 D (.dK []))) (hG : ∀ i H, i ≤ n → Pv i H → G H)
    (hs : ∀ i x H H', i < n → Pv i H → Y i H x H' → g x (wipe σ vs) H' fun σ2 H2 => wipe σ2 vs = wipe σ vs ∧ tk σ2 H2 fun y H4 => tv σ2 H4 fun z H5 => ∃ kvs k, y = kV k ∧ H5 D = some (.dK kvs) ∧ kvs.length < sizeLine ∧ Pv (i + 1) (upd H5 D (.dK (putK kvs k z))))
    (hd : ∀ H, Pv n H → Qd H) :
    ∃ W : Nat → Nat → Hp → Prop, (∃ m, W 0 m (upd H1 D (.dK []))) ∧ ∀ i m H, W i m H →
      (J.stop i H ∧ Qd H) ∨ (J.go i H ∧ ∃ Nx : Hp → Prop, (∀ H', Nx H' → ∃ m', m' < m ∧ W (i + 1) m' H') ∧ ∀ x H', J.yld i H x H' → g x (wipe σ vs) H' fun σ2 H2 => wipe σ2 vs = wipe σ vs ∧ tYes σ2 H2 fun b H3 =>
        if b = true then tk σ2 H3 fun y H4 => tv σ2 H4 fun z H5 => ∃ kvs k, y = kV k ∧ H5 D = some (.dK kvs) ∧ kvs.length < sizeLine ∧ Nx (upd H5 D (.dK (putK kvs k z))) else Nx H3) := by
  refine ⟨fun i m H => m = n - i ∧ i ≤ n ∧ Pv i H, ⟨n, by simp, Nat.zero_le _, h0⟩, ?_⟩
  rintro i m H ⟨rfl, hi, p⟩
  have q := hG i H hi p
  by_cases hlt : i < n
  · refine .inr ⟨w.goes i H hlt q, Pv (i + 1), fun H' p' => ⟨n - (i + 1), by omega, rfl, hlt, p'⟩, fun x H' y => ?_⟩
    have h := hs i x H H' hlt p (w.yields i H x H' hlt q y)
    refine Eq.mp (congrArg (g x (wipe σ vs) H') ?_) h
    funext σ2 H2
    simp only [tYes, if_true]
  · have e : i = n := by omega
    subst e
    exact .inl ⟨w.stops H q, hd H p⟩
theorem toks_of : ∀ {ns : List Int} {us : List Value}, Vals (ns.map V.int) us → ∃ ps : List (Int × Tok), us = ps.map (fun p => Value.int p.1 p.2) ∧ ps.map (·.1) = ns
  | [], _, .nil => ⟨[], rfl, rfl⟩
  | n :: ns, _, .cons r t => by
    obtain ⟨k, rfl⟩ := r
    obtain ⟨ps, e1, e2⟩ := toks_of t
    exact ⟨(n, k) :: ps, by rw [e1]; rfl, by rw [← e2]; rfl⟩
def rSumT (K : PySem.W.Frag) : List V → Hp → VK → Prop := fun vs H Q => ∃ (a : Addr) (ns : List Int), vs = [V.ref a] ∧ SqT K H a (ns.map V.int) ∧ Q (.int ns.sum) H
theorem cr_sumT {X : Cx} (K : PySem.W.Frag) (hc : X.calm = true := by rfl) (eK : X.K = K := by rfl) : CallR X (.builtin "sum") (rSumT K) := by
  subst eK
  intro pins s σ H vs us Q I r h
  obtain ⟨a, ns, rfl, hs, q⟩ := h
  obtain ⟨its, rv, ht, _⟩ := I.tuple hs
  rw [Vals.ref1 r]
  obtain ⟨ps, e1, e2⟩ := toks_of rv
  have e3 : its.toArray = intItems ps.toArray := by
    rw [e1]; simp [intItems]
  have e4 : preSum (numAt ps.toArray) ps.toArray.size = ns.sum := by
    rw [preSum_eq, List.take_of_length_le (by simp)]
    show (ps.map (·.1)).sum = _
    rw [e2]
  refine PySem.W.ktm_sumG (xs := ps.toArray) (I.ok.hd hc) (by rw [← e3]; exact ht) fun h' tk t' hk => ?_
  rw [e4]
  exact ⟨.int _, H, I.kept hk, ⟨t', rfl⟩, q⟩
theorem kop_inS {X : Cx} (K : PySem.W.Frag) (eK : X.K = K := by rfl) : OpR X (compareOp .In) (rIn K false) := by subst eK; exact op_in_seq
/-- one sign of a text -/
def sgn (c : Nat) : Str := ⟨#[c]⟩
end Ly

set_option Elab.async false
set_option linter.all false
set_option maxRecDepth 100000
/-! len(set(xs)) of a list of unlike texts -/
namespace Ly
open PySem PySem.Spec PyProof.Rows L2
/-- one of the first i texts -/
def among (ys : List Str) (i : Nat) (z : Str) : Bool := (ys.take i).any (· == z)
theorem among_step {ys : List Str} {i : Nat} {x : Str} (h : ys[i]? = some x) (z : Str) : (among ys i z || decide (z = x)) = among ys (i + 1) z := by
  unfold among
  rw [List.take_add_one, h, List.any_append]
  congr 1
  show decide (z = x) = (x == z || false)
  by_cases e : z = x
  · subst e; simp
  · rw [decide_eq_false e, Bool.or_false]
    exact (beq_eq_false_iff_ne.mpr fun q => e q.symm).symm
theorem among_not {ys : List Str} {i : Nat} {x : Str} (nd : ys.Nodup) (h : ys[i]? = some x) : among ys i x = false := by
  unfold among
  rw [List.any_eq_false]
  intro y hy e
  obtain ⟨j, hj⟩ := List.mem_iff_getElem?.mp hy
  have hji : j < i := by
    have := (List.getElem?_eq_some_iff.mp hj).1
    rw [List.length_take] at this
    omega
  rw [List.getElem?_take, if_pos hji] at hj
  have exy : y = x := by simpa using e
  subst exy
  obtain ⟨hi, e1⟩ := List.getElem?_eq_some_iff.mp h
  obtain ⟨hj', e2⟩ := List.getElem?_eq_some_iff.mp hj
  have := List.pairwise_iff_getElem.mp nd j i hj' hi hji
  exact this (e2.trans e1.symm)
section
variable {prog : Program} {w : World} {A : Around} {R : Result → Shared → Prop} {it : Addr} {fp wr : List Addr} {G : Array GenState → Array GenState → Prop} {n : Nat} {P : Nat → Value → Prop} {St : Nat → Shared → Prop}
theorem fillTexts (W : WalksS prog w A.in1 it fp wr G n P St) (D : Addr) (nD : D ∉ fp) (ys : List Str) (ly : ys.length = n) (nd : ys.Nodup) (few : n ≤ 1000) (vals : ∀ i v, P i v → ∃ t, v = .str (ys.getD i Str.empty) t)
    (fin : ∀ s', Moved (D :: wr) G s0 s' → s'.heap.SetOf (PySem.strKind prog w) D (among ys n) n → R (.ok (.ret .none)) s') :
    ∀ (left i : Nat) (s : Shared), i + left = n → St i s → Moved (D :: wr) G s0 s → s.heap.SetOf (PySem.strKind prog w) D (among ys i) i → codeAny (model prog w) A (.builtin "set.update.loop" ⟨[.ref D, .ref it], []⟩) R s
  | 0, i, s, hl, st, mv, so => by
    obtain rfl : i = n := by omega
    refine codeAny_builtin PyProof.Rows.F.entry_set_update_loop ?_
    rw [Around.under_plainId PyProof.Rows.F.plain_set_update_loop _]
    show wpAny _ A.in1 (pyNext (.ref it) >>= _) _ _ s
    refine wpAny_bind (W.done s _ _ st fun s2 m2 => ?_)
    show wpAny _ A.in1 (ret Value.none) _ _ s2
    refine wpAny_pure (fin s2 (Moved.trans W.gtrans mv (m2.mono fun b hb => List.mem_cons_of_mem _ hb)) ?_)
    obtain ⟨ob, es, ep, tb, ho, more⟩ := so
    exact ⟨ob, es, ep, tb, m2.heap D _ (fun h => nD (W.sub _ h)) ho, more⟩
  | left + 1, i, s, hl, st, mv, so => by
    have hi : i < n := by omega
    have hx : ys[i]? = some (ys.getD i Str.empty) := by
      rw [List.getD_eq_getElem?_getD, List.getElem?_eq_getElem (by omega)]; rfl
    refine codeAny_builtin PyProof.Rows.F.entry_set_update_loop ?_
    rw [Around.under_plainId PyProof.Rows.F.plain_set_update_loop _]
    show wpAny _ A.in1 (pyNext (.ref it) >>= _) _ _ s
    refine wpAny_bind (W.item i s _ _ hi st fun v s2 pv st2 m2 => ?_)
    obtain ⟨t, rfl⟩ := vals i v pv
    have so2 : s2.heap.SetOf (PySem.strKind prog w) D (among ys i) i := by
      obtain ⟨ob, es, ep, tb, ho, more⟩ := so
      exact ⟨ob, es, ep, tb, m2.heap D _ (fun h => nD (W.sub _ h)) ho, more⟩
    show wpAny _ A.in1 (holding [Value.str (ys.getD i Str.empty) t] (setAdd D (.str (ys.getD i Str.empty) t)) >>= _) _ _ s2
    refine wpAny_bind (wpAny_holding ?_)
    unfold setAdd
    refine wpAny_holding (wpAny_bind ((PySem.strKind prog w).pyHash (k := ys.getD i Str.empty) (strKind_is _ _ _ _) ?_))
    refine wpAny_setAddHashed_of (knd := PySem.strKind prog w) (s := { s2 with toks := s2.toks + 1 }) (strKind_is _ _ _ _) rfl so2 (by unfold scanBound; omega) fun h3 but so3 => ?_
    rw [among_not nd hx, if_neg Bool.false_ne_true] at so3
    have so4 := SetOf_congr so3 (among_step hx) rfl
    have mv2 := Moved.trans W.gtrans mv (m2.mono (wr' := D :: wr) fun b hb => List.mem_cons_of_mem _ hb)
    have mv3 : Moved (D :: wr) G s0 { s2 with heap := h3, toks := s2.toks + 1 } := mv2.then_heap (Nat.le_succ _) fun b o hb e => by
      rw [but.2 b fun q => hb (by rw [q]; exact List.mem_cons_self)]; exact e
    refine wpAny_pure ⟨plainId_quiet PyProof.Rows.F.plain_set_update_loop _, fillTexts W D nD ys ly nd few vals fin left (i + 1) _ (by omega) (W.frame _ s2 _ _ st2 (Nat.le_succ _) fun b hb o e => ?_) mv3 so4⟩
    rw [but.2 b fun q => nD (by rw [← q]; exact hb)]; exact e
end
theorem texts_at : ∀ {us : List Value} {ys : List Str}, StrsAre us ys → ∀ (i : Nat) (v : Value), us[i]? = some v → ∃ t, v = .str (ys.getD i Str.empty) t
  | _, _, .nil, i, v, h => by simp at h
  | _, _, .cons n t hr, 0, v, h => ⟨t, by have := Option.some.inj h; exact this.symm⟩
  | _, _, .cons n t hr, i + 1, v, h => texts_at hr i v h
section
variable {prog : Program} {w : World} {A : Around} {E : Value → Shared → Prop} {s : Shared}
set_option maxHeartbeats 3200000 in
theorem call_set_texts {l : Addr} {us : Array Value} {ys : List Str} {Q : Value → Shared → Prop} (hh : A.handled = none) (hl : s.heap.IsList l us) (hi : PyProof.Rows.StrsAre us.toList ys) (nd : ys.Nodup) (few : ys.length ≤ 1000)
    (h : ∀ (h2 : Heap) (t2 : Nat), h2.SetOf (PySem.strKind prog w) s.heap.objs.size (among ys us.size) us.size → (∀ b o, b < s.heap.objs.size → s.heap.get? b = some o → h2.get? b = some o) → Q (.ref s.heap.objs.size) { s with heap := h2, toks := t2 }) :
    wpAny (model prog w) A (call (.type "set") [.ref l]) Q E s := by
  obtain ⟨k1, k2, h3⟩ := PySem.F.called_set.mro
  have h4 := PySem.F.called_set.made
  have h5 := PySem.F.called_set.sub
  refine wpAny_call (codeAny_of_tree ?_)
  show wpAny _ _ (callAny (.type "set") _) _ _ _
  refine wpAny_pure ⟨Code.quiet_builtin _ (by decide +kernel), codeAny_builtin PySem.F.entry_type_call ?_⟩
  rw [Around.under_plain (weight_type_call_type "set" [.ref l] []) rfl]
  have h6 := PySem.F.called_set.notType
  have h7 := PySem.F.called_set.canCreate
  have h8 := PySem.F.typeCall_set_1 (.ref l)
  repeat (any_goals (first | assumption | wp_step))
  refine codeAny_mono (code_set_new_1 (.ref l) (E := E) (Q₁ := fun v s1 => ∃ led : Bool, v = .ref s.heap.objs.size ∧ s1 = { s with heap := s.heap.push { cls := .type "set", dict := none, data := .set #[] 0 (.fresh 0 0 led) } }) fun led => ⟨led, rfl, rfl⟩) fun r s1 hr => ?_
  match r, hr with
  | .error e, hr => exact hr
  | .ok .next, hr => exact hr.elim
  | .ok .brk, hr => exact hr.elim
  | .ok .cont, hr => exact hr.elim
  | .ok (.ret v), hr =>
    obtain ⟨led, rfl, rfl⟩ := hr
    have at0 : (s.heap.push { cls := .type "set", dict := none, data := .set #[] 0 (.fresh 0 0 led) }).get? s.heap.objs.size = some { cls := .type "set", dict := none, data := .set #[] 0 (.fresh 0 0 led) } := Heap.get?_push_size _ rfl
    have ty0 : Shared.TypeIs { s with heap := s.heap.push { cls := .type "set", dict := none, data := .set #[] 0 (.fresh 0 0 led) } } (.ref s.heap.objs.size) "set" := ⟨_, at0, rfl⟩
    have i1 := PySem.F.called_set.init.lookup
    have i2 := PySem.F.called_set.init.bind (.ref s.heap.objs.size)
    repeat (any_goals (first | assumption | wp_step))
    refine codeAny_mono (codeAny_call_builtin (R := wants (fun r s2 => r = .none ∧ ∃ h2 t2, s2 = { s with heap := h2, toks := t2 } ∧ h2.SetOf (PySem.strKind prog w) s.heap.objs.size (among ys us.size) us.size ∧ ∀ b o, b < s.heap.objs.size → s.heap.get? b = some o → h2.get? b = some o) E) PySem.F.called_set.init.plain PySem.F.entry_set_init (check_set_init_1 ty0 ?_)) fun r2 s2 hr2 => ?_
    · obtain ⟨ol, hol, hcl, nl, hdl⟩ := hl
      obtain ⟨ocls, odict, odata, oslots⟩ := ol
      simp only at hcl hdl
      subst hcl
      subst hdl
      have at1 : (s.heap.push { cls := .type "set", dict := none, data := .set #[] 0 (.fresh 0 0 led) }).get? l = some { cls := .type "list", dict := odict, data := .seq us nl, slots := oslots } := Heap.get?_push_of_some _ hol
      have n1 := PySem.F.sub_list_set
      have n2 := PySem.F.sub_list_frozenset
      have n3 : (Value.type "list" == Value.type "dict") = false := by decide
      have l1 : (s.heap.push { cls := .type "set", dict := none, data := .set #[] 0 (.fresh 0 0 led) }).IsList l us := ⟨_, at1, rfl, nl, rfl⟩
      unfold Builtin.«set.__init__» noKeywords Builtin.Frozenset.updateFrom
      generalize hPI : pyIter = PI
      wp_walk
      subst hPI
      refine wpAny_pyIter_list l1 (wpAny_bind (wpAny_runValue ?_))
      have ll : l < s.heap.objs.size := Heap.lt_size hol
      have h9 : A.in1.in1.in1.handled = none := by simp [hh]
      have e0 : (s.heap.push { cls := .type "set", dict := none, data := .set #[] 0 (.fresh 0 0 led) }).objs.size = s.heap.objs.size + 1 := Heap.size_push ..
      have nI : l ≠ (s.heap.push { cls := .type "set", dict := none, data := .set #[] 0 (.fresh 0 0 led) }).objs.size := by
        rw [e0]; exact Nat.ne_of_lt (Nat.lt_succ_of_lt ll)
      have nS : s.heap.objs.size ∉ [(s.heap.push { cls := .type "set", dict := none, data := .set #[] 0 (.fresh 0 0 led) }).objs.size, l] := by
        rw [e0]
        intro z
        rcases List.mem_cons.mp z with z | z
        · exact absurd z (Nat.ne_of_lt (Nat.lt_succ_self _))
        · exact absurd (List.mem_singleton.mp z) (Nat.ne_of_gt ll)
      have ly : ys.length = us.size := by rw [← StrsAre.len_eq hi, Array.length_toList]
      refine fillTexts ((Walks.list h9 _ l nI us).toS) s.heap.objs.size nS ys ly nd (by omega) (fun i v hv => texts_at hi i v (by rw [Array.getElem?_toList]; exact hv)) ?fin us.size 0 _ (by omega) ⟨⟨_, Heap.get?_push_size _ rfl, rfl, rfl⟩, (l1.push _)⟩ (Moved.refl (hg := fun _ => rfl) ..) ?st
      case st =>
        have at2 : ((s.heap.push { cls := .type "set", dict := none, data := .set #[] 0 (.fresh 0 0 led) }).push { cls := .type "list_iterator", data := .fields #[.ref l, .int 0 0] }).get? s.heap.objs.size = some { cls := .type "set", dict := none, data := .set #[] 0 (.fresh 0 0 led) } := Heap.get?_push_of_some _ at0
        exact SetOf_congr ((setObjOf_fresh (knd := PySem.strKind prog w) led).setOf at2 (by unfold scanBound; omega)) (fun _ => rfl) rfl
      case fin =>
        intro s' hm hS'
        obtain ⟨h2, g2, d2, t2, o2⟩ := s'
        have eg : g2 = s.gens := hm.gens
        have ed : d2 = s.drawn := hm.drawn
        have eo : o2 = s.os := hm.os
        subst eg ed eo
        show wpAny _ _ _ _ _ _
        refine wpAny_pure ?_
        show wpAny _ _ (ret Value.none) _ _ _
        refine wpAny_pure ⟨rfl, h2, t2, rfl, hS', fun b o hb e => hm.heap b o (fun z => ?_) (Heap.get?_push_of_some _ (Heap.get?_push_of_some _ e))⟩
        rcases List.mem_cons.mp z with z | z
        · exact absurd z (Nat.ne_of_lt hb)
        · have z2 := List.mem_singleton.mp z
          rw [e0] at z2
          exact absurd z2 (Nat.ne_of_lt (Nat.lt_succ_of_lt hb))
    · match r2, hr2 with
      | .error e, hr2 => exact hr2
      | .ok .next, hr2 => exact hr2.elim
      | .ok .brk, hr2 => exact hr2.elim
      | .ok .cont, hr2 => exact hr2.elim
      | .ok (.ret r), hr2 =>
        obtain ⟨rfl, h2, t2, rfl, so, kp⟩ := hr2
        repeat (any_goals (first | assumption | wp_step))
        exact h _ _ so kp
end
/-- len(set(xs)) of unlike texts -/
def tLenSetT (K : PySem.W.Frag) (ta : TE) : TE := fun σ H Q => ta σ H fun x H1 => ∃ (l : Addr) (ys : List Str), x = .ref l ∧ SqL K H1 l (ys.map V.str) ∧ ys.Nodup ∧ ys.length ≤ 1000 ∧ Q (.int (ys.length : Nat)) H1
theorem pe_lenSetT {X : Cx} (K : PySem.W.Frag) {a : Expr} {ta : TE} {p p2 q pos : Pos} (hg : Gl X "len") (hm : X.mg "len" = none) (hg2 : Gl X "set") (hm2 : X.mg "set" = none) (ha : PE X a ta) (hc : X.calm = true := by rfl)
    (na : starEach [a] X.env = (false, eval a X.env) :: starEach [] X.env := by rfl) (eK : X.K = K := by rfl) : PE X (.Call (.Name "len" p) [.Call (.Name "set" p2) [a] [] q] [] pos) (tLenSetT K ta) := by
  subst eK
  refine ⟨fun pins s σ H Q I h => Call_ (ld_blt I hg hm boot_len (callWith_builtin1 (args_cons (Call_ (ld_blt I hg2 hm2 boot_set ?_)) rfl) rfl rfl))⟩
  refine callWith_type1 (args_cons (thn (ha.run pins s σ H _ I h) fun v s1 ⟨x, H1, I1, r1, l, ys, ex, hq, nd, few, q1⟩ => args_nil ?_) na) na rfl
  subst ex
  cases r1
  obtain ⟨its, r, pl, hz⟩ := I1.list hq
  have e1 : its.toArray.size = ys.length := by rw [List.size_toArray, ← r.length, List.length_map]
  refine call_set_texts (I1.ok.hd hc) pl.isList (by simpa using strsAre_of r) nd few fun h2 tk so hk => args_nil ?_
  obtain ⟨o, es, ep, t, ho, hex, hd, _, _, _, hf, hn⟩ := so
  have I2 : Inv X pins σ H1 { s1 with heap := h2, toks := tk } := I1.kept fun b o e => hk b o (Heap.lt_size e) e
  exact call_len_set ho hex hd hf (by rw [hn] <;> omega) ⟨.int ys.length, H1, I2.tok _, ⟨_, by rw [hn, e1]⟩, q1⟩
end Ly

set_option Elab.async false
set_option linter.all false
set_option maxRecDepth 100000
/-! len(set(xs)) of any list of texts: the number of unlike ones -/
namespace Ly
open PySem PySem.Spec PyProof.Rows L2
/-- how many unlike ones there are among the first i texts -/
def dist (ys : List Str) : Nat → Nat
  | 0 => 0
  | i + 1 => if among ys i (ys.getD i Str.empty) = true then dist ys i else dist ys i + 1
theorem dist_le (ys : List Str) : ∀ i, dist ys i ≤ i
  | 0 => Nat.le_refl _
  | i + 1 => by
    have := dist_le ys i
    unfold dist
    split <;> omega
theorem among_iff {ys : List Str} {i : Nat} {x : Str} : among ys i x = true ↔ x ∈ ys.take i := by
  unfold among
  rw [List.any_eq_true]
  constructor
  · rintro ⟨y, hy, e⟩
    have : y = x := by simpa using e
    rw [← this]; exact hy
  · intro h
    exact ⟨x, h, by simp⟩
theorem dist_nd (ys : List Str) : ∀ i, i ≤ ys.length → (dist ys i = i ↔ (ys.take i).Nodup)
  | 0, _ => by simp [dist]
  | i + 1, hi => by
    have ih := dist_nd ys i (by omega)
    have le := dist_le ys i
    have hx : ys[i]? = some (ys.getD i Str.empty) := by
      rw [List.getD_eq_getElem?_getD, List.getElem?_eq_getElem (by omega)]; rfl
    have et : ys.take (i + 1) = ys.take i ++ [ys.getD i Str.empty] := by rw [List.take_add_one, hx]; rfl
    rw [et, List.nodup_append]
    unfold dist
    by_cases h : among ys i (ys.getD i Str.empty) = true
    · rw [if_pos h]
      refine ⟨fun z => by omega, fun z => ?_⟩
      exact absurd rfl (z.2.2 _ (among_iff.mp h) _ (List.mem_singleton.mpr rfl))
    · rw [if_neg h]
      refine ⟨fun z => ⟨ih.mp (by omega), List.pairwise_singleton _ _, fun a ha b hb e => ?_⟩, fun z => by have := ih.mpr z.1; omega⟩
      rw [List.mem_singleton.mp hb] at e
      exact h (among_iff.mpr (by rw [← e]; exact ha))
/-- all are unlike -/
theorem dist_all (ys : List Str) : decide (((dist ys ys.length : Nat) : Int) = (ys.length : Nat)) = decide ys.Nodup := by
  have := dist_nd ys ys.length (Nat.le_refl _)
  rw [List.take_of_length_le (Nat.le_refl _)] at this
  exact decide_eq_decide.mpr ⟨fun h => this.mp (by omega), fun h => by rw [this.mpr h]⟩
section
variable {prog : Program} {w : World} {A : Around} {R : Result → Shared → Prop} {it : Addr} {fp wr : List Addr} {G : Array GenState → Array GenState → Prop} {n : Nat} {P : Nat → Value → Prop} {St : Nat → Shared → Prop}
theorem fillTextsG (W : WalksS prog w A.in1 it fp wr G n P St) (D : Addr) (nD : D ∉ fp) (ys : List Str) (ly : ys.length = n) (few : n ≤ 1000) (vals : ∀ i v, P i v → ∃ t, v = .str (ys.getD i Str.empty) t)
    (fin : ∀ s', Moved (D :: wr) G s0 s' → s'.heap.SetOf (PySem.strKind prog w) D (among ys n) (dist ys n) → R (.ok (.ret .none)) s') :
    ∀ (left i : Nat) (s : Shared), i + left = n → St i s → Moved (D :: wr) G s0 s → s.heap.SetOf (PySem.strKind prog w) D (among ys i) (dist ys i) → codeAny (model prog w) A (.builtin "set.update.loop" ⟨[.ref D, .ref it], []⟩) R s
  | 0, i, s, hl, st, mv, so => by
    obtain rfl : i = n := by omega
    refine codeAny_builtin PyProof.Rows.F.entry_set_update_loop ?_
    rw [Around.under_plainId PyProof.Rows.F.plain_set_update_loop _]
    show wpAny _ A.in1 (pyNext (.ref it) >>= _) _ _ s
    refine wpAny_bind (W.done s _ _ st fun s2 m2 => ?_)
    show wpAny _ A.in1 (ret Value.none) _ _ s2
    refine wpAny_pure (fin s2 (Moved.trans W.gtrans mv (m2.mono fun b hb => List.mem_cons_of_mem _ hb)) ?_)
    obtain ⟨ob, es, ep, tb, ho, more⟩ := so
    exact ⟨ob, es, ep, tb, m2.heap D _ (fun h => nD (W.sub _ h)) ho, more⟩
  | left + 1, i, s, hl, st, mv, so => by
    have hi : i < n := by omega
    have hx : ys[i]? = some (ys.getD i Str.empty) := by
      rw [List.getD_eq_getElem?_getD, List.getElem?_eq_getElem (by omega)]; rfl
    refine codeAny_builtin PyProof.Rows.F.entry_set_update_loop ?_
    rw [Around.under_plainId PyProof.Rows.F.plain_set_update_loop _]
    show wpAny _ A.in1 (pyNext (.ref it) >>= _) _ _ s
    refine wpAny_bind (W.item i s _ _ hi st fun v s2 pv st2 m2 => ?_)
    obtain ⟨t, rfl⟩ := vals i v pv
    have so2 : s2.heap.SetOf (PySem.strKind prog w) D (among ys i) (dist ys i) := by
      obtain ⟨ob, es, ep, tb, ho, more⟩ := so
      exact ⟨ob, es, ep, tb, m2.heap D _ (fun h => nD (W.sub _ h)) ho, more⟩
    show wpAny _ A.in1 (holding [Value.str (ys.getD i Str.empty) t] (setAdd D (.str (ys.getD i Str.empty) t)) >>= _) _ _ s2
    refine wpAny_bind (wpAny_holding ?_)
    unfold setAdd
    refine wpAny_holding (wpAny_bind ((PySem.strKind prog w).pyHash (k := ys.getD i Str.empty) (strKind_is _ _ _ _) ?_))
    refine wpAny_setAddHashed_of (knd := PySem.strKind prog w) (s := { s2 with toks := s2.toks + 1 }) (strKind_is _ _ _ _) rfl so2 (by have := dist_le ys i; unfold scanBound; omega) fun h3 but so3 => ?_
    have so4 := SetOf_congr so3 (among_step hx) (show _ = dist ys (i + 1) from rfl)
    have mv2 := Moved.trans W.gtrans mv (m2.mono (wr' := D :: wr) fun b hb => List.mem_cons_of_mem _ hb)
    have mv3 : Moved (D :: wr) G s0 { s2 with heap := h3, toks := s2.toks + 1 } := mv2.then_heap (Nat.le_succ _) fun b o hb e => by
      rw [but.2 b fun q => hb (by rw [q]; exact List.mem_cons_self)]; exact e
    refine wpAny_pure ⟨plainId_quiet PyProof.Rows.F.plain_set_update_loop _, fillTextsG W D nD ys ly few vals fin left (i + 1) _ (by omega) (W.frame _ s2 _ _ st2 (Nat.le_succ _) fun b hb o e => ?_) mv3 so4⟩
    rw [but.2 b fun q => nD (by rw [← q]; exact hb)]; exact e
end
section
variable {prog : Program} {w : World} {A : Around} {E : Value → Shared → Prop} {s : Shared}
set_option maxHeartbeats 3200000 in
theorem call_set_textsG {l : Addr} {us : Array Value} {ys : List Str} {Q : Value → Shared → Prop} (hh : A.handled = none) (hl : s.heap.IsList l us) (hi : PyProof.Rows.StrsAre us.toList ys) (few : ys.length ≤ 1000)
    (h : ∀ (h2 : Heap) (t2 : Nat), h2.SetOf (PySem.strKind prog w) s.heap.objs.size (among ys us.size) (dist ys us.size) → (∀ b o, b < s.heap.objs.size → s.heap.get? b = some o → h2.get? b = some o) → Q (.ref s.heap.objs.size) { s with heap := h2, toks := t2 }) :
    wpAny (model prog w) A (call (.type "set") [.ref l]) Q E s := by
  obtain ⟨k1, k2, h3⟩ := PySem.F.called_set.mro
  have h4 := PySem.F.called_set.made
  have h5 := PySem.F.called_set.sub
  refine wpAny_call (codeAny_of_tree ?_)
  show wpAny _ _ (callAny (.type "set") _) _ _ _
  refine wpAny_pure ⟨Code.quiet_builtin _ (by decide +kernel), codeAny_builtin PySem.F.entry_type_call ?_⟩
  rw [Around.under_plain (weight_type_call_type "set" [.ref l] []) rfl]
  have h6 := PySem.F.called_set.notType
  have h7 := PySem.F.called_set.canCreate
  have h8 := PySem.F.typeCall_set_1 (.ref l)
  repeat (any_goals (first | assumption | wp_step))
  refine codeAny_mono (code_set_new_1 (.ref l) (E := E) (Q₁ := fun v s1 => ∃ led : Bool, v = .ref s.heap.objs.size ∧ s1 = { s with heap := s.heap.push { cls := .type "set", dict := none, data := .set #[] 0 (.fresh 0 0 led) } }) fun led => ⟨led, rfl, rfl⟩) fun r s1 hr => ?_
  match r, hr with
  | .error e, hr => exact hr
  | .ok .next, hr => exact hr.elim
  | .ok .brk, hr => exact hr.elim
  | .ok .cont, hr => exact hr.elim
  | .ok (.ret v), hr =>
    obtain ⟨led, rfl, rfl⟩ := hr
    have at0 : (s.heap.push { cls := .type "set", dict := none, data := .set #[] 0 (.fresh 0 0 led) }).get? s.heap.objs.size = some { cls := .type "set", dict := none, data := .set #[] 0 (.fresh 0 0 led) } := Heap.get?_push_size _ rfl
    have ty0 : Shared.TypeIs { s with heap := s.heap.push { cls := .type "set", dict := none, data := .set #[] 0 (.fresh 0 0 led) } } (.ref s.heap.objs.size) "set" := ⟨_, at0, rfl⟩
    have i1 := PySem.F.called_set.init.lookup
    have i2 := PySem.F.called_set.init.bind (.ref s.heap.objs.size)
    repeat (any_goals (first | assumption | wp_step))
    refine codeAny_mono (codeAny_call_builtin (R := wants (fun r s2 => r = .none ∧ ∃ h2 t2, s2 = { s with heap := h2, toks := t2 } ∧ h2.SetOf (PySem.strKind prog w) s.heap.objs.size (among ys us.size) (dist ys us.size) ∧ ∀ b o, b < s.heap.objs.size → s.heap.get? b = some o → h2.get? b = some o) E) PySem.F.called_set.init.plain PySem.F.entry_set_init (check_set_init_1 ty0 ?_)) fun r2 s2 hr2 => ?_
    · obtain ⟨ol, hol, hcl, nl, hdl⟩ := hl
      obtain ⟨ocls, odict, odata, oslots⟩ := ol
      simp only at hcl hdl
      subst hcl
      subst hdl
      have at1 : (s.heap.push { cls := .type "set", dict := none, data := .set #[] 0 (.fresh 0 0 led) }).get? l = some { cls := .type "list", dict := odict, data := .seq us nl, slots := oslots } := Heap.get?_push_of_some _ hol
      have n1 := PySem.F.sub_list_set
      have n2 := PySem.F.sub_list_frozenset
      have n3 : (Value.type "list" == Value.type "dict") = false := by decide
      have l1 : (s.heap.push { cls := .type "set", dict := none, data := .set #[] 0 (.fresh 0 0 led) }).IsList l us := ⟨_, at1, rfl, nl, rfl⟩
      unfold Builtin.«set.__init__» noKeywords Builtin.Frozenset.updateFrom
      generalize hPI : pyIter = PI
      wp_walk
      subst hPI
      refine wpAny_pyIter_list l1 (wpAny_bind (wpAny_runValue ?_))
      have ll : l < s.heap.objs.size := Heap.lt_size hol
      have h9 : A.in1.in1.in1.handled = none := by simp [hh]
      have e0 : (s.heap.push { cls := .type "set", dict := none, data := .set #[] 0 (.fresh 0 0 led) }).objs.size = s.heap.objs.size + 1 := Heap.size_push ..
      have nI : l ≠ (s.heap.push { cls := .type "set", dict := none, data := .set #[] 0 (.fresh 0 0 led) }).objs.size := by
        rw [e0]; exact Nat.ne_of_lt (Nat.lt_succ_of_lt ll)
      have nS : s.heap.objs.size ∉ [(s.heap.push { cls := .type "set", dict := none, data := .set #[] 0 (.fresh 0 0 led) }).objs.size, l] := by
        rw [e0]
        intro z
        rcases List.mem_cons.mp z with z | z
        · exact absurd z (Nat.ne_of_lt (Nat.lt_succ_self _))
        · exact absurd (List.mem_singleton.mp z) (Nat.ne_of_gt ll)
      have ly : ys.length = us.size := by rw [← StrsAre.len_eq hi, Array.length_toList]
      refine fillTextsG ((Walks.list h9 _ l nI us).toS) s.heap.objs.size nS ys ly (by omega) (fun i v hv => texts_at hi i v (by rw [Array.getElem?_toList]; exact hv)) ?fin us.size 0 _ (by omega) ⟨⟨_, Heap.get?_push_size _ rfl, rfl, rfl⟩, (l1.push _)⟩ (Moved.refl (hg := fun _ => rfl) ..) ?st
      case st =>
        have at2 : ((s.heap.push { cls := .type "set", dict := none, data := .set #[] 0 (.fresh 0 0 led) }).push { cls := .type "list_iterator", data := .fields #[.ref l, .int 0 0] }).get? s.heap.objs.size = some { cls := .type "set", dict := none, data := .set #[] 0 (.fresh 0 0 led) } := Heap.get?_push_of_some _ at0
        exact SetOf_congr ((setObjOf_fresh (knd := PySem.strKind prog w) led).setOf at2 (by unfold scanBound; omega)) (fun _ => rfl) rfl
      case fin =>
        intro s' hm hS'
        obtain ⟨h2, g2, d2, t2, o2⟩ := s'
        have eg : g2 = s.gens := hm.gens
        have ed : d2 = s.drawn := hm.drawn
        have eo : o2 = s.os := hm.os
        subst eg ed eo
        show wpAny _ _ _ _ _ _
        refine wpAny_pure ?_
        show wpAny _ _ (ret Value.none) _ _ _
        refine wpAny_pure ⟨rfl, h2, t2, rfl, hS', fun b o hb e => hm.heap b o (fun z => ?_) (Heap.get?_push_of_some _ (Heap.get?_push_of_some _ e))⟩
        rcases List.mem_cons.mp z with z | z
        · exact absurd z (Nat.ne_of_lt hb)
        · have z2 := List.mem_singleton.mp z
          rw [e0] at z2
          exact absurd z2 (Nat.ne_of_lt (Nat.lt_succ_of_lt hb))
    · match r2, hr2 with
      | .error e, hr2 => exact hr2
      | .ok .next, hr2 => exact hr2.elim
      | .ok .brk, hr2 => exact hr2.elim
      | .ok .cont, hr2 => exact hr2.elim
      | .ok (.ret r), hr2 =>
        obtain ⟨rfl, h2, t2, rfl, so, kp⟩ := hr2
        repeat (any_goals (first | assumption | wp_step))
        exact h _ _ so kp
end
/-- len(set(xs)) of unlike texts -/
def tLenSetG (K : PySem.W.Frag) (ta : TE) : TE := fun σ H Q => ta σ H fun x H1 => ∃ (l : Addr) (ys : List Str), x = .ref l ∧ SqL K H1 l (ys.map V.str) ∧ ys.length ≤ 1000 ∧ Q (.int (dist ys ys.length : Nat)) H1
theorem pe_lenSetG {X : Cx} (K : PySem.W.Frag) {a : Expr} {ta : TE} {p p2 q pos : Pos} (hg : Gl X "len") (hm : X.mg "len" = none) (hg2 : Gl X "set") (hm2 : X.mg "set" = none) (ha : PE X a ta) (hc : X.calm = true := by rfl)
    (na : starEach [a] X.env = (false, eval a X.env) :: starEach [] X.env := by rfl) (eK : X.K = K := by rfl) : PE X (.Call (.Name "len" p) [.Call (.Name "set" p2) [a] [] q] [] pos) (tLenSetG K ta) := by
  subst eK
  refine ⟨fun pins s σ H Q I h => Call_ (ld_blt I hg hm boot_len (callWith_builtin1 (args_cons (Call_ (ld_blt I hg2 hm2 boot_set ?_)) rfl) rfl rfl))⟩
  refine callWith_type1 (args_cons (thn (ha.run pins s σ H _ I h) fun v s1 ⟨x, H1, I1, r1, l, ys, ex, hq, few, q1⟩ => args_nil ?_) na) na rfl
  subst ex
  cases r1
  obtain ⟨its, r, pl, hz⟩ := I1.list hq
  have e1 : its.toArray.size = ys.length := by rw [List.size_toArray, ← r.length, List.length_map]
  refine call_set_textsG (I1.ok.hd hc) pl.isList (by simpa using strsAre_of r) few fun h2 tk so hk => args_nil ?_
  obtain ⟨o, es, ep, t, ho, hex, hd, _, _, _, hf, hn⟩ := so
  have I2 : Inv X pins σ H1 { s1 with heap := h2, toks := tk } := I1.kept fun b o e => hk b o (Heap.lt_size e) e
  exact call_len_set ho hex hd hf (by rw [hn]; have := dist_le ys its.toArray.size; omega) ⟨.int (dist ys ys.length), H1, I2.tok _, ⟨_, by rw [hn, e1]⟩, q1⟩
end Ly

set_option Elab.async false
set_option linter.all false
set_option maxRecDepth 100000
/-! data whose lists lie where S says; what keeps them -/
namespace Ly
open PySem PySem.Spec PyProof.Rows L2 Mt
mutual
inductive Da (K : PySem.W.Frag) (S : Addr → Prop) (H : Hp) : V → PyData → Prop
  | non : Da K S H .non .none
  | bl (b : Bool) : Da K S H (.bl b) (.bool b)
  | int (i : Int) : Da K S H (.int i) (.int i)
  | str (x : Str) : Da K S H (.str x) (.str x)
  | tup {a : Addr} {xs : List V} {ds : List PyData} : ITup K H a xs → DaAll K S H xs ds → Da K S H (.ref a) (.tuple ds)
  | lst {a : Addr} {xs : List V} {ds : List PyData} : S a → H a = some (.lst xs) → DaAll K S H xs ds → Da K S H (.ref a) (.list ds)
inductive DaAll (K : PySem.W.Frag) (S : Addr → Prop) (H : Hp) : List V → List PyData → Prop
  | nil : DaAll K S H [] []
  | cons {v : V} {vs : List V} {d : PyData} {ds : List PyData} : Da K S H v d → DaAll K S H vs ds → DaAll K S H (v :: vs) (d :: ds)
end
/-- tuples stay, and the lists at S -/
def Fr (S : Addr → Prop) (H H' : Hp) : Prop := TK H H' ∧ ∀ a xs, S a → H a = some (.lst xs) → H' a = some (.lst xs)
theorem fr_same {S : Addr → Prop} {H H' : Hp} (s : Same H H') : Fr S H H' := ⟨tk_same s, fun a xs _ h => s a _ h⟩
theorem Fr.trans {S : Addr → Prop} {H H1 H2 : Hp} (a : Fr S H H1) (b : Fr S H1 H2) : Fr S H H2 := ⟨a.1.trans b.1, fun c xs s h => b.2 c xs s (a.2 c xs s h)⟩
section
variable {K : PySem.W.Frag} {S : Addr → Prop} {H H' : Hp}
mutual
theorem Da.mono (t : Fr S H H') : ∀ (d : PyData) {v : V}, Da K S H v d → Da K S H' v d
  | .none, _, h => by cases h; exact .non
  | .bool _, _, h => by cases h; exact .bl _
  | .int _, _, h => by cases h; exact .int _
  | .str _, _, h => by cases h; exact .str _
  | .tuple ds, _, h => by cases h with | tup e r => exact .tup (e.mono t.1) (DaAll.mono t ds r)
  | .list ds, _, h => by cases h with | lst s e r => exact .lst s (t.2 _ _ s e) (DaAll.mono t ds r)
  | .dict _, _, h => by cases h
theorem DaAll.mono (t : Fr S H H') : ∀ (ds : List PyData) {vs : List V}, DaAll K S H vs ds → DaAll K S H' vs ds
  | [], _, h => by cases h; exact .nil
  | d :: ds, _, h => by cases h with | cons a r => exact .cons (Da.mono t d a) (DaAll.mono t ds r)
end
mutual
theorem Da.dp : ∀ (d : PyData) {v : V}, Da K S H v d → Dp K H v d
  | .none, _, h => by cases h; exact .non
  | .bool _, _, h => by cases h; exact .bl _
  | .int _, _, h => by cases h; exact .int _
  | .str _, _, h => by cases h; exact .str _
  | .tuple ds, _, h => by cases h with | tup e r => exact .tup e.sq (DaAll.dp ds r)
  | .list ds, _, h => by cases h with | lst s e r => exact .lst (.of e) (DaAll.dp ds r)
  | .dict _, _, h => by cases h
theorem DaAll.dp : ∀ (ds : List PyData) {vs : List V}, DaAll K S H vs ds → DpAll K H vs ds
  | [], _, h => by cases h; exact .nil
  | d :: ds, _, h => by cases h with | cons a r => exact .cons (Da.dp d a) (DaAll.dp ds r)
end

mutual
def noL : PyData → Bool
  | .tuple ds => noLs ds
  | .list _ => false
  | .dict _ => false
  | _ => true
def noLs : List PyData → Bool
  | [] => true
  | d :: ds => noL d && noLs ds
end
mutual
theorem Da.im : ∀ (d : PyData) {v : V}, noL d = true → Da K S H v d → Im K H v d
  | .none, _, _, h => by cases h; exact .non
  | .bool _, _, _, h => by cases h; exact .bl _
  | .int _, _, _, h => by cases h; exact .int _
  | .str _, _, _, h => by cases h; exact .str _
  | .tuple ds, _, n, h => by cases h with | tup e r => exact .tup e (DaAll.im ds (by simpa [noL] using n) r)
  | .list ds, _, n, _ => by simp [noL] at n
  | .dict _, _, n, _ => by simp [noL] at n
theorem DaAll.im : ∀ (ds : List PyData) {vs : List V}, noLs ds = true → DaAll K S H vs ds → ImAll K H vs ds
  | [], _, _, h => by cases h; exact .nil
  | d :: ds, _, n, h => by
    have n' : noL d = true ∧ noLs ds = true := by simpa [noLs] using n
    cases h with | cons a r => exact .cons (Da.im d n'.1 a) (DaAll.im ds n'.2 r)
end
mutual
theorem Im.da : ∀ (d : PyData) {v : V}, Im K H v d → Da K S H v d
  | .none, _, h => by cases h; exact .non
  | .bool _, _, h => by cases h; exact .bl _
  | .int _, _, h => by cases h; exact .int _
  | .str _, _, h => by cases h; exact .str _
  | .tuple ds, _, h => by cases h with | tup e r => exact .tup e (ImAll.da ds r)
  | .list _, _, h => by cases h
  | .dict _, _, h => by cases h
theorem ImAll.da : ∀ (ds : List PyData) {vs : List V}, ImAll K H vs ds → DaAll K S H vs ds
  | [], _, h => by cases h; exact .nil
  | d :: ds, _, h => by cases h with | cons a r => exact .cons (Im.da d a) (ImAll.da ds r)
end
theorem DaAll.len : ∀ {vs : List V} {ds : List PyData}, DaAll K S H vs ds → vs.length = ds.length
  | [], ds, h => by cases h; rfl
  | _ :: _, _, h => by cases h with | cons _ r => rw [List.length_cons, List.length_cons, DaAll.len r]
theorem DaAll.get : ∀ {vs : List V} {ds : List PyData} {i : Nat} {d : PyData}, DaAll K S H vs ds → ds[i]? = some d → ∃ v, vs[i]? = some v ∧ Da K S H v d
  | _, _, 0, _, .cons a _, e => by
    simp at e; subst e; exact ⟨_, rfl, a⟩
  | _, _, i + 1, _, .cons _ r, e => by
    obtain ⟨v, h1, h2⟩ := DaAll.get (i := i) r (by simpa using e)
    exact ⟨v, by simpa using h1, h2⟩
  | _, _, _, _, .nil, e => by simp at e
theorem DaAll.getV : ∀ {vs : List V} {ds : List PyData} {i : Nat} {v : V}, DaAll K S H vs ds → vs[i]? = some v → ∃ d, ds[i]? = some d ∧ Da K S H v d
  | _, _, 0, _, .cons a _, e => by
    simp at e; subst e; exact ⟨_, rfl, a⟩
  | _, _, i + 1, _, .cons _ r, e => by
    obtain ⟨v, h1, h2⟩ := DaAll.getV (i := i) r (by simpa using e)
    exact ⟨v, by simpa using h1, h2⟩
  | _, _, _, _, .nil, e => by simp at e
theorem DaAll.app : ∀ {xs ys : List V} {ds es : List PyData}, DaAll K S H xs ds → DaAll K S H ys es → DaAll K S H (xs ++ ys) (ds ++ es)
  | _, _, _, _, .nil, b => b
  | _, _, _, _, .cons h r, b => .cons h (DaAll.app r b)
theorem DaAll.take : ∀ {xs : List V} {ds : List PyData} (n : Nat), DaAll K S H xs ds → DaAll K S H (xs.take n) (ds.take n)
  | _, _, 0, _ => by rw [List.take_zero, List.take_zero]; exact .nil
  | _, _, n + 1, .nil => by rw [List.take_nil, List.take_nil]; exact .nil
  | _, _, n + 1, .cons h r => by rw [List.take_succ_cons, List.take_succ_cons]; exact .cons h (DaAll.take n r)
theorem DaAll.drop : ∀ {xs : List V} {ds : List PyData} (n : Nat), DaAll K S H xs ds → DaAll K S H (xs.drop n) (ds.drop n)
  | _, _, 0, h => by rw [List.drop_zero, List.drop_zero]; exact h
  | _, _, n + 1, .nil => by rw [List.drop_nil, List.drop_nil]; exact .nil
  | _, _, n + 1, .cons h r => by rw [List.drop_succ_cons, List.drop_succ_cons]; exact DaAll.drop n r
theorem DaAll.rev : ∀ {xs : List V} {ds : List PyData}, DaAll K S H xs ds → DaAll K S H xs.reverse ds.reverse
  | _, _, .nil => .nil
  | _, _, .cons h r => by rw [List.reverse_cons, List.reverse_cons]; exact DaAll.app (DaAll.rev r) (.cons h .nil)
end
end Ly

set_option Elab.async false
set_option linter.all false
set_option maxRecDepth 100000
/-! defs that are run where no repr is under way, and repr of data within them -/
namespace Ly
open PySem PySem.Spec PyProof.Rows L2
/-- no repr is under way around -/
def Calm (A : Around) : Prop := A.guards = some []
theorem calm_caller : Calm callerA := rfl
theorem Calm.deeper {A : Around} (h : Calm A) (env : Env) : Calm (A.deeper env) := h
/-- a promise kept wherever no repr is under way -/
structure Kept (P : Program) (w : World) (K : PySem.W.Frag) (mg : Str → Option Value) (base : Heap) (k : Nat) (f : Addr) (fd : FuncData) (ps : List Str) (sp : Sp) : Prop where
  len : ∀ vs H Q E, sp vs H Q E → vs.length = ps.length
  run : ∀ (A : Around) (outer : List Env) (s : Shared) (H : Hp) (args : Args) (us : List Value) (vs : List V) (Q : VK) (E : XK), Room k A → Calm A → Env0 P w K mg base A outer s H → BindsTo s fd args (ps.zip us) → Vals vs us → sp vs H Q E →
    codeAny (model P w) A (.call (.ref f) args) (CR CX0 outer P w H s Q E) s
section
variable {P : Program} {w : World} {K : PySem.W.Frag} {mg : Str → Option Value} {base : Heap} {k : Nat} {sp : Sp}
theorem kept_of {x : Str} {st : Stmt} {f : Addr} {fd : FuncData} {N ps : List Str} (F : Fun K x x st f fd) (S : FnScope N ps (defScope st)) (len : ∀ vs H Q E, sp vs H Q E → vs.length = ps.length)
    (body : ∀ (cdv : Value) (A : Around) (outer : List Env) (s : Shared) (H : Hp) (vs : List V) (Q : VK) (E : XK), Room k (A.deeper (envOfC x (defScope st) s.heap.objs.size f cdv)) → Calm (A.deeper (envOfC x (defScope st) s.heap.objs.size f cdv)) → sp vs H Q E →
      ∃ t, PSs (cxOf CX0 P w K mg base N x (defScope st) f cdv A outer s H E).nox (defBody st) t ∧ t { nx := fun _ H' => Q .non H', rt := Q } (start N vs) H) : Kept P w K mg base (k + 1) f fd ps sp := by
  obtain ⟨oc, od, kV, doc, pm, an, cdv, ct, osl, rfl, lk, code⟩ := F.ex
  constructor
  · exact len
  · intro A outer s H args us vs Q E hr calm e0 bind rel hsp
    obtain ⟨t, ht, hq⟩ := body cdv A outer s H vs Q E (hr.deeper _) (calm.deeper _) hsp
    have kept : K.In s.heap := e0.mod.kin.keeps fun b o e => (e0.bs b o e).1
    have nolim : s.heap.NoLimit := e0.mod.nolimit.keeps fun b o e => (e0.bs b o e).1
    have kinds : ∀ y ∈ ps.zip us, (defScope st).names.lookup y.1 = some .local ∨ ((defScope st).names.lookup y.1 = some .cell ∧ ((cellsFrom (s.heap.objs.size + 1) (defScope st).names []).lookup y.1).isSome = true) := by
      intro y hy
      rcases S.par y.1 (List.of_mem_zip (a := y.1) (b := y.2) hy).1 with h | h
      · exact .inl h
      · exact .inr ⟨h, PySem.W.cellsFrom_some _ _ _ (.inl h)⟩
    refine codeAny_call_function hr.depth (kept _ _ lk) rfl S.co S.gen rfl (PySem.W.codeRec_of kept code) (bind _ _ _ _ (wpAny_newFunctionEnv_cells S.kind kinds fun env he s1 ent => ?_))
    subst he
    refine ⟨nolim.keeps ent.toInCall.keep, codeAny_func ?_⟩
    have I : Inv (cxOf CX0 P w K mg base N x (defScope st) f cdv A outer s H E) [] (start N vs) H s1 := inv_start S hr.hd e0 (len _ _ _ _ hsp) rel ent
    refine wpAny_mono (ht.nox.run [] s1 (start N vs) H _ I hq) (fun fl s' hs => ?_) fun e s' hs => hs
    match fl, hs with
    | .ret u, ⟨v, σ', H', J, rv, q⟩ => exact ⟨v, H', J.os, J.bare, J.base, J.hok, rv, q⟩
    | .next, ⟨σ', H', J, q⟩ => exact ⟨V.non, H', J.os, J.bare, J.base, J.hok, rfl, q⟩
    | .brk, ⟨_, _, _, q⟩ => exact False.elim q
    | .cont, ⟨_, _, _, q⟩ => exact False.elim q
/-- such a def by its name -/
structure DefG (P : Program) (w : World) (K : PySem.W.Frag) (mg : Str → Option Value) (base : Heap) (k : Nat) (x : Str) (st : Stmt) (ps : List Str) (sp : Sp) : Prop where
  ex : ∃ (f : Addr) (fd : FuncData), Kept P w K mg base k f fd ps sp ∧ mg x = some (.ref f) ∧ PySem.W.keepIn K (.ref f) = true ∧ L2.Binds K fd ps [] ∧ Fun K x x st f fd
theorem Here.toDefG {x : Str} {st : Stmt} {ps : List Str} (z : Here K mg x st) (ok : ∀ {f : Addr} {fd : FuncData}, Fun K x x st f fd → Kept P w K mg base k f fd ps sp)
    (b : ∀ (kV doc pm : Value) (an : Option Addr) (cdv ct : Value) (us : List Value), us.length = ps.length → bindArgs (PySem.W.fnOf x x (defArgs st) (defBody st) (defScope st) .none kV doc pm an cdv ct) ⟨us, []⟩ = pure (ps.zip us)) : DefG P w K mg base k x st ps sp := by
  obtain ⟨f, fd, hm, F⟩ := z
  exact ⟨f, fd, ok F, hm, F.kp, F.binds b, F⟩
end
section
variable {X : Cx} {k : Nat} {x : Str} {st : Stmt} {ps : List Str} {sp : Sp} {p pos : Pos} {e : Expr} {es : List Expr} {t : TA}
theorem pe_defG (O : DefG X.prog X.w X.K X.mg X.base k x st ps sp) (hr : Room k X.A) (calm : Calm X.A) (hg : Gl X x) (ha : PA X (e :: es) t) (hdb : (x == ("__debug__" : Str)) = false := by decide)
    (he : starEach (e :: es) X.env = (false, eval e X.env) :: starEach es X.env := by rfl) (hpl : (backTo pos (starEach es X.env)).any (·.1) = false := by rfl) :
    PE X (.Call (.Name x p) (e :: es) [] pos) (tCall sp [] E0 t) := by
  obtain ⟨f, fd, F, hm, hk, hb, _⟩ := O.ex
  refine ⟨fun pins s σ H Q I h => wpAny_Call_Name_kw (ld_glob I hg hm (PySem.W.callWith_K (h₀ := X.base) I.ok.mod.kin hk (thn (ha.run pos pins s σ H _ I h) ?_) he hpl) hdb)⟩
  rintro us s1 ⟨vs, H1, I1, r, q⟩
  have q' : sp vs H1 Q E0 := by
    have : vs ++ [] = vs := List.append_nil vs
    rw [← this]; exact q
  have hl : us.length = ps.length := by rw [← r.length]; exact F.len _ _ _ _ q'
  refine ⟨I1.kIn, wpAny_call (codeAny_mono (F.run X.A X.stack s1 H1 ⟨us, []⟩ us vs Q E0 hr calm I1.env0 (by simpa using hb s1 us I1.kIn (by simpa using hl)) r q') fun r' s' hq => ?_)⟩
  match r', hq with
  | .error e, hq => exact pass0 pins σ H1 s1 e s' I1 hq
  | .ok (.ret u), hq => exact I1.after hq
end
/-! ### repr of data -/
def rRepr (K : PySem.W.Frag) : List V → Hp → VK → Prop := fun vs H Q => ∃ (a : Addr) (d : PyData), vs = [.ref a] ∧ Dp K H (.ref a) d ∧ d.showable = true ∧ d.hasDict = false ∧ d.shown.length ≤ sizeLine ∧ d.depth ≤ 15 ∧ Q (.str d.shown) H
theorem kcr_repr {X : Cx} (K : PySem.W.Frag) (calm : Calm X.A) (hu : X.A.units + 20 < cLine) (eK : X.K = K := by rfl) : CallR X (.builtin "repr") (rRepr K) := by
  subst eK
  intro pins s σ H vs us Q I r q
  obtain ⟨a, d, rfl, hd, sh, nd, sz, dp, q⟩ := q
  rw [Vals.ref1 r]
  obtain ⟨as, rd⟩ := Dp.reads I d (.ref a) (.ref a) hd rfl
  exact repr_of_reads' rd sh (fun e => by rw [nd] at e; cases e) calm (by omega) (fun _ _ e => e) (fun h' u tk hk => ⟨.str d.shown, H, I.kept hk, ⟨u, rfl⟩, q⟩) sz
/-! ### the law's end -/
section
variable {P : Program} {w : World} {K : PySem.W.Frag} {mg mb : Str → Option Value} {k : Nat} {fa a : Addr} {fd : FuncData} {x : Str} {sp : Sp} {s₁ : Shared} {vs : List Value} {ns : List Int}
/-- a script that is tracked, or one of the module's own -/
structure Ent (P : Program) (w : World) (K : PySem.W.Frag) (a : Addr) (s₁ : Shared) (H : Hp) : Prop where
  only : Only H
  ok : HOk P w H s₁.heap
  at' : ∀ b, H b ≠ none → b = a
  own : H a ≠ none → K.lookup a = none
theorem ent_run {H : Hp} (N : Ent P w K a s₁ H) (KX : K.In s₁.heap) (hns : s₁.heap.Ns mainGlobals mg) (hb : s₁.heap.Ns builtinsNs mb) (hbb : ∀ x : Str, x ≠ "__name__" → mb x = bootBuiltins x) (hlim : s₁.heap.NoLimit) (hg : s₁.gens = #[])
    (ha : s₁.heap.get? a = some { cls := .type "list", data := .seq vs.toArray }) (hr : Room k callerA)
    (F : ∀ base : Heap, K.In base → base.Ns mainGlobals mg → Kept P w K mg base k fa fd [x] sp) (hbind : ∀ (s : Shared) (u : Value), BindsTo s fd ⟨[u], []⟩ [(x, u)])
    (hsp : sp [.ref a] H (fun v _ => v = .bl true) fun _ _ _ => False) :
    codeAny (model P w) callerA (.call (.ref fa) ⟨[.ref a], []⟩) (fun r s' => r = .ok (.ret (.bool true)) ∧ OldK s₁.heap s'.heap ∧ s'.os = s₁.os ∧ AllBare s'.gens) s₁ := by
  -- what is no script is seen in the heap without it
  have low : ∀ {b : Addr} {o : Obj}, s₁.heap.get? b = some o → (b = a → H a = none) → (hidT s₁.heap H).get? b = some o := fun {b o} e n => hidT_get e (Classical.byContradiction fun z => by
    have ba := N.at' b z
    rw [ba] at z
    exact z (n ba))
  have dict : ∀ {b : Addr} {m : Str → Option Value}, s₁.heap.Ns b m → (hidT s₁.heap H).Ns b m := by
    rintro b m ⟨o, es, ep, e, d, r⟩
    refine ⟨o, es, ep, low e fun z => ?_, d, r⟩
    rw [z, ha] at e
    obtain rfl := Option.some.inj e
    cases d
  have kin : K.In (hidT s₁.heap H) := fun b o e => low (KX b o e) fun z => Classical.byContradiction fun n => by
    rw [z, N.own n] at e
    cases e
  have hM : Mod K mg (hidT s₁.heap H) := by
    obtain ⟨mc, c1, c2⟩ := hlim
    exact ⟨kin, dict hns, ⟨mb, dict hb, hbb⟩, ⟨mc, dict c1, c2⟩⟩
  have e0 : Env0 P w K mg (hidT s₁.heap H) callerA [] s₁ H := by
    refine ⟨rfl, hM, fun b o e => of_hidT e, Nat.le_of_eq (hidT_size _ _), trivial, fun b hb => ?_, N.ok, .of_eq hg⟩
    exact nomatch (show b ∈ ([] : List Addr) from hb)
  refine codeAny_mono ((F _ kin (dict hns)).run callerA [] s₁ H ⟨[.ref a], []⟩ [.ref a] [.ref a] _ _ hr calm_caller e0 (hbind s₁ (.ref a)) (.cons rfl .nil) hsp) fun r s' h => ?_
  match r, h with
  | .error e, h => exact False.elim h
  | .ok .next, h => exact False.elim h
  | .ok .brk, h => exact False.elim h
  | .ok .cont, h => exact False.elim h
  | .ok (.ret u), ⟨v, H', os, bare, un, ok', rv, (qv : v = .bl true)⟩ =>
    subst qv
    obtain rfl : u = Value.bool true := rv
    refine ⟨rfl, OldK.of_keep fun b o e => ?_, os, bare⟩
    by_cases hb' : H b = none
    · exact un.keep b o e hb' (by intro z; exact nomatch (show b ∈ ([] : List Addr) from z)) (by simp)
    · rcases N.only b with z | ⟨ob, xs, z⟩
      · exact absurd z hb'
      · obtain ⟨e1, _⟩ := N.ok b _ z
        obtain ⟨e2, _⟩ := ok' b _ (un.frzs b ob _ z)
        rw [e] at e1
        obtain rfl := Option.some.inj e1
        exact e2
theorem law_kept (KX : K.In s₁.heap) (hns : s₁.heap.Ns mainGlobals mg) (hb : s₁.heap.Ns builtinsNs mb) (hbb : ∀ x : Str, x ≠ "__name__" → mb x = bootBuiltins x) (hlim : s₁.heap.NoLimit) (hg : s₁.gens = #[])
    (ha : s₁.heap.get? a = some { cls := .type "list", data := .seq vs.toArray }) (hi : IntsAre vs ns) (hl : ns.length ≤ sizeLine) (hr : Room k callerA)
    (F : ∀ base : Heap, K.In base → base.Ns mainGlobals mg → Kept P w K mg base k fa fd [x] sp) (hbind : ∀ (s : Shared) (u : Value), BindsTo s fd ⟨[u], []⟩ [(x, u)])
    (hsp : ∀ H : Hp, Only H → SqL K H a (ns.map V.int) → sp [.ref a] H (fun v _ => v = .bl true) fun _ _ _ => False) :
    codeAny (model P w) callerA (.call (.ref fa) ⟨[.ref a], []⟩) (fun r s' => r = .ok (.ret (.bool true)) ∧ OldK s₁.heap s'.heap ∧ s'.os = s₁.os ∧ AllBare s'.gens) s₁ := by
  have rv := vals_ints hi
  have go : ∀ {H : Hp}, Ent P w K a s₁ H → SqL K H a (ns.map V.int) → codeAny (model P w) callerA (.call (.ref fa) ⟨[.ref a], []⟩) (fun r s' => r = .ok (.ret (.bool true)) ∧ OldK s₁.heap s'.heap ∧ s'.os = s₁.os ∧ AllBare s'.gens) s₁ :=
    fun N hS => ent_run N KX hns hb hbb hlim hg ha hr F hbind (hsp _ N.only hS)
  by_cases own : K.lookup a = none
  · -- tracked, and held as it is
    generalize hz : (HO.frz { cls := .type "list", data := .seq vs.toArray } (.lst (ns.map V.int))) = z
    have here : (upd (fun _ => none) a z) a = some z := upd_same
    refine go (H := upd (fun _ => none) a z) ⟨fun b => ?_, fun b u e => ?_, fun b n => ?_, fun _ => own⟩ (.inl (.inr ⟨{ cls := .type "list", data := .seq vs.toArray }, by rw [here, ← hz]⟩))
    · by_cases e : b = a
      · exact .inr ⟨_, _, by rw [e, here, ← hz]⟩
      · exact .inl (upd_ne e)
    · by_cases eb : b = a
      · subst eb
        rw [here, ← hz] at e
        obtain rfl := Option.some.inj e
        exact ⟨ha, by rw [List.length_map]; exact hl, vs, _, rv, ha⟩
      · rw [upd_ne eb] at e
        cases e
    · exact Classical.byContradiction fun e => n (upd_ne e)
  · obtain ⟨o, ho⟩ := Option.ne_none_iff_exists'.mp own
    have e := KX a o ho
    rw [ha] at e
    obtain rfl := Option.some.inj e
    refine go (H := fun _ => none) ⟨fun _ => .inl rfl, (fun b u e => by cases e), fun b n => absurd rfl n, fun n => absurd rfl n⟩ (.inr ⟨_, vs.toArray, _, ho, rfl, rfl, rfl, by rw [List.size_toArray, hi.length]; exact hl, by simpa using rv⟩)
end
theorem walk_kept {l : PySem.W.OpenLaw} {n k : Nat} {q : Program} {loose : List Str} {XP : (Str → Option Value) → Heap → Prop} {YP : World → Heap → Prop} {d : DefRec} {K : Params → PySem.W.Frag} {sp : World → Sp} {x : Str}
    (hn : l.most = some n) (hn2 : n ≤ sizeLine) (hdf : d.params.defaults = []) (hr : Room k callerA) (hY : ∀ (w : World) (h : Heap), YP w h → (K w.params).In h)
    (F : ∀ (w : World) (mg : Str → Option Value) (fa : Addr) (h : Heap), (K w.params).In h → h.Ns mainGlobals mg → mg d.name = some (.ref fa) →
      ∃ fd : FuncData, (∀ (s : Shared) (u : Value), BindsTo s fd ⟨[u], []⟩ [(x, u)]) ∧ ∀ base : Heap, (K w.params).In base → base.Ns mainGlobals mg → Kept l.prog w (K w.params) mg base k fa fd [x] (sp w))
    (hsp : ∀ (w : World) (H : Hp) (a : Addr) (ns : List Int), ns.length ≤ n → (∀ z ∈ ns, Builtin.Int.intBits z ≤ 1048576) → Only H → SqL (K w.params) H a (ns.map V.int) → sp w [.ref a] H (fun v _ => v = .bl true) fun _ _ _ => False) :
    PySem.W.WalkO q loose XP YP l.row.toRowW d [] (fun f vs => PySem.call f vs) := by
  refine Att.attach_callB hn hdf fun w s₀ s₁ mg mb fa o pm cd doc a vs ns G Y _ _ _ hmg hobj hints hlen hbits hg => ?_
  have KX := hY w _ Y
  obtain ⟨fd, hb, hF⟩ := F w mg fa _ KX G.T.g hmg
  exact law_kept KX G.T.g G.T.b G.T.builtins G.T.nolimit hg hobj hints (Nat.le_trans hlen hn2) hr hF hb fun H hO hS => hsp w H a ns hlen hbits hO hS
end Ly

set_option Elab.async false
set_option linter.all false
set_option maxRecDepth 100000
/-! odd data: as Da, with empty dicts; its repr -/
namespace Ly
open PySem PySem.Spec PyProof.Rows L2 Mt
/-- an integer that is not too great -/
def SmI (i : Int) : Prop := i.natAbs < 2 ^ 1900
instance (i : Int) : Decidable (SmI i) := inferInstanceAs (Decidable (i.natAbs < 2 ^ 1900))
mutual
inductive Od (K : PySem.W.Frag) (S : Addr → Prop) (H : Hp) : V → PyData → Prop
  | non : Od K S H .non .none
  | bl (b : Bool) : Od K S H (.bl b) (.bool b)
  | int (i : Int) : SmI i → Od K S H (.int i) (.int i)
  | str (x : Str) : x.length ≤ 100000 → Od K S H (.str x) (.str x)
  | tup {a : Addr} {xs : List V} {ds : List PyData} : ITup K H a xs → OdAll K S H xs ds → Od K S H (.ref a) (.tuple ds)
  | lst {a : Addr} {xs : List V} {ds : List PyData} : S a → sysModules < a → H a = some (.lst xs) → OdAll K S H xs ds → Od K S H (.ref a) (.list ds)
  | dic {a : Addr} : S a → H a = some (.dK []) → Od K S H (.ref a) (.dict [])
inductive OdAll (K : PySem.W.Frag) (S : Addr → Prop) (H : Hp) : List V → List PyData → Prop
  | nil : OdAll K S H [] []
  | cons {v : V} {vs : List V} {d : PyData} {ds : List PyData} : Od K S H v d → OdAll K S H vs ds → OdAll K S H (v :: vs) (d :: ds)
end
/-- tuples stay, and all that stands at S -/
def Fo (S : Addr → Prop) (H H' : Hp) : Prop := TK H H' ∧ ∀ a o, S a → H a = some o → H' a = some o
theorem fo_same {S : Addr → Prop} {H H' : Hp} (s : Same H H') : Fo S H H' := ⟨tk_same s, fun a o _ h => s a o h⟩
theorem Fo.rfl' {S : Addr → Prop} {H : Hp} : Fo S H H := ⟨TK.rfl H, fun _ _ _ h => h⟩
theorem Fo.trans {S : Addr → Prop} {H H1 H2 : Hp} (a : Fo S H H1) (b : Fo S H1 H2) : Fo S H H2 := ⟨a.1.trans b.1, fun c o s h => b.2 c o s (a.2 c o s h)⟩
section
variable {K : PySem.W.Frag} {S : Addr → Prop} {H H' : Hp}
mutual
theorem Od.mono (t : Fo S H H') : ∀ {v : V} {d : PyData}, Od K S H v d → Od K S H' v d
  | _, _, .non => .non
  | _, _, .bl b => .bl b
  | _, _, .int i l => .int i l
  | _, _, .str x l => .str x l
  | _, _, .tup e r => .tup (e.mono t.1) (OdAll.mono t r)
  | _, _, .lst s b e r => .lst s b (t.2 _ _ s e) (OdAll.mono t r)
  | _, _, .dic s e => .dic s (t.2 _ _ s e)
theorem OdAll.mono (t : Fo S H H') : ∀ {vs : List V} {ds : List PyData}, OdAll K S H vs ds → OdAll K S H' vs ds
  | _, _, .nil => .nil
  | _, _, .cons a r => .cons (Od.mono t a) (OdAll.mono t r)
end
theorem OdAll.len : ∀ {vs : List V} {ds : List PyData}, OdAll K S H vs ds → vs.length = ds.length
  | _, _, .nil => rfl
  | _, _, .cons _ r => by rw [List.length_cons, List.length_cons, OdAll.len r]
theorem OdAll.get : ∀ {vs : List V} {ds : List PyData} {i : Nat} {d : PyData}, OdAll K S H vs ds → ds[i]? = some d → ∃ v, vs[i]? = some v ∧ Od K S H v d
  | _, _, 0, _, .cons a _, e => by
    simp at e; subst e; exact ⟨_, rfl, a⟩
  | _, _, i + 1, _, .cons _ r, e => by
    obtain ⟨v, h1, h2⟩ := OdAll.get (i := i) r (by simpa using e)
    exact ⟨v, by simpa using h1, h2⟩
  | _, _, _, _, .nil, e => by simp at e
theorem OdAll.getV : ∀ {vs : List V} {ds : List PyData} {i : Nat} {v : V}, OdAll K S H vs ds → vs[i]? = some v → ∃ d, ds[i]? = some d ∧ Od K S H v d
  | _, _, 0, _, .cons a _, e => by
    simp at e; subst e; exact ⟨_, rfl, a⟩
  | _, _, i + 1, _, .cons _ r, e => by
    obtain ⟨v, h1, h2⟩ := OdAll.getV (i := i) r (by simpa using e)
    exact ⟨v, by simpa using h1, h2⟩
  | _, _, _, _, .nil, e => by simp at e
theorem OdAll.app : ∀ {xs ys : List V} {ds es : List PyData}, OdAll K S H xs ds → OdAll K S H ys es → OdAll K S H (xs ++ ys) (ds ++ es)
  | _, _, _, _, .nil, b => b
  | _, _, _, _, .cons h r, b => .cons h (OdAll.app r b)
theorem OdAll.snoc {xs : List V} {ds : List PyData} {v : V} {d : PyData} (h : OdAll K S H xs ds) (a : Od K S H v d) : OdAll K S H (xs ++ [v]) (ds ++ [d]) := h.app (.cons a .nil)
theorem OdAll.take : ∀ {xs : List V} {ds : List PyData} (n : Nat), OdAll K S H xs ds → OdAll K S H (xs.take n) (ds.take n)
  | _, _, 0, _ => by rw [List.take_zero, List.take_zero]; exact .nil
  | _, _, n + 1, .nil => by rw [List.take_nil, List.take_nil]; exact .nil
  | _, _, n + 1, .cons h r => by rw [List.take_succ_cons, List.take_succ_cons]; exact .cons h (OdAll.take n r)
theorem OdAll.drop : ∀ {xs : List V} {ds : List PyData} (n : Nat), OdAll K S H xs ds → OdAll K S H (xs.drop n) (ds.drop n)
  | _, _, 0, h => by rw [List.drop_zero, List.drop_zero]; exact h
  | _, _, n + 1, .nil => by rw [List.drop_nil, List.drop_nil]; exact .nil
  | _, _, n + 1, .cons h r => by rw [List.drop_succ_cons, List.drop_succ_cons]; exact OdAll.drop n r
theorem OdAll.rev : ∀ {xs : List V} {ds : List PyData}, OdAll K S H xs ds → OdAll K S H xs.reverse ds.reverse
  | _, _, .nil => .nil
  | _, _, .cons h r => by rw [List.reverse_cons, List.reverse_cons]; exact OdAll.app (OdAll.rev r) (.cons h .nil)
mutual
/-- its texts are short -/
def shS : PyData → Bool
  | .str x => decide (x.length ≤ 100000)
  | .int i => decide (SmI i)
  | .tuple ds => shSs ds
  | _ => true
def shSs : List PyData → Bool
  | [] => true
  | d :: ds => shS d && shSs ds
end
mutual
theorem Im.od : ∀ (d : PyData) {v : V}, shS d = true → Im K H v d → Od K S H v d
  | .none, _, _, h => by cases h; exact .non
  | .bool _, _, _, h => by cases h; exact .bl _
  | .int _, _, n, h => by cases h; exact .int _ (by simpa [shS] using n)
  | .str _, _, n, h => by cases h; exact .str _ (by simpa [shS] using n)
  | .tuple ds, _, n, h => by cases h with | tup e r => exact .tup e (ImAll.od ds (by simpa [shS] using n) r)
  | .list _, _, _, h => by cases h
  | .dict _, _, _, h => by cases h
theorem ImAll.od : ∀ (ds : List PyData) {vs : List V}, shSs ds = true → ImAll K H vs ds → OdAll K S H vs ds
  | [], _, _, h => by cases h; exact .nil
  | d :: ds, _, n, h => by
    have n' : shS d = true ∧ shSs ds = true := by simpa [shSs] using n
    cases h with | cons a r => exact .cons (Im.od d n'.1 a) (ImAll.od ds n'.2 r)
end
mutual
theorem Od.im : ∀ (d : PyData) {v : V}, noL d = true → Od K S H v d → Im K H v d
  | .none, _, _, h => by cases h; exact .non
  | .bool _, _, _, h => by cases h; exact .bl _
  | .int _, _, _, h => by cases h; exact .int _
  | .str _, _, _, h => by cases h; exact .str _
  | .tuple ds, _, n, h => by cases h with | tup e r => exact .tup e (OdAll.im ds (by simpa [noL] using n) r)
  | .list ds, _, n, _ => by simp [noL] at n
  | .dict _, _, n, _ => by simp [noL] at n
theorem OdAll.im : ∀ (ds : List PyData) {vs : List V}, noLs ds = true → OdAll K S H vs ds → ImAll K H vs ds
  | [], _, _, h => by cases h; exact .nil
  | d :: ds, _, n, h => by
    have n' : noL d = true ∧ noLs ds = true := by simpa [noLs] using n
    cases h with | cons a r => exact .cons (Od.im d n'.1 a) (OdAll.im ds n'.2 r)
end
/-- its type -/
theorem od_ty {d : PyData} {v : V} (h : Od K S H v d) : TyX K H v (.type (tyName d)) := by
  cases h with
  | non => exact .base .non
  | bl b => exact .base (.bl b)
  | int i _ => exact .base (.int i)
  | str x _ => exact .base (.str x)
  | tup e _ => exact sqt_ty e.sq
  | lst _ _ e _ => exact .base (.lst e)
  | dic _ e => exact .base (.dK e)
theorem Od.tuple_inv {v : V} {ds : List PyData} (h : Od K S H v (.tuple ds)) : ∃ a xs, v = .ref a ∧ ITup K H a xs ∧ OdAll K S H xs ds := by
  cases h with | tup e r => exact ⟨_, _, rfl, e, r⟩
theorem Od.int_inv {v : V} {i : Int} (h : Od K S H v (.int i)) : v = .int i := by cases h; rfl
theorem Od.str_inv {v : V} {i : Str} (h : Od K S H v (.str i)) : v = .str i := by cases h; rfl
theorem OdAll.cons_inv {vs : List V} {d : PyData} {ds : List PyData} (h : OdAll K S H vs (d :: ds)) : ∃ v r, vs = v :: r ∧ Od K S H v d ∧ OdAll K S H r ds := by
  cases h with | cons a r => exact ⟨_, _, rfl, a, r⟩
theorem OdAll.nil_inv {vs : List V} (h : OdAll K S H vs []) : vs = [] := by cases h; rfl
end
/-! ### repr of it -/
section
variable {X : Cx} {pins : List (Addr × Obj)} {σ : L2.St} {H : Hp} {s : Shared} {S : Addr → Prop}
mutual
theorem Od.reads (I : Inv X pins σ H s) : ∀ {v : V} {d : PyData} (u : Value), Od X.K S H v d → RelV v u → ∃ as, Reads s.heap u d as ∧ sysModules ∉ as
  | _, _, _, .non, r => by cases r; exact ⟨_, .none, List.not_mem_nil⟩
  | _, _, _, .bl b, r => by cases r; exact ⟨_, .bool b, List.not_mem_nil⟩
  | _, _, _, .int i _, r => by obtain ⟨t, rfl⟩ := r; exact ⟨_, .int i t, List.not_mem_nil⟩
  | _, _, _, .str x _, r => by obtain ⟨t, rfl⟩ := r; exact ⟨_, .str x t, List.not_mem_nil⟩
  | _, _, _, .tup e h, r => by
    cases r
    obtain ⟨its, rv, ⟨o, ho, hc, n, hd⟩, _⟩ := I.tuple e.sq
    obtain ⟨as, hr, ns⟩ := OdAll.reads I its h rv
    exact ⟨_, .tuple ho hc hd hr, ns⟩
  | _, _, _, .lst _ b e h, r => by
    cases r
    obtain ⟨its, rv, ⟨o, n, ho, hc, _, hd⟩, _⟩ := I.list (.of e)
    obtain ⟨as, hr, ns⟩ := OdAll.reads I its h rv
    refine ⟨_, .list ho hc hd hr, fun z => ?_⟩
    rcases List.mem_cons.mp z with z | z
    · exact Nat.ne_of_lt b z
    · exact ns z
  | _, _, _, .dic (a := a) _ e, r => by
    cases r
    obtain ⟨_, hS, vs, kv, o, es, ep, ho, hx, hd, _, he⟩ := dk_of I.hok e
    cases kv
    have e0 : es.toList = [] := by
      have he1 := he.1
      generalize es.toList = l at he1
      cases he1
      rfl
    refine ⟨_, .dict (kvs := []) ho hx.1 hd (by rw [e0]; exact .nil) (by rw [e0]; exact .nil), fun z => ?_⟩
    have := beq_eq_false_iff_ne.mp hS
    simp only [List.cons_append, List.nil_append, List.mem_singleton] at z
    exact this z.symm
theorem OdAll.reads (I : Inv X pins σ H s) : ∀ {vs : List V} {ds : List PyData} (us : List Value), OdAll X.K S H vs ds → Vals vs us → ∃ as, ReadsAll s.heap us ds as ∧ sysModules ∉ as
  | _, _, _, .nil, r => by cases r; exact ⟨_, .nil, List.not_mem_nil⟩
  | _, _, _, .cons a h, r => by
    cases r with
    | cons r1 r2 =>
      obtain ⟨as, q1, n1⟩ := Od.reads I _ a r1
      obtain ⟨bs, q2, n2⟩ := OdAll.reads I _ h r2
      exact ⟨_, .cons q1 q2, fun z => (List.mem_append.mp z).elim n1 n2⟩
end
end
/-- repr of data of any kind: x, a text, an int, or what stands at an address -/
def rReprO (K : PySem.W.Frag) : List V → Hp → VK → Prop := fun vs H Q => ∃ (S : Addr → Prop) (a : Addr) (d : PyData), vs = [.ref a] ∧ Od K S H (.ref a) d ∧ d.showable = true ∧ d.shown.length ≤ sizeLine ∧ d.depth ≤ 15 ∧ Q (.str d.shown) H
theorem kcr_reprO {X : Cx} (K : PySem.W.Frag) (calm : Calm X.A) (hu : X.A.units + 20 < cLine) (eK : X.K = K := by rfl) : CallR X (.builtin "repr") (rReprO K) := by
  subst eK
  intro pins s σ H vs us Q I r q
  obtain ⟨S, a, d, rfl, hd, sh, sz, dp, q⟩ := q
  rw [Vals.ref1 r]
  obtain ⟨as, rd, ns⟩ := Od.reads I (.ref a) hd rfl
  exact repr_of_reads' rd sh (fun _ => ns) calm (by omega) (fun _ _ e => e) (fun h' u tk hk => ⟨.str d.shown, H, I.kept hk, ⟨u, rfl⟩, q⟩) sz
/-! ### new lists, behind the module's own objects -/
section
variable {X : Cx} {es : List Expr} {pos : Pos} {t : TA}
def tLstB (t : TA) : TE := fun σ H Q => t σ H fun xs H1 => xs.length ≤ sizeLine ∧ ∀ p, H1 p = none → sysModules < p → Q (.ref p) (upd H1 p (.lst xs))
theorem pe_lstB (h : PA X es t) : PE X (.List es pos) (tLstB t) := by
  refine ⟨fun pins s σ H Q I hq => ?_⟩
  refine wpAny_List_spliced (thn (h.run pos pins s σ H _ I hq) fun us s1 ⟨xs, H1, I1, r, z, q⟩ => ⟨by rw [← r.length]; exact z, ?_⟩)
  exact ⟨.ref s1.heap.objs.size, _, I1.laid (t' := s1.toks) (fun b u e => Heap.get?_push_of_some _ e) (Nat.le_refl _) (show ObjOk X.prog X.w _ _ _ (.lst xs) from ⟨z, us, 0, r, Heap.get?_push_size _ rfl⟩), rfl, q _ (I1.hok.fresh (Nat.le_refl _)) I1.big⟩
def rListB (K : PySem.W.Frag) : List V → Hp → VK → Prop := fun vs H Q => ∃ p ys, vs = [.ref p] ∧ SqT K H p ys ∧ ∀ l, H l = none → sysModules < l → Q (.ref l) (upd H l (.lst ys))
theorem kcall_listB {X : Cx} (K : PySem.W.Frag) (eK : X.K = K := by rfl) : CallR X (.type "list") (rListB K) := by
  subst eK
  intro pins s σ H xs us Q I r h
  obtain ⟨p, ys, rfl, hq, q⟩ := h
  rw [Vals.ref1 r]
  obtain ⟨its, r', ⟨o, ho, hc, n, hd⟩, hz⟩ := I.tuple hq
  have hlen := r'.length
  exact call_list_seq p (.inr rfl) ho hc hd (fun h' c' kp e => ⟨.ref s.heap.objs.size, _, I.laid (t' := s.toks) kp (Nat.le_refl _) (show ObjOk X.prog X.w _ h' _ (.lst ys) from ⟨hz, its, c', r', e⟩), rfl, q _ (I.hok.fresh (Nat.le_refl _)) I.big⟩) (by simp only [List.size_toArray] <;> omega)
end
end Ly

set_option Elab.async false
set_option linter.all false
set_option maxRecDepth 100000
/-! several except clauses, with and without a name; defs that raise, by name -/
namespace Ly
open PySem PySem.Spec PyProof.Rows L2
abbrev Clause := Value × Option Nat × (Addr → Value → Option Addr → TS)
/-- what a clause's suite is read with -/
def endsAs (i : Nat) (D : Ends) : Ends := { nx := fun σ' H' => D.nx (σ'.set i none) H', rt := D.rt, bk := fun σ' H' => D.bk (σ'.set i none) H', ct := fun σ' H' => D.ct (σ'.set i none) H' }
def wL (K : PySem.W.Frag) (Wout : WX) (D : Ends) : List Clause → WX
  | [] => Wout
  | (c, none, ts) :: r => fun cls d σ H => ∃ b, PySem.W.exmOne K cls c = some b ∧ (b = true → ∀ a, H a = none → ts a cls d D σ H) ∧ (b = false → wL K Wout D r cls d σ H)
  | (c, some i, ts) :: r => fun cls d σ H => ∃ b, PySem.W.exmOne K cls c = some b ∧ (b = true → ∀ a, H a = none → ts a cls d (endsAs i D) (σ.set i (some (.ref a))) H) ∧ (b = false → wL K Wout D r cls d σ H)
inductive HdL (X : Cx) : List ExceptHandler → List Clause → Prop
  | nil : HdL X [] []
  | cons {x : Str} {c : Value} {ts : Addr → Value → Option Addr → TS} {b₀ : Stmt} {suite : List Stmt} {np pos' : Pos} {hds : List ExceptHandler} {l : List Clause} (hc : Names X x c)
      (hsu : ∀ (a : Addr) (oe : Obj) (cls : Value) (d : Option Addr) (pn : List (Addr × Obj)), Zc cls d oe → (∃ vs, oe.data = .fields vs) → PSs (X.suite a ((a, oe) :: pn)) (b₀ :: suite) (ts a cls d)) (r : HdL X hds l) :
      HdL X (.ExceptHandler (some (.Name x np)) none (b₀ :: suite) pos' :: hds) ((c, none, ts) :: l)
  | as {x n : Str} {i : Nat} {c : Value} {ts : Addr → Value → Option Addr → TS} {b₀ : Stmt} {suite : List Stmt} {np pos' : Pos} {hds : List ExceptHandler} {l : List Clause} (hN : X.N.Nodup) (hi : X.N[i]? = some n) (hln : X.env.kindOf n = some .local) (hc : Names X x c)
      (hsu : ∀ (a : Addr) (oe : Obj) (cls : Value) (d : Option Addr) (pn : List (Addr × Obj)), Zc cls d oe → (∃ vs, oe.data = .fields vs) → PSs (X.suite a ((a, oe) :: pn)) (b₀ :: suite) (ts a cls d)) (r : HdL X hds l) :
      HdL X (.ExceptHandler (some (.Name x np)) (some n) (b₀ :: suite) pos' :: hds) ((c, some i, ts) :: l)
section
variable {X : Cx} {body : List Stmt} {h₀ : ExceptHandler} {hds : List ExceptHandler} {l : List Clause} {pos : Pos} {tb : WX → TS} {Wout : WX}
theorem ps_try_list (hs : X.stack = X.env :: X.outer) (hf : X.env.frame = some X.env.locals) (tk : Takes X Wout)
    (hb : ∀ (W : WX) (pn : List (Addr × Obj)) (xe : Value → Shared → Prop), Takes (X.tr pn xe) W → PassesOwn (model X.prog X.w) X.A X.env xe → PSs (X.tr pn xe) body (tb W))
    (hh : HdL X (h₀ :: hds) l) : PS X (.Try body (h₀ :: hds) [] [] pos) (fun D σ H => tb (wL X.K Wout D l) D σ H) := by
  refine ⟨fun pins s σ H D I h => ?_⟩
  have ok := I.ok
  have hfr : X.A.frames = some (X.env :: X.outer) := by rw [ok.frames, hs]
  refine wpAny_Try_except ?_
  refine wpAny_mono ((hb (wL X.K Wout D l) (X.pn ++ pins) (fun e s₁ => wpAny (model X.prog X.w) X.A (noteFrame e X.env) (fun _ s₂ => wpAny (model X.prog X.w) X.A (setFlight e none) (fun _ s₃ =>
    wpAny (model X.prog X.w) X.A (handleBy e X.env (h₀ :: hds)) (SP X pins D) X.xe s₃) X.xe s₂) X.xe s₁) (fun u s' xx => ?_) PassesOwn.looking).run [] s σ H D (I.toTry _) h) (fun f s1 hsp => ?_) (fun e s1 he => he)
  · obtain ⟨a, B, sI, pins', σ', H', cls, d, rfl, J', nb, up, sky, na, os, ag, w⟩ := xx
    have J : Inv X pins σ' H' sI := J'.ofTry ok
    have sky' : Sky B (X.env :: X.outer) a (Zc cls d) X.env.locals s'.heap := by rw [← hs]; exact sky
    show wpAny (model X.prog X.w) X.A (noteFrame (.ref a) X.env) _ _ _
    refine Sky.land Zc.steady hfr hf sky' fun h3 fl3 up3 => ?_
    have J3 : Inv X pins σ' H' { s' with heap := h3 } := J.landed nb fl3.1 (up.trans up3) os ag
    obtain ⟨oe3, vs3, he3, hz3, hd3⟩ := fl3.there
    have notFr : ∀ {h : Heap} {o : Obj} {vs : Array Value}, h.FunFrames B (X.env :: X.outer) → h.get? a = some o → o.data = .fields vs → a ∉ frs (X.env :: X.outer) := fun {h o vs} ff e dd hm => by
      obtain ⟨_, o', e', hnf⟩ := ff.mem hm
      rw [e] at e'; cases e'
      exact hnf _ dd
    have nfr := notFr fl3.2.2.1 he3 hd3
    have nL : a ≠ X.env.locals := fun z => nfr (List.mem_filterMap.mpr ⟨X.env, List.mem_cons_self, by rw [hf, z]⟩)
    have nF : a ∉ X.fs := fun hm => by
      obtain ⟨e, he, q⟩ := List.mem_filterMap.mp hm
      exact nfr (List.mem_filterMap.mpr ⟨e, List.mem_cons_of_mem _ he, q⟩)
    have S3 := J3.suite he3 hd3 na nL nF
    have LT : PySem.W.Looks (model X.prog X.w) h3 (typeOf (.ref a)) cls := fun A Q E s k q => wpAny_typeOf_ref (k _ _ he3) (by rw [hz3.1]; exact q)
    have test : ∀ {x : Str} {c : Value} {np : Pos} {Q : Value → Shared → Prop} {E : Value → Shared → Prop}, Names X x c → Q c { s' with heap := h3 } → wpAny (model X.prog X.w) (X.A.mark (some (.ref a))) (eval (.Name x np) X.env) Q E { s' with heap := h3 } := fun {x c np Q E} hc q => by
      obtain ⟨hg, hdbg, hm | ⟨hm, hv, hnn⟩⟩ := hc
      · exact ld_glob (X := X.suite a ((a, oe3) :: (X.pn ++ pins))) S3 hg hm q hdbg
      · exact ld_blt (X := X.suite a ((a, oe3) :: (X.pn ++ pins))) S3 hg hm hv q hnn hdbg
    have go : ∀ {hds' : List ExceptHandler} {l' : List Clause}, HdL X hds' l' → wL X.K Wout D l' cls d σ' H' →
        wpAny (model X.prog X.w) X.A (handleBy (.ref a) X.env hds') (SP X pins D) X.xe { s' with heap := h3 } := by
      intro hds' l' hk
      induction hk with
      | nil =>
        intro w
        refine wpAny_handleBy_nil ?_
        obtain ⟨k1, k2, k3, oe, vs, T, oT, ts', he, hz, hd, h1, hr⟩ := id fl3
        unfold PySem.passOn
        refine wpAny_bind (wpAny_field he hd h1 ?_)
        rw [if_neg (show ¬ ((Value.ref T == Value.none) = true) from by simp)]
        have fin : wpAny (model X.prog X.w) X.A (setFlight (.ref a) X.env.frame) (fun _ s4 => wpAny (model X.prog X.w) X.A (throw (.ref a) : Sem Flow) (SP X pins D) X.xe s4) X.xe { s' with heap := h3 } := by
          rw [hf]
          refine HandSPX.setFlight_upZ fl3 fun h4 hh4 up4 => wpAny_throw (tk _ _ ?_)
          exact ⟨a, B, sI, pins, σ', H', cls, d, rfl, J, nb, (up.trans up3).trans up4, .inr (.inr (by rw [hs]; exact hh4)), na, os, ag, w⟩
        first
          | exact wpAny_bind (wpAny_pure (wpAny_bind fin))
          | exact wpAny_bind fin
      | @cons x c ts b₀ suite np pos' hds2 l2 hc hsu r ih =>
        intro w
        obtain ⟨b, hb1, hyes, hno⟩ := w
        refine wpAny_handleBy_cons (codeAny_handlers_test ?_) (by intro q; cases q)
        have LM := PySem.W.exm_one (M := model X.prog X.w) (J3.kIn) LT hb1
        refine test hc (LM.here ?_)
        cases b with
        | true =>
          refine codeAny_handlers_suite ?_
          refine HandSPX.lands_againZ fl3 fun h4 fl4 up4 => ?_
          have J4 : Inv X pins σ' H' { s' with heap := h4 } := J.landed nb fl4.1 ((up.trans up3).trans up4) os ag
          obtain ⟨oe4, vs4, he4, hz4, hd4⟩ := fl4.there
          have S4 := J4.suite he4 hd4 na nL nF
          refine wpAny_mono ((hsu a oe4 cls d (X.pn ++ pins) hz4 ⟨_, hd4⟩).run [] _ _ H' _ S4 (hyes rfl a na)) (fun f s6 hsp => ?_) (fun _ _ z => False.elim z)
          cases f with
          | next =>
            obtain ⟨σ6, H6, S6, q6⟩ := hsp
            exact ⟨_, _, S6.unsuite ok, q6⟩
          | brk =>
            obtain ⟨σ6, H6, S6, q6⟩ := hsp
            exact ⟨_, _, S6.unsuite ok, q6⟩
          | cont =>
            obtain ⟨σ6, H6, S6, q6⟩ := hsp
            exact ⟨_, _, S6.unsuite ok, q6⟩
          | ret u =>
            obtain ⟨v6, σ6, H6, S6, r6, q6⟩ := hsp
            exact ⟨_, _, _, S6.unsuite ok, r6, q6⟩
        | false =>
          show wpAny _ X.A (handleBy (.ref a) X.env hds2) _ _ _
          exact ih (hno rfl)
      | @as x n i c ts b₀ suite np pos' hds2 l2 hN hi hln hc hsu r ih =>
        intro w
        obtain ⟨b, hb1, hyes, hno⟩ := w
        have hloc : Loc X.env.scope n := .inl hln
        refine wpAny_handleBy_cons (codeAny_handlers_test ?_) (by intro q; cases q)
        have LM := PySem.W.exm_one (M := model X.prog X.w) (J3.kIn) LT hb1
        refine test hc (LM.here ?_)
        cases b with
        | true =>
          refine codeAny_handlers_suite_as ?_
          refine HandSPX.lands_againZ fl3 fun h4 fl4 up4 => ?_
          have J4 : Inv X pins σ' H' { s' with heap := h4 } := J.landed nb fl4.1 ((up.trans up3).trans up4) os ag
          obtain ⟨oe4, vs4, he4, hz4, hd4⟩ := fl4.there
          have S4 := J4.suite he4 hd4 na nL nF
          refine store_ok (X := X.suite a ((a, oe4) :: (X.pn ++ pins))) (v := .ref a) S4 hN hi hloc rfl (fun s5 S5 => ?_) (.inr hln)
          refine wpAny_mono ((hsu a oe4 cls d (X.pn ++ pins) hz4 ⟨_, hd4⟩).run [] s5 _ H' _ S5 (hyes rfl a na)) (fun f s6 hsp => ?_) (fun _ _ z => False.elim z)
          have end_ : ∀ {σ6 : L2.St} {H6 : Hp} {Q : Shared → Prop}, Inv (X.suite a ((a, oe4) :: (X.pn ++ pins))) [] σ6 H6 s6 → (∀ s7, Inv X pins (σ6.set i none) H6 s7 → Q s7) →
              wpAny (model X.prog X.w) X.A (do bindName X.env n .none; unbindBehindTheSuite X.env n pos') (fun _ s7 => Q s7) X.xe s6 := fun {σ6 H6 Q} S6 hq => gone_ok (S6.unsuite ok) hN hi hln hq
          cases f with
          | next =>
            obtain ⟨σ6, H6, S6, q6⟩ := hsp
            exact end_ S6 fun s7 J7 => ⟨_, _, J7, q6⟩
          | brk =>
            obtain ⟨σ6, H6, S6, q6⟩ := hsp
            exact end_ S6 fun s7 J7 => ⟨_, _, J7, q6⟩
          | cont =>
            obtain ⟨σ6, H6, S6, q6⟩ := hsp
            exact end_ S6 fun s7 J7 => ⟨_, _, J7, q6⟩
          | ret u =>
            obtain ⟨v6, σ6, H6, S6, r6, q6⟩ := hsp
            exact end_ S6 fun s7 J7 => ⟨_, _, _, J7, r6, q6⟩
        | false =>
          show wpAny _ X.A (handleBy (.ref a) X.env hds2) _ _ _
          exact ih (hno rfl)
    exact go hh w
  · cases f with
    | next =>
      obtain ⟨σ', H', J', q⟩ := hsp
      exact wpAny_execs_nil ⟨σ', H', J'.ofTry ok, q⟩
    | brk =>
      obtain ⟨σ', H', J', q⟩ := hsp
      exact ⟨σ', H', J'.ofTry ok, q⟩
    | cont =>
      obtain ⟨σ', H', J', q⟩ := hsp
      exact ⟨σ', H', J'.ofTry ok, q⟩
    | ret u =>
      obtain ⟨v, σ', H', J', r, q⟩ := hsp
      exact ⟨v, σ', H', J'.ofTry ok, r, q⟩
end
/-! ### defs that raise, by their names -/
section
variable (P : Program) (w : World) (K : PySem.W.Frag) (mg : Str → Option Value) (base : Heap)
structure DefX (k : Nat) (x : Str) (st : Stmt) (ps : List Str) (sp : Sp) : Prop where
  ex : ∃ (f : Addr) (fd : FuncData), FnOk P w K mg base (L2.CX P w) k f fd ps sp ∧ mg x = some (.ref f) ∧ PySem.W.keepIn K (.ref f) = true ∧ L2.Binds K fd ps [] ∧ Fun K x x st f fd
end
section
variable {X : Cx} {k : Nat} {x : Str} {st : Stmt} {ps : List Str} {sp : Sp} {p pos : Pos} {e : Expr} {es : List Expr} {t : TA} {W : WX}
theorem pe_defX (O : DefX X.prog X.w X.K X.mg X.base k x st ps sp) (tk : Takes X W) (hr : Room k X.A) (hg : Gl X x) (ha : PA X (e :: es) t) (hdb : (x == ("__debug__" : Str)) = false := by decide)
    (he : starEach (e :: es) X.env = (false, eval e X.env) :: starEach es X.env := by rfl) (hpl : (backTo pos (starEach es X.env)).any (·.1) = false := by rfl) :
    PE X (.Call (.Name x p) (e :: es) [] pos) (tCallS sp (WE W) t) := by
  obtain ⟨f, fd, F, hm, hk, hb, _⟩ := O.ex
  exact pe_callS F hr hg hm hk hb (fun σ => passAt tk σ) ha hdb he hpl
end
section
variable {P : Program} {w : World} {K : PySem.W.Frag} {mg : Str → Option Value} {base : Heap}
theorem Here.toDefX {x : Str} {st : Stmt} {k : Nat} {ps : List Str} {sp : Sp} (z : Here K mg x st) (ok : ∀ {f : Addr} {fd : FuncData}, Fun K x x st f fd → FnOk P w K mg base (L2.CX P w) k f fd ps sp)
    (b : ∀ (kV doc pm : Value) (an : Option Addr) (cdv ct : Value) (us : List Value), us.length = ps.length → bindArgs (PySem.W.fnOf x x (defArgs st) (defBody st) (defScope st) .none kV doc pm an cdv ct) ⟨us, []⟩ = pure (ps.zip us)) : DefX P w K mg base k x st ps sp := by
  obtain ⟨f, fd, hm, F⟩ := z
  exact ⟨f, fd, ok F, hm, F.kp, F.binds b, F⟩
end
section
variable {K : PySem.W.Frag}
/-- isinstance of the error that the suite holds -/
def rIsX (K : PySem.W.Frag) (cls : Value) (d : Option Addr) (a : Addr) : List V → Hp → VK → Prop := fun xs H Q => ∃ (D : Addr) (c : V) (cv : Value) (b : Bool), cls = .ref D ∧ d = none ∧ ExcC K D ∧ xs = [.ref a, c] ∧ (∀ u, RelV c u → u = cv) ∧ PySem.W.kitOne K (.ref D) cv = some b ∧ Q (.bl b) H
theorem call_isX {X : Cx} {a : Addr} {cls : Value} {d : Option Addr} {oe : Obj} {pn : List (Addr × Obj)} (hz : Zc cls d oe) (hf : ∃ vs, oe.data = .fields vs) : CallR (X.suite a ((a, oe) :: pn)) (.builtin "isinstance") (rIsX X.K cls d a) := by
  intro pins s σ H xs us Q I r h
  obtain ⟨D, c, cv, b, rfl, rfl, E, h⟩ := h
  exact call_isE E hz hf pins s σ H xs us Q I r ⟨c, cv, b, h⟩
end
end Ly

set_option Elab.async false
set_option linter.all false
set_option maxRecDepth 100000
/-! a text against an object of any kind: equal, or in a list of texts -/
namespace Ly
open PySem PySem.Spec PyProof.Rows L2 Mt
theorem str_eq_declines_dict (b : Str) (u : Tok) (l : Addr) (o : Obj) (es : Array DictEntry) (ep : Nat) (hd : o.data = .dict es ep) (hc : o.cls = .type "dict") :
    Meets (Builtin.«str.__eq__» ⟨[.str b u, .ref l], []⟩) (fun _ R s => s.heap.get? l = some o ∧ R (.ok (.ret .notImplemented)) s) :=
  .of_wp fun prog w A R s h => by
    obtain ⟨cls, dd, data, sl⟩ := o
    simp only at hd hc
    subst hd hc
    obtain ⟨hp, g, d, tk, os⟩ := s
    obtain ⟨hl, h⟩ := h
    wp_walk using wpAny_loadPart' hl, wpAny_load hl
    exact ⟨_, rfl, h⟩
section
variable {A : Around} {s : Shared} {prog : Program} {w : World}
theorem dict_eq_declines_str {l : Addr} (b : Str) (u : Tok) (hT : s.TypeIs (.ref l) "dict") {E : Value → Shared → Prop} {Q : Value → Shared → Prop} (h : Q .notImplemented s) :
    wpAny (model prog w) A (call (.builtin "dict.__eq__") [.ref l, .str b u]) Q E s := by
  refine wpAny_call_entry PySem.F.slot_dict_eq_refl hT PySem.F.entry_dict_eq ?_ (PySem.F.args_dict_eq_2 _ _)
  show wpAny _ _ (Builtin.Dict.dictSlotArgs "__eq__" ⟨[.ref l, .str b u], []⟩ >>= _) _ _ s
  refine wpAny_bind ?_
  unfold Builtin.Dict.dictSlotArgs
  refine wpAny_bind (wpAny_notOrdered_dict hT ?_)
  show wpAny _ _ (pure (Value.ref l, Value.str b u)) _ _ s
  refine wpAny_pure ?_
  refine wpAny_bind (wpAny_isInstance (typeIs_str s b u) PySem.F.sub_str_dict ?_)
  simp only [Bool.not_false, if_true]
  refine wpAny_bind (wpAny_rule (wpAny_bind (wpAny_pure ?_)))
  exact wpAny_pure ⟨_, rfl, h⟩
theorem RcAt.str_dict {l : Addr} {o : Obj} {es : Array DictEntry} {ep : Nat} (b : Str) (u : Tok) (ho : s.heap.get? l = some o) (hd : o.data = .dict es ep) (hc : o.cls = .type "dict") (hu : A.units < cLine) : SeqAt.RcAt A s (.str b u) (.ref l) false := fun prog w E Q h => by
  have hT : s.TypeIs (.ref l) "dict" := ⟨_, ho, hc⟩
  exact SeqAt.rc_eq_decline_or (k := false) (typeIs_str s b u) hT (by decide) PySem.F.sub_dict_str PySem.F.slot_str_eq PySem.F.slot_dict_eq_refl
    (fun _ hq => call_meets PySem.F.slot_str_eq (typeIs_str s b u) PySem.F.entry_str_eq (PySem.F.args_str_eq_2 _ _) (str_eq_declines_dict b u l o es ep hd hc) ⟨ho, hq⟩)
    (fun _ hq => dict_eq_declines_str b u hT hq)
    (fun _ hq => wpAny_of_eq (rfl : isSame (.str b u) (.ref l) = pure false) hq) (.inr hu) h
theorem EqAt.str_dict {l : Addr} {o : Obj} {es : Array DictEntry} {ep : Nat} (b : Str) (u : Tok) (ho : s.heap.get? l = some o) (hd : o.data = .dict es ep) (hc : o.cls = .type "dict") (hu : A.units < cLine) : SeqAt.EqAt A s (.str b u) (.ref l) false := fun prog w E Q h => by
  unfold eqBool
  refine wpAny_holding ?_
  refine wpAny_ite_split (fun hab => absurd (eq_of_beq hab) nofun) (fun _ => ?_)
  exact wpAny_bind (Ly.RcAt.str_dict b u ho hd hc hu prog w E _ (wpAny_truthy_bool h))
end
/-- an object of any kind; a text is told -/
inductive Odd (K : PySem.W.Frag) (H : Hp) : V → Option Str → Prop
  | non : Odd K H .non none
  | bl (b : Bool) : Odd K H (.bl b) none
  | int (i : Int) : Odd K H (.int i) none
  | str (z : Str) : Odd K H (.str z) (some z)
  | tup {a : Addr} {xs : List V} : SqT K H a xs → Odd K H (.ref a) none
  | lst {a : Addr} {xs : List V} : SqL K H a xs → Odd K H (.ref a) none
  | dic {a : Addr} {kvs : List (Key × V)} : H a = some (.dK kvs) → Odd K H (.ref a) none
theorem Odd.same {K : PySem.W.Frag} {H H' : Hp} {v : V} {o : Option Str} (h : Odd K H v o) (s : Same H H') : Odd K H' v o := by
  cases h with
  | non => exact .non
  | bl b => exact .bl b
  | int i => exact .int i
  | str z => exact .str z
  | tup h => exact .tup (sqt_same' h s)
  | lst h => exact .lst (sql_same' h s)
  | dic h => exact .dic (s _ _ h)
section
variable {X : Cx} {pins : List (Addr × Obj)} {σ : L2.St} {H : Hp} {s : Shared} {A : Around}
theorem Odd.eqAt (I : Inv X pins σ H s) {v : V} {o : Option Str} (h : Odd X.K H v o) {u : Value} (r : RelV v u) (z : Str) (t : Tok) (hu : A.units < cLine) : SeqAt.EqAt A s (.str z t) u (decide (o = some z)) := by
  cases h with
  | non => cases r; exact SeqAt.EqAt.str_none z t
  | bl b => cases r; exact SeqAt.EqAt.str_bool z t b
  | int i => obtain ⟨t', rfl⟩ := r; exact SeqAt.EqAt.str_int z t i t'
  | str y =>
    obtain ⟨t', rfl⟩ := r
    have e : decide (some y = some z) = (z == y) := by
      by_cases h : z = y
      · subst h; simp
      · rw [decide_eq_false (fun e => h (Option.some.inj e).symm)]
        exact (beq_eq_false_iff_ne.mpr h).symm
    rw [e]
    exact SeqAt.EqAt.str_str z t y t'
  | tup hs =>
    cases r
    obtain ⟨its, rv, p, _⟩ := I.tuple hs
    exact SeqAt.EqAt.str_tuple z t p hu
  | lst hs =>
    cases r
    obtain ⟨its, rv, p, _⟩ := I.list hs
    exact SeqAt.EqAt.str_list z t p.isList hu
  | @dic a kvs hs =>
    cases r
    obtain ⟨_, _, vs, _, o', es, ep, ho, hx, hd, _⟩ := (show ObjOk X.prog X.w H s.heap a (.dK kvs) from I.hok a _ hs)
    exact Ly.EqAt.str_dict z t ho hd hx.1 hu
theorem Odd.rcAt (I : Inv X pins σ H s) {v : V} {o : Option Str} (h : Odd X.K H v o) {u : Value} (r : RelV v u) (z : Str) (t : Tok) (hu : A.units < cLine) : SeqAt.RcAt A s (.str z t) u (decide (o = some z)) := by
  cases h with
  | non => cases r; exact SeqAt.RcAt.str_none z t
  | bl b => cases r; exact SeqAt.RcAt.str_bool z t b
  | int i => obtain ⟨t', rfl⟩ := r; exact SeqAt.RcAt.str_int z t i t'
  | str y =>
    obtain ⟨t', rfl⟩ := r
    have e : decide (some y = some z) = (z == y) := by
      by_cases h : z = y
      · subst h; simp
      · rw [decide_eq_false (fun e => h (Option.some.inj e).symm)]
        exact (beq_eq_false_iff_ne.mpr h).symm
    rw [e]
    exact SeqAt.RcAt.str_str z t y t'
  | tup hs =>
    cases r
    obtain ⟨its, rv, p, _⟩ := I.tuple hs
    exact SeqAt.RcAt.str_tuple z t p hu
  | lst hs =>
    cases r
    obtain ⟨its, rv, p, _⟩ := I.list hs
    exact SeqAt.RcAt.str_list z t p.isList hu
  | @dic a kvs hs =>
    cases r
    obtain ⟨_, _, vs, _, o', es, ep, ho, hx, hd, _⟩ := (show ObjOk X.prog X.w H s.heap a (.dK kvs) from I.hok a _ hs)
    exact Ly.RcAt.str_dict z t ho hd hx.1 hu
end
/-- a text == an object -/
def rEqO (K : PySem.W.Frag) : R2 := fun x y H Q => ∃ z o, x = .str z ∧ Odd K H y o ∧ Q (.bl (decide (o = some z))) H
theorem kop_eqO {X : Cx} (K : PySem.W.Frag) (hu : X.A.units + 1 < cLine) (eK : X.K = K := by rfl) : OpR X (compareOp .Eq) (rEqO K) := by
  subst eK
  intro pins s σ H x y v u Q I rx ry h
  obtain ⟨z, o, rfl, ho, q⟩ := h
  obtain ⟨t, rfl⟩ := rx
  exact ho.rcAt I ry z t (by omega) _ _ _ _ ⟨.bl _, H, I, rfl, q⟩
/-- an object not in a list of texts -/
def rNotInO (K : PySem.W.Frag) : R2 := fun x y H Q => ∃ p zs o, y = .ref p ∧ SqL K H p (List.map V.str zs) ∧ Odd K H x o ∧ Q (.bl (!zs.any fun z => decide (o = some z))) H
theorem kop_notInO {X : Cx} (K : PySem.W.Frag) (hu : X.A.units + 1 < cLine) (eK : X.K = K := by rfl) : OpR X (compareOp .NotIn) (rNotInO K) := by
  subst eK
  intro pins s σ H x y v u Q I rx ry h
  obtain ⟨p, zs, o, rfl, hq, ho, q⟩ := h
  cases ry
  obtain ⟨its, r, pl, hz⟩ := I.list hq
  refine SeqAt.notIn_listAt (fun w => match w with | .str z _ => decide (o = some z) | _ => false) pl.isList (fun w hw => ?_) ⟨.bl _, H, I, rfl, ?_⟩
  · have hw' : w ∈ its := by simpa using hw
    have : ∀ {xs : List Str} {us : List Value}, Vals (xs.map V.str) us → ∀ w ∈ us, ∃ z t, w = .str z t := fun {xs} => by
      induction xs with
      | nil => intro us h w hw; cases h; cases hw
      | cons z xs ih =>
        intro us h w hw
        cases h with
        | cons h1 h2 =>
          rcases List.mem_cons.mp hw with rfl | hw
          · obtain ⟨t, rfl⟩ := h1
            exact ⟨z, t, rfl⟩
          · exact ih h2 w hw
    obtain ⟨z, t, rfl⟩ := this r w hw'
    exact ho.eqAt I rx z t (by show X.A.units + 1 < cLine; omega)
  · have : ∀ {xs : List Str} {us : List Value}, Vals (xs.map V.str) us → us.any (fun w => match w with | .str z _ => decide (o = some z) | _ => false) = xs.any fun z => decide (o = some z) := fun {xs} => by
      induction xs with
      | nil => intro us h; cases h; rfl
      | cons z xs ih =>
        intro us h
        cases h with
        | cons h1 h2 =>
          obtain ⟨t, rfl⟩ := h1
          rw [List.any_cons, List.any_cons, ih h2]
    rw [show its.toArray.any (fun w => match w with | .str z _ => decide (o = some z) | _ => false) = its.any (fun w => match w with | .str z _ => decide (o = some z) | _ => false) by simp, this r]
    exact q
end Ly

set_option Elab.async false
set_option linter.all false
set_option maxRecDepth 100000
/-! dicts whose keys are tuples of tuples; `<` of data; sorted of such a dict -/
namespace Ly
open PySem PySem.Spec PyProof.Rows L2
/-! ### keys as data -/
mutual
def kD : NestedKey → PyData
  | .none => .none
  | .num i => .int i
  | .text x => .str x
  | .tup ks => .tuple (kDs ks)
def kDs : List NestedKey → List PyData
  | [] => []
  | k :: ks => kD k :: kDs ks
end
section
variable {X : Cx} {pins : List (Addr × Obj)} {σ : L2.St} {H : Hp} {s : Shared}
mutual
theorem nest_is (I : Inv X pins σ H s) : ∀ (k : NestedKey) {v : V} {u : Value}, Im X.K H v (kD k) → RelV v u → NestedIs s.heap k u
  | .none, _, _, h, r => by
    unfold kD at h
    cases h; cases r; exact .none
  | .num i, _, _, h, r => by
    unfold kD at h
    cases h; obtain ⟨t, rfl⟩ := r; exact .int _ _
  | .text x, _, _, h, r => by
    unfold kD at h
    cases h; obtain ⟨t, rfl⟩ := r; exact .text _ _
  | .tup ks, _, _, h, r => by
    unfold kD at h
    cases h with
    | tup e a =>
      cases r
      obtain ⟨its, rv, ⟨o, ho, hc, n, hd⟩, _⟩ := I.tuple e.sq
      exact .tup ho hc hd (nest_all I ks a rv)
theorem nest_all (I : Inv X pins σ H s) : ∀ (ks : List NestedKey) {vs : List V} {us : List Value}, ImAll X.K H vs (kDs ks) → Vals vs us → NestedAll s.heap ks us
  | [], _, _, h, r => by
    unfold kDs at h
    cases h; cases r; exact .nil
  | k :: ks, _, _, h, r => by
    unfold kDs at h
    cases h with
    | cons a b =>
      cases r with
      | cons ra rb => exact .cons (nest_is I k a ra) (nest_all I ks b rb)
end
end
/-- what the dict at a holds: keys, their tuples' places, the values' places -/
abbrev NK := NestedKey × Addr × Addr
def rawN (x : NK) : NestedKey × Addr × Value := (x.1, x.2.1, .ref x.2.2)
def dN (P : Program) (w : World) (a : Addr) (xs : List NK) : HO := .ext fun h => xs.length ≤ sizeLine ∧ (a == sysModules) = false ∧
  ∃ o es ep, h.get? a = some o ∧ o.ExactDict ∧ o.data = .dict es ep ∧ es.toList = (xs.map rawN).map (entryOfKey (nestedKind P w)) ∧ (xs.map (·.1)).Nodup
/-- the keys stand -/
def KeysIm (K : PySem.W.Frag) (H : Hp) (xs : List NK) : Prop := ∀ x ∈ xs, Im K H (.ref x.2.1) (kD x.1) ∧ x.1.depth ≤ 8
theorem KeysIm.mono {K : PySem.W.Frag} {H H' : Hp} {xs : List NK} (h : KeysIm K H xs) (t : TK H H') : KeysIm K H' xs := fun x hx => ⟨Im.mono t _ (h x hx).1, (h x hx).2⟩
def valN (xs : List NK) (k : NestedKey) : Option Addr := (xs.find? fun x => decide (x.1 = k)).map (·.2.2)
def putN (xs : List NK) (k : NestedKey) (b v : Addr) : List NK := if (valN xs k).isSome then xs.map (fun x => if x.1 = k then (x.1, x.2.1, v) else x) else xs ++ [(k, b, v)]
theorem atKey_raw (k : NestedKey) : ∀ xs : List NK, (atKey (xs.map rawN) k).map (·.2) = (valN xs k).map Value.ref
  | [] => rfl
  | x :: xs => by
    have ih := atKey_raw k xs
    unfold atKey valN at *
    rw [List.map_cons, List.find?_cons, List.find?_cons]
    by_cases h : x.1 = k
    · have h2 : (rawN x).1 = k := h
      rw [decide_eq_true h, decide_eq_true h2]; rfl
    · have h2 : ¬ (rawN x).1 = k := h
      rw [decide_eq_false h, decide_eq_false h2]; exact ih
theorem isSome_raw (xs : List NK) (k : NestedKey) : (atKey (xs.map rawN) k).isSome = (valN xs k).isSome := by
  have := atKey_raw k xs
  cases h1 : atKey (xs.map rawN) k <;> cases h2 : valN xs k <;> rw [h1, h2] at this <;> simp at this ⊢
theorem put_raw (xs : List NK) (k : NestedKey) (b v : Addr) : (putN xs k b v).map rawN = storedH (xs.map rawN) k b (.ref v) := by
  unfold putN storedH
  rw [isSome_raw]
  by_cases h : (valN xs k).isSome = true
  · rw [if_pos h, if_pos h, List.map_map, List.map_map]
    refine List.map_congr_left fun x _ => ?_
    show rawN (if x.1 = k then (x.1, x.2.1, v) else x) = putAt k (.ref v) (rawN x)
    unfold putAt
    by_cases e : x.1 = k
    · rw [if_pos e, if_pos (show (rawN x).1 = k from e)]; rfl
    · rw [if_neg e, if_neg (show ¬ (rawN x).1 = k from e)]
  · rw [if_neg h, if_neg h, List.map_append]; rfl
theorem putN_length (xs : List NK) (k : NestedKey) (b v : Addr) : (putN xs k b v).length ≤ xs.length + 1 := by
  unfold putN
  split
  · rw [List.length_map]; omega
  · rw [List.length_append]; exact Nat.le_refl _
theorem putN_keys {K : PySem.W.Frag} {H : Hp} {xs : List NK} {k : NestedKey} {b v : Addr} (h : KeysIm K H xs) (hb : Im K H (.ref b) (kD k)) (d : k.depth ≤ 8) : KeysIm K H (putN xs k b v) := by
  intro x hx
  unfold putN at hx
  split at hx
  · obtain ⟨y, hy, rfl⟩ := List.mem_map.mp hx
    split
    · exact h y hy
    · exact h y hy
  · rcases List.mem_append.mp hx with hx | hx
    · exact h x hx
    · rw [List.mem_singleton.mp hx]; exact ⟨hb, d⟩
section
variable {X : Cx} {pins : List (Addr × Obj)} {σ : L2.St} {H : Hp} {s : Shared} {a : Addr} {xs : List NK} {A : Around} {E : Value → Shared → Prop}
theorem dN_of (I : Inv X pins σ H s) (e : H a = some (dN X.prog X.w a xs)) (ks : KeysIm X.K H xs) : xs.length ≤ sizeLine ∧ (a == sysModules) = false ∧ s.heap.DictOfH (nestedKind X.prog X.w) a (xs.map rawN) := by
  obtain ⟨⟨z, hd, o, es, ep, h1, h2, h3, h4, h5⟩, _, _⟩ := (show ObjOk X.prog X.w H s.heap a (dN X.prog X.w a xs) from I.hok a _ e)
  refine ⟨z, hd, o, es, ep, h1, h2, h3, h4, fun y hy => ?_, by rw [List.map_map]; exact h5⟩
  obtain ⟨x, hx, rfl⟩ := List.mem_map.mp hy
  obtain ⟨k1, k2⟩ := ks x hx
  exact ⟨nest_is I x.1 k1 rfl, k2⟩
theorem dN_ok {P : Program} {w : World} {H' : Hp} {h' : Heap} {ys : List NK} (z : ys.length ≤ sizeLine) (hd : (a == sysModules) = false) (d : h'.DictOfH (nestedKind P w) a (ys.map rawN)) : ObjOk P w H' h' a (dN P w a ys) := by
  obtain ⟨o, es, ep, h1, h2, h3, h4, h5, h6⟩ := d
  rw [List.map_map] at h6
  refine ⟨⟨z, hd, o, es, ep, h1, h2, h3, h4, h6⟩, ⟨o, h1⟩, fun g1 g2 q k => ?_⟩
  obtain ⟨z, hd, o, es, ep, h1, h2, h3, h4, h6⟩ := q
  exact ⟨z, hd, o, es, ep, k o h1, h2, h3, h4, h6⟩
end
/-! ### the rules -/
/-- {} for such keys -/
def tDNewN (P : Program) (w : World) : TE := fun _ H Q => ∀ p, H p = none → Q (.ref p) (upd H p (dN P w p []))
def rGetN (P : Program) (w : World) (K : PySem.W.Frag) (H : Hp) (a : Addr) (y : V) (xs : List NK) (k : NestedKey) (b : Addr) : Prop := H a = some (dN P w a xs) ∧ KeysIm K H xs ∧ y = .ref b ∧ Im K H (.ref b) (kD k) ∧ k.depth ≤ 8
/-- d[y] -/
def tNGet (X : Cx) (td ty : TE) : TE := fun σ H Q => td σ H fun x H1 => ty σ H1 fun y H2 => ∃ a xs k b v, x = .ref a ∧ rGetN X.prog X.w X.K H2 a y xs k b ∧ valN xs k = some v ∧ Q (.ref v) H2
/-- d.get(y, z) -/
def tNGet2 (X : Cx) (td ty tx : TE) : TE := fun σ H Q => td σ H fun x H1 => ∃ a xs, x = .ref a ∧ H1 a = some (dN X.prog X.w a xs) ∧ KeysIm X.K H1 xs ∧ ty σ H1 fun y H2 => tx σ H2 fun z H3 => ∃ k b, rGetN X.prog X.w X.K H3 a y xs k b ∧ Q (((valN xs k).map V.ref).getD z) H3
/-- d[y] = v -/
def sNPut (X : Cx) (td ty tv : TE) : TS := fun D σ H => tv σ H fun v H1 => td σ H1 fun x H2 => ty σ H2 fun y H3 => ∃ a xs k b c, x = .ref a ∧ v = .ref c ∧ rGetN X.prog X.w X.K H3 a y xs k b ∧ xs.length < sizeLine ∧ D.nx σ (upd H3 a (dN X.prog X.w a (putN xs k b c)))
section
variable {X : Cx} {o i e f value : Expr} {pos pos' tpos apos cpos : Pos} {td ty tv tx : TE}
theorem pe_dnewN : PE X (.Dict [] [] pos) (tDNewN X.prog X.w) := ⟨fun pins s σ H Q I h =>
  wpAny_Dict_empty ⟨.ref s.heap.objs.size, _, I.laid (a := s.heap.objs.size) (o := dN X.prog X.w s.heap.objs.size []) (t' := s.toks) (fun _ _ q => Heap.get?_push_of_some _ q) (Nat.le_refl _)
    (dN_ok (Nat.zero_le _) (beq_eq_false_iff_ne.mpr (Ne.symm (Nat.ne_of_lt I.big))) (Heap.DictOfH.new s.heap)), rfl, h _ (I.hok.fresh (Nat.le_refl _))⟩⟩
theorem pe_nget (hu : X.A.units + 10 < cLine) (ho : PE X o td) (hi : PE X i ty) (hs : NoSl i) : PE X (.Subscript o i pos) (tNGet X td ty) := by
  refine ⟨fun pins s σ H Q I h => ?_⟩
  refine subD_of PySem.F.slot_dict_getitem.lookup hs (thn (ho.run pins s σ H _ I h) fun u s1 ⟨x, H1, I1, rx, q1⟩ => thn (hi.run pins s1 σ H1 _ I1 q1) fun iv s2 ⟨y, H2, I2, ry, a, xs, k, b, v, ex, g, hv, q2⟩ => ?_)
  subst ex
  obtain rfl : u = Value.ref a := rx
  obtain ⟨e, ks, rfl, ib, dk⟩ := g
  obtain rfl : iv = Value.ref b := ry
  obtain ⟨z, hd, dd⟩ := dN_of I2 e ks
  refine ⟨dd.typeIs, ?_⟩
  have hw := atKey_raw k xs
  rw [hv] at hw
  obtain ⟨p, hp, hp2⟩ := Option.map_eq_some_iff.mp hw
  refine wpAny_getItem_heap (k := k) (by show X.A.in1.units + 8 < cLine; show X.A.units + 1 + 8 < cLine; omega) (show (nestedKind X.prog X.w).is s2.heap k b from ⟨nest_is I2 k ib rfl, dk⟩) dd hp ?_
  rw [hp2]
  exact ⟨.ref v, H2, I2.tok _, rfl, q2⟩
theorem pe_nget2 (hu : X.A.units + 10 < cLine) (ho : PE X o td) (he : PE X e ty) (hf : PE X f tx) (m : M2 X o "get" apos e f cpos) : PE X (.Call (.Attribute o "get" apos) [e, f] [] cpos) (tNGet2 X td ty tx) := by
  refine ⟨fun pins s σ H Q I h => ?_⟩
  refine wpAny_Call_method m.base m.few m.line PySem.F.plainAttrs_dict PySem.F.slot_dict_get PySem.F.type_dict_get (thn (ho.run pins s σ H _ I h) fun u s1 ⟨x, H1, I1, rx, a, xs, ex, e1, k1, q1⟩ => ?_)
  subst ex
  obtain rfl : u = Value.ref a := rx
  obtain ⟨z, hd, dd1⟩ := dN_of I1 e1 k1
  refine ⟨dd1.typeIs, fun b q => ?_, ?_⟩
  · cases q
    obtain ⟨ob, _, _, h1, h2, _⟩ := dd1
    exact ⟨ob, h1, h2.2.1⟩
  · rw [m.trees]
    refine Calls.callWith_builtin rfl (Calls.evalArgs_plain (Calls.spliced_cons (thn (he.run pins s1 σ H1 _ I1 q1) fun iv s2 ⟨y, H2, I2, ry, q2⟩ =>
      Calls.spliced_cons (thn (hf.run pins s2 σ H2 _ I2 q2) fun fv s3 ⟨z, H3, I3, rz, k, b, g, q3⟩ => Calls.spliced_nil ?_))))
    obtain ⟨e3, ks, rfl, ib, dk⟩ := g
    obtain rfl : iv = Value.ref b := ry
    obtain ⟨_, hd, dd⟩ := dN_of I3 e3 ks
    refine call_meetsIn PySem.F.slot_dict_get dd.typeIs PySem.F.entry_dict_get (PySem.F.args_dict_get_3 _ _ _) (meetsH_dict_get_default (nestedKind X.prog X.w) a b hd fv) ⟨by show X.A.units + 1 + 8 < cLine; omega, k, _, ⟨nest_is I3 k ib rfl, dk⟩, dd, _, H3, I3.tok _, ?_, q3⟩
    rw [atKey_raw]
    cases valN xs k with
    | none => exact rz
    | some v => exact rfl
theorem ps_nput (hu : X.A.units + 10 < cLine) (ho : PE X o td) (hi : PE X i ty) (hv : PE X value tv) (hs : swapsWith value (some (.Subscript o i pos')) pos.line X.env = pure false) :
    PS X (.Assign [.Subscript o i pos'] value pos) (sNPut X td ty tv) := by
  refine ⟨fun pins s σ H D I h => ?_⟩
  refine wpAny_Assign_Subscript (thn (hv.run pins s σ H _ I h) fun r s1 ⟨v, H1, I1, rv, q1⟩ => thn (ho.run pins s1 σ H1 _ I1 q1) fun u s2 ⟨x, H2, I2, rx, q2⟩ => thn (hi.run pins s2 σ H2 _ I2 q2) fun iv s3 ⟨y, H3, I3, ry, a, xs, k, b, c, ex, ev, g, hl, q3⟩ => ?_) hs
  subst ex ev
  obtain rfl : u = Value.ref a := rx
  obtain rfl : r = Value.ref c := rv
  obtain ⟨e, ks, rfl, ib, dk⟩ := g
  obtain rfl : iv = Value.ref b := ry
  obtain ⟨z, hd, dd⟩ := dN_of I3 e ks
  refine wpAny_setItem_heap (hsz := by rw [List.length_map]; exact z) (k := k) (by show X.A.units + 1 + 8 < cLine; omega) (show (nestedKind X.prog X.w).is s3.heap k b from ⟨nest_is I3 k ib rfl, dk⟩) dd fun h' dd' hs' => ⟨σ, _, ?_, q3⟩
  rw [← put_raw] at dd'
  have he : ∃ q, h'.get? a = some q := let ⟨q, _, _, hq, _⟩ := dd'; ⟨q, hq⟩
  exact d_write I3 (by rw [e]; exact True.intro) hs' he (dN_ok (by have := putN_length xs k b c; omega) hd dd')
end
/-! ### < of data -/
def rLtD (K : PySem.W.Frag) : R2 := fun x y H Q => ∃ d e, Dp K H x d ∧ Dp K H y e ∧ PySem.W.alike d e = true ∧ d ≠ .none ∧ d.depth ≤ 64 ∧ Q (.bl (PySem.W.dataLt d e)) H
theorem op_ltD {X : Cx} (K : PySem.W.Frag) (hu : X.A.units + 64 < cLine) (eK : X.K = K := by rfl) : OpR X (compareOp .Lt) (rLtD K) := by
  subst eK
  intro pins s σ H x y v u Q I rx ry h
  obtain ⟨d, e, hd, he, al, nn, dp, q⟩ := h
  obtain ⟨as, ra⟩ := Dp.reads I d x v hd rx
  obtain ⟨bs, rb⟩ := Dp.reads I e y u he ry
  exact PySem.W.lt_data ra rb al nn (by omega) ⟨.bl _, H, I, rfl, q⟩
/-! ### sorted of such a dict -/
section
variable {X : Cx} {pins : List (Addr × Obj)} {σ : L2.St} {H : Hp} {s : Shared}
mutual
theorem nest_reads (I : Inv X pins σ H s) : ∀ (k : NestedKey) {v : V} {u : Value}, Im X.K H v (kD k) → RelV v u → Reads s.heap u (kD k) []
  | .none, _, _, h, r => by
    unfold kD at h ⊢
    cases h; cases r; exact .none
  | .num i, _, _, h, r => by
    unfold kD at h ⊢
    cases h; obtain ⟨t, rfl⟩ := r; exact .int _ _
  | .text x, _, _, h, r => by
    unfold kD at h ⊢
    cases h; obtain ⟨t, rfl⟩ := r; exact .str _ _
  | .tup ks, _, _, h, r => by
    unfold kD at h ⊢
    cases h with
    | tup e a =>
      cases r
      obtain ⟨its, rv, ⟨o, ho, hc, n, hd⟩, _⟩ := I.tuple e.sq
      exact .tuple ho hc hd (nest_readsAll I ks a rv)
theorem nest_readsAll (I : Inv X pins σ H s) : ∀ (ks : List NestedKey) {vs : List V} {us : List Value}, ImAll X.K H vs (kDs ks) → Vals vs us → ReadsAll s.heap us (kDs ks) []
  | [], _, _, h, r => by
    unfold kDs at h ⊢
    cases h; cases r; exact .nil
  | k :: ks, _, _, h, r => by
    unfold kDs at h ⊢
    cases h with
    | cons a b =>
      cases r with
      | cons ra rb => exact .cons (as := []) (bs := []) (nest_reads I k a ra) (nest_readsAll I ks b rb)
end
end
theorem each_of {α β : Type} {R : α → β → Prop} : ∀ {as : List α} {bs : List β}, as.length = bs.length → (∀ (i : Nat) (a : α) (b : β), as[i]? = some a → bs[i]? = some b → R a b) → PySem.W.EachIs R as bs
  | [], [], _, _ => .nil
  | a :: as, b :: bs, l, h => .cons (h 0 a b rfl rfl) (each_of (by simpa using l) fun i x y e1 e2 => h (i + 1) x y (by simpa using e1) (by simpa using e2))
  | [], _ :: _, l, _ => by simp at l
  | _ :: _, [], l, _ => by simp at l
theorem each_vals : ∀ {us : List Value} {bs : List NK}, PySem.W.EachIs (fun (v : Value) (b : NK) => v = .ref b.2.1) us bs → Vals (bs.map fun x => V.ref x.2.1) us
  | _, _, .nil => .nil
  | _, _, .cons h r => .cons (by subst h; exact rfl) (each_vals r)
def rSortN (X : Cx) : List V → Hp → VK → Prop := fun vs H Q => ∃ a xs, vs = [.ref a] ∧ H a = some (dN X.prog X.w a xs) ∧ KeysIm X.K H xs ∧ PySem.W.AllAlike (xs.map fun x => kD x.1) ∧ PySem.W.Sortable (xs.map fun x => kD x.1) ∧ (∀ x ∈ xs, (kD x.1).depth ≤ 8) ∧
  ∀ p, H p = none → Q (.ref p) (upd H p (.lst ((xs.mergeSort (PySem.W.dataLe false fun x => kD x.1)).map fun x => V.ref x.2.1)))
theorem call_sortedN {X : Cx} (hcalm : X.calm = true) (hu : X.A.units + 20 < cLine) : CallR X (.builtin "sorted") (rSortN X) := by
  intro pins s σ H vs us Q I r q
  obtain ⟨a, xs, ex, e, ks, al, so, dp, q⟩ := q
  subst ex
  obtain ⟨u, eu, rx⟩ := vals1 r
  subst eu
  cases rx
  obtain ⟨z, lo, dd⟩ := dN_of I e ks
  obtain ⟨es, ep, hr, hsz, he⟩ := dd.raw
  rw [List.length_map] at hsz
  refine Calls.call_function_entry PyProof.Rows.kind_sorted PyProof.Rows.plain_sorted PyProof.Rows.entry_sorted (PyProof.Rows.args_sorted1 _) ?_
  unfold Builtin.«sorted»
  refine wpAny_bind (m := checkCount "sorted" 1 1 _) (wpAny_pure ?_)
  refine wpAny_bind (PySem.W.kdu_collect (A := X.A.in1) (PySem.KdlSrc.rawDict (es := es) (ep := ep) lo) (I.ok.hd hcalm) hr (by rw [hsz]; exact z) fun h' tk acc hk hacc => ?_)
  have hal : acc.toList.length = xs.length := by rw [Array.length_toList, hacc.1, hsz]
  have I1 : Inv X pins σ H { s with heap := h', toks := tk } := I.kept hk
  have E1 : PySem.W.EachIs (fun (v : Value) (b : NK) => v = .ref b.2.1 ∧ b ∈ xs) acc.toList xs := each_of hal fun i v b h1 h2 => by
    rw [Array.getElem?_toList] at h1
    obtain ⟨hi, e1⟩ := hacc.2 i v h1
    obtain ⟨y, hy, h3, _⟩ := he i hi
    rw [List.getElem?_map, h2] at hy
    have : rawN b = y := Option.some.inj hy
    subst this
    exact ⟨e1.trans h3, List.mem_of_getElem? h2⟩
  refine wpAny_bind (wpAny_newList ?_ (by rw [hal]; exact z))
  have hoL : (h'.push (seqObj "list" acc.toList.toArray 0)).get? h'.objs.size = some (seqObj "list" acc.toList.toArray 0) := Heap.get?_push_size _ rfl
  show wpAny _ _ _ _ _ { s with heap := h'.push (seqObj "list" acc.toList.toArray 0), toks := tk }
  have E2 : PySem.W.EachIs (fun (v : Value) (b : NK) => ∃ as, Reads (h'.push (seqObj "list" acc.toList.toArray 0)) v (kD b.1) as ∧ h'.objs.size ∉ as) acc.toList xs := E1.mono fun v b h => by
    obtain ⟨rfl, hb⟩ := h
    exact ⟨[], PyProof.Rows.Reads.keeps (fun c o k => Heap.get?_push_of_some _ k) (nest_reads I1 b.1 (ks b hb).1 rfl), by simp⟩
  refine wpAny_bind (wpAny_holding (PySem.W.list_sort_data (R := fun (v : Value) (b : NK) => v = .ref b.2.1) (enc := fun b => kD b.1) hoL (E1.mono fun _ _ h => h.1) E2 al so z (fun b hb => by have := dp b hb; show X.A.units + 1 + 1 + _ < _; omega) fun out ho eo => ?_))
  obtain ⟨e', he'⟩ := PyProof.Rows.sortedHeap_at (vs := acc.toList) (out := out.toArray) hoL
  have hlen : ((xs.mergeSort (PySem.W.dataLe false fun x => kD x.1)).map fun x => V.ref x.2.1).length ≤ sizeLine := by
    rw [List.length_map, List.length_mergeSort]; exact z
  refine wpAny_pure ⟨_, rfl, .ref h'.objs.size, upd H h'.objs.size (.lst ((xs.mergeSort (PySem.W.dataLe false fun x => kD x.1)).map fun x => V.ref x.2.1)), I1.laid (t' := tk) (fun b u e => ?_) (Nat.le_refl _)
    (show ObjOk X.prog X.w _ _ _ (.lst _) from ⟨hlen, out, e', each_vals eo, he'⟩), rfl, q _ (I1.hok.fresh (Nat.le_refl _))⟩
  have hb : b < h'.objs.size := Heap.lt_size e
  rw [PyProof.Rows.sortedHeap_old (Nat.ne_of_lt hb) (by rw [size_push']; exact Nat.lt_succ_of_lt hb)]
  exact Heap.get?_push_of_some _ e
end Ly

set_option Elab.async false
set_option linter.all false
set_option maxRecDepth 100000
/-! a list == [], a list != [], whatever it holds -/
namespace Ly
open PySem PySem.Spec PyProof.Rows L2
def rEqNil (K : PySem.W.Frag) : R2 := fun x y H Q => ∃ a b xs, x = .ref a ∧ y = .ref b ∧ SqL K H a xs ∧ SqL K H b [] ∧ Q (.bl (decide (xs = []))) H
def rNeNil (K : PySem.W.Frag) : R2 := fun x y H Q => ∃ a b xs, x = .ref a ∧ y = .ref b ∧ SqL K H a xs ∧ SqL K H b [] ∧ Q (.bl (!decide (xs = []))) H
theorem kop_eqNil {X : Cx} (K : PySem.W.Frag) (hu : X.A.units + 64 < cLine) (eK : X.K = K := by rfl) : OpR X (compareOp .Eq) (rEqNil K) := by
  subst eK
  intro pins s σ H x y v u Q I rx ry h
  obtain ⟨a, b, xs, rfl, rfl, ha, hb, q⟩ := h
  cases rx
  cases ry
  obtain ⟨its, rv, pa, _⟩ := I.list ha
  obtain ⟨its2, rv2, pb, _⟩ := I.list hb
  cases rv2
  have l1 := rv.length
  cases xs with
  | nil =>
    cases rv
    refine SeqAt.RcAt.lists (e := fun _ => true) pa.isList pb.isList rfl (by omega) (fun j h1 h2 => by simp at h1) _ _ _ _ ?_
    exact ⟨.bl true, H, I, rfl, by simpa using q⟩
  | cons x xs =>
    refine SeqAt.RcAt.lists_lengths pa.isList pb.isList ?_ (by omega) _ _ _ _ ⟨.bl false, H, I, rfl, by simpa using q⟩
    rw [List.length_cons] at l1
    rw [bne_iff_ne]
    intro z
    simp at z
    rw [z] at l1
    simp at l1
theorem kop_neNil {X : Cx} (K : PySem.W.Frag) (hu : X.A.units + 64 < cLine) (eK : X.K = K := by rfl) : OpR X (compareOp .NotEq) (rNeNil K) := by
  subst eK
  intro pins s σ H x y v u Q I rx ry h
  obtain ⟨a, b, xs, rfl, rfl, ha, hb, q⟩ := h
  cases rx
  cases ry
  obtain ⟨its, rv, pa, _⟩ := I.list ha
  obtain ⟨its2, rv2, pb, _⟩ := I.list hb
  cases rv2
  have l1 := rv.length
  cases xs with
  | nil =>
    cases rv
    refine SeqAt.RcNeAt.lists (e := fun _ => true) pa.isList pb.isList rfl (by omega) (fun j h1 h2 => by simp at h1) _ _ _ _ ?_
    exact ⟨.bl false, H, I, rfl, by simpa using q⟩
  | cons x xs =>
    refine SeqAt.RcNeAt.lists_lengths pa.isList pb.isList ?_ (by omega) _ _ _ _ ⟨.bl true, H, I, rfl, by simpa using q⟩
    rw [List.length_cons] at l1
    rw [bne_iff_ne]
    intro z
    simp at z
    rw [z] at l1
    simp at l1
def rLeD (K : PySem.W.Frag) : R2 := fun x y H Q => ∃ d e, Dp K H x d ∧ Dp K H y e ∧ PySem.W.alike d e = true ∧ d ≠ .none ∧ d.depth ≤ 64 ∧ Q (.bl (!PySem.W.dataLt e d)) H
theorem op_leD {X : Cx} (K : PySem.W.Frag) (hu : X.A.units + 64 < cLine) (eK : X.K = K := by rfl) : OpR X (compareOp .LtE) (rLeD K) := by
  subst eK
  intro pins s σ H x y v u Q I rx ry h
  obtain ⟨d, e, hd, he, al, nn, dp, q⟩ := h
  obtain ⟨as, ra⟩ := Dp.reads I d x v hd rx
  obtain ⟨bs, rb⟩ := Dp.reads I e y u he ry
  exact PySem.W.le_data ra rb al nn (by omega) ⟨.bl _, H, I, rfl, q⟩
end Ly

set_option Elab.async false
set_option linter.all false
set_option maxRecDepth 100000
/-! zip of three tuples -/
namespace Ly
open PySem PySem.Spec PyProof.Rows L2
/-- the tuples at a, b, c as they stand at each turn, their items in new triples -/
def ItzT3 (K : PySem.W.Frag) (a b c : Addr) : It where
  go := fun i H => ∃ xs ys zs x y z, SqT K H a xs ∧ SqT K H b ys ∧ SqT K H c zs ∧ xs[i]? = some x ∧ ys[i]? = some y ∧ zs[i]? = some z
  yld := fun i H v H' => ∃ T x y z, v = .ref T ∧ H T = none ∧ H' = upd H T (.tup [x, y, z]) ∧ (∀ l, SqT K H a l → l[i]? = some x) ∧ (∀ l, SqT K H b l → l[i]? = some y) ∧ ∀ l, SqT K H c l → l[i]? = some z
  stop := fun i H => ∃ xs ys zs : List V, SqT K H a xs ∧ SqT K H b ys ∧ SqT K H c zs ∧ i ≤ xs.length ∧ i ≤ ys.length ∧ i ≤ zs.length ∧ (i = xs.length ∨ i = ys.length ∨ i = zs.length)
theorem in6 {z a b c d e f : Addr} (h : z ∈ [a, b, c, d, e, f]) : z = a ∨ z = b ∨ z = c ∨ z = d ∨ z = e ∨ z = f := by simpa using h
theorem tup_ne {s : Shared} {a i : Addr} {its : Array Value} {n : Nat} (p : IsTup s.heap a its) (l : s.heap.IsTupleIter i a n) : a ≠ i := fun q => by
  obtain ⟨o, ho, c, _⟩ := l
  obtain ⟨o', ho', c', _⟩ := p
  rw [← q, ho'] at ho; cases ho
  rw [c'] at c; simp at c
theorem turnT3 {P : Program} {w : World} {K : PySem.W.Frag} {elts : List Expr} {kk : Nat} {tpos : Pos} {a b c z TI TO i1 i2 i3 : Addr} (S : ZipSep3 z TI TO i1 i2 i3 [i1, a] [i2, b] [i3, c]) :
    Turn P w K (.Tuple elts kk tpos) (ItzT3 K a b c) [z, TI, TO, i1, i2, i3] z (fun i h => IsZip h z TI TO .none ∧ IsTupOf3 h TI (.ref i1) (.ref i2) (.ref i3) ∧ (∃ x y w, IsTupOf3 h TO x y w) ∧ h.IsTupleIter i1 a i ∧ h.IsTupleIter i2 b i ∧ h.IsTupleIter i3 c i) := by
  have z1 := S.zi1
  have z2 := S.zi2
  have z3 := S.zi3
  have keep5 : ∀ {h h' : Heap} {q : Addr} {o : Obj}, (∀ c o, c ≠ z → c ≠ TO → c ≠ i1 → c ≠ i2 → c ≠ i3 → h.get? c = some o → h'.get? c = some o) → q ∉ [z, TI, TO, i1, i2, i3] → h.get? q = some o → h'.get? q = some o :=
    fun k hc q => k _ _ (fun e => hc (by simp [e])) (fun e => hc (by simp [e])) (fun e => hc (by simp [e])) (fun e => hc (by simp [e])) (fun e => hc (by simp [e])) q
  have size6 : ∀ {h : Heap} {i : Nat}, IsZip h z TI TO .none → IsTupOf3 h TI (.ref i1) (.ref i2) (.ref i3) → (∃ x y w, IsTupOf3 h TO x y w) → h.IsTupleIter i1 a i → h.IsTupleIter i2 b i → h.IsTupleIter i3 c i → ∀ q ∈ [z, TI, TO, i1, i2, i3], q < h.objs.size := by
    intro h i hz hT ⟨x, y, w, hO⟩ ⟨o1, e1, _⟩ ⟨o2, e2, _⟩ ⟨o3, e3, _⟩ c hc
    rcases in6 hc with q | q | q | q | q | q <;> subst q
    · exact Heap.lt_size hz
    · exact Heap.lt_size hT
    · exact Heap.lt_size hO
    · exact Heap.lt_size e1
    · exact Heap.lt_size e2
    · exact Heap.lt_size e3
  refine { mem := List.mem_cons_self .., obj := ?_, keep := ?_, item := ?_, done := ?_, self := fun A i s Q E st h => wpAny_pyIter_zip st.1 h }
  · rintro i h ⟨hz, hT, ⟨x, y, w, hO⟩, ⟨o1, e1, _, d1⟩, ⟨o2, e2, _, d2⟩, ⟨o3, e3, _, d3⟩⟩ c hc
    rcases in6 hc with q | q | q | q | q | q <;> subst q
    · exact ⟨_, hz, fun v q => nomatch q⟩
    · exact ⟨_, hT, fun v q => nomatch q⟩
    · exact ⟨_, hO, fun v q => nomatch q⟩
    · exact ⟨o1, e1, fun v q => by rw [d1] at q; cases q⟩
    · exact ⟨o2, e2, fun v q => by rw [d2] at q; cases q⟩
    · exact ⟨o3, e3, fun v q => by rw [d3] at q; cases q⟩
  · rintro i h h' ⟨hz, hT, ⟨x, y, w, hO⟩, l1, l2, l3⟩ k
    exact ⟨k z (by simp) _ hz, k TI (by simp) _ hT, ⟨x, y, w, k TO (by simp) _ hO⟩, l1.at fun o q => k i1 (by simp) o q, l2.at fun o q => k i2 (by simp) o q, l3.at fun o q => k i3 (by simp) o q⟩
  · intro X hP hw hK hc i pins s σ H E I hf st hg
    subst hP hw hK
    obtain ⟨hz, hT, hO, l1, l2, l3⟩ := st
    have lts := size6 hz hT hO l1 l2 l3
    obtain ⟨x0, y0, w0, hO⟩ := hO
    obtain ⟨xs, ys, zs, x, y, zz0, qx, qy, qz, hx, hy, hzz⟩ := hg
    obtain ⟨its, rv, p, _⟩ := I.tuple qx
    obtain ⟨its2, rv2, p2, _⟩ := I.tuple qy
    obtain ⟨its3, rv3, p3, _⟩ := I.tuple qz
    obtain ⟨u, hu, ru⟩ := rv.get hx
    obtain ⟨u2, hu2, ru2⟩ := rv2.get hy
    obtain ⟨u3, hu3, ru3⟩ := rv3.get hzz
    have hd : X.A.in1.handled = none := I.ok.hd hc
    have D1 := Draws.tuple (prog := X.prog) (w := X.w) hd i1 a (tup_ne p l1) its.toArray
    have D2 := Draws.tuple (prog := X.prog) (w := X.w) hd i2 b (tup_ne p2 l2) its2.toArray
    have D3 := Draws.tuple (prog := X.prog) (w := X.w) hd i3 c (tup_ne p3 l3) its3.toArray
    have s1 : i < its.toArray.size := by
      have := (List.getElem?_eq_some_iff.mp hu).1
      simpa using this
    have s2 : i < its2.toArray.size := by
      have := (List.getElem?_eq_some_iff.mp hu2).1
      simpa using this
    have s3 : i < its3.toArray.size := by
      have := (List.getElem?_eq_some_iff.mp hu3).1
      simpa using this
    refine wpAny_pyNext_zipD3_item S D1 D2 D3 hz hT hO ⟨l1, p⟩ ⟨l2, p2⟩ ⟨l3, p3⟩ s1 s2 s3 fun v1 v2 v3 h' tk e1 e2 e3 z' O' st1 st2 st3 hN hsz hk => ?_
    have ev1 : u = v1 := by
      have : its[i]? = some v1 := by simpa using e1
      rw [hu] at this; exact Option.some.inj this
    have ev2 : u2 = v2 := by
      have : its2[i]? = some v2 := by simpa using e2
      rw [hu2] at this; exact Option.some.inj this
    have ev3 : u3 = v3 := by
      have : its3[i]? = some v3 := by simpa using e3
      rw [hu3] at this; exact Option.some.inj this
    subst ev1 ev2 ev3
    refine ⟨_, rfl, wpAny_letOwnedTupleGo_zip (s := { s with heap := h', toks := tk }) z' fun h2 zz sb => ?_⟩
    have zlt : z < s.heap.objs.size := lts z (by simp)
    have trip : h2.get? s.heap.objs.size = some { cls := .type "tuple", data := .seq #[u, u2, u3] } := (sb.2 _ (Nat.ne_of_gt zlt)).trans hN
    have new : ObjOk X.prog X.w (upd H s.heap.objs.size (.tup [x, y, zz0])) h2 s.heap.objs.size (.tup [x, y, zz0]) := ⟨by show 3 ≤ sizeLine; decide, [u, u2, u3], .cons ru (.cons ru2 (.cons ru3 .nil)), ⟨_, trip, rfl, _, rfl⟩⟩
    have I2 : Inv X pins σ (upd H s.heap.objs.size (.tup [x, y, zz0])) { s with heap := h2, toks := tk } :=
      I.turnedNew (t' := tk) (ch := [z, TI, TO, i1, i2, i3]) (fun c o hb q => (sb.2 c (fun e => hb (by simp [e]))).trans (keep5 hk hb q)) hf (Nat.le_refl _) new
    refine ⟨.ref s.heap.objs.size, _, I2, rfl, ⟨_, x, y, zz0, rfl, I.hok.fresh (Nat.le_refl _), rfl, fun l hl => by rw [I.tuple_inj hl qx]; exact hx, fun l hl => by rw [I.tuple_inj hl qy]; exact hy, fun l hl => by rw [I.tuple_inj hl qz]; exact hzz⟩, ⟨zz, ?_, ⟨u, u2, u3, ?_⟩, ?_, ?_, ?_⟩, fun c hc => ?_⟩
    · exact (sb.2 _ S.TIz).trans (hk _ _ S.TIz S.TITO S.TIi1 S.TIi2 S.TIi3 hT)
    · exact (sb.2 _ S.TOz).trans O'
    · exact st1.1.at fun o q => (sb.2 _ z1.symm).trans q
    · exact st2.1.at fun o q => (sb.2 _ z2.symm).trans q
    · exact st3.1.at fun o q => (sb.2 _ z3.symm).trans q
    · rw [upd_ne (Nat.ne_of_lt (lts c hc))]
      exact (hf c hc).1
  · intro X hP hw hK hc i pins s σ H E I hf st hg
    subst hP hw hK
    obtain ⟨hz, hT, ⟨x0, y0, w0, hO⟩, l1, l2, l3⟩ := st
    obtain ⟨xs, ys, zs, qx, qy, qz, le1, le2, le3, hend⟩ := hg
    obtain ⟨its, rv, p, _⟩ := I.tuple qx
    obtain ⟨its2, rv2, p2, _⟩ := I.tuple qy
    obtain ⟨its3, rv3, p3, _⟩ := I.tuple qz
    have hd : X.A.in1.handled = none := I.ok.hd hc
    have e1 := rv.length
    have e2 := rv2.length
    have e3 := rv3.length
    refine wpAny_pyNext_zipD3_end S (Draws.tuple (prog := X.prog) (w := X.w) hd i1 a (tup_ne p l1) its.toArray) (Draws.tuple (prog := X.prog) (w := X.w) hd i2 b (tup_ne p2 l2) its2.toArray) (Draws.tuple (prog := X.prog) (w := X.w) hd i3 c (tup_ne p3 l3) its3.toArray) hz hT hO ⟨l1, p⟩ ⟨l2, p2⟩ ⟨l3, p3⟩ (by simp; omega) (by simp; omega) (by simp; omega) (by simp; omega) fun h' tk hk => ?_
    exact ⟨rfl, I.turnedL (t' := tk) (ch := [z, TI, TO, i1, i2, i3]) (fun c o hb q => keep5 hk hb q) hf⟩
def iZipT3 (K : PySem.W.Frag) (ta : TA) : TI := fun σ H R => ta σ H fun vs H1 => ∃ a b c xs ys zs, vs = [.ref a, .ref b, .ref c] ∧ SqT K H1 a xs ∧ SqT K H1 b ys ∧ SqT K H1 c zs ∧ R (ItzT3 K a b c) H1
theorem pi_zipT3 {X : Cx} {e e2 e3 : Expr} {ta : TA} {p pos tpos : Pos} {elts : List Expr} {kk : Nat} (hg : Gl X "zip") (hm : X.mg "zip" = none) (ha : PA X [e, e2, e3] ta)
    (hs : starEach [e, e2, e3] X.env = (false, eval e X.env) :: starEach [e2, e3] X.env := by rfl) (hpl : (backTo pos (starEach [e2, e3] X.env)).any (·.1) = false := by rfl) :
    PI X (.Tuple elts kk tpos) (.Call (.Name "zip" p) [e, e2, e3] [] pos) (iZipT3 X.K ta) := by
  refine ⟨fun pins s σ H R I h => Call_ (ld_blt I hg hm PyProof.Rows.boot_zip (PyProof.Rows.callWith_type1 (thn (ha.run pos pins s σ H _ I h) ?_) hs hpl))⟩
  rintro us s1 ⟨vs, H1, I1, r1, a, b, c, xs, ys, zs, rfl, qx, qy, qz, q⟩
  cases r1 with | cons r rr => cases rr with | cons r' rr => cases rr with | cons r'' rr =>
  cases rr
  cases r
  cases r'
  cases r''
  obtain ⟨its, rv, p1, _⟩ := I1.tuple qx
  obtain ⟨its2, rv2, p2, _⟩ := I1.tuple qy
  obtain ⟨its3, rv3, p3, _⟩ := I1.tuple qz
  obtain ⟨o1, ho1, _⟩ := id p1
  obtain ⟨o2, ho2, _⟩ := id p2
  obtain ⟨o3, ho3, _⟩ := id p3
  have S := zip_sep3 (N := s1.heap.objs.size) (fp1 := [a]) (fp2 := [b]) (fp3 := [c]) (fun x hc => by simp at hc; rw [hc]; exact Heap.lt_size ho1) (fun x hc => by simp at hc; rw [hc]; exact Heap.lt_size ho2) (fun x hc => by simp at hc; rw [hc]; exact Heap.lt_size ho3)
  refine zip_begins3 (begins_tuple a its.toArray) (begins_tuple b its2.toArray) (begins_tuple c its3.toArray) p1 p2 p3 fun h' hz hT hO g1 g2 g3 hsz hk => wpAny_pyIter_zip hz ?_
  have I2 : Inv X pins σ H1 { s1 with heap := h' } := I1.kept (t' := s1.toks) hk
  refine ⟨_, [s1.heap.objs.size + 5, s1.heap.objs.size + 3, s1.heap.objs.size + 4, s1.heap.objs.size, s1.heap.objs.size + 1, s1.heap.objs.size + 2], _, _, H1, rfl, I2, turnT3 S, ⟨hz, hT, ⟨_, _, _, hO⟩, ⟨_, g1, rfl, rfl⟩, ⟨_, g2, rfl, rfl⟩, ⟨_, g3, rfl, rfl⟩⟩, fun c hc => ?_, q⟩
  have le : s1.heap.objs.size ≤ c := by
    rcases in6 hc with z | z | z | z | z | z <;> rw [z] <;> first | exact Nat.le_refl _ | exact Nat.le_add_right _ _
  exact I1.fpOk le (I1.hok.fresh le)
theorem kpi_zipT3 {X : Cx} (K : PySem.W.Frag) {e1 e2 e3 : Expr} {ta : TA} {p pos tpos : Pos} {elts : List Expr} {kk : Nat} (hg : Gl X "zip") (hm : X.mg "zip" = none) (ha : PA X [e1, e2, e3] ta)
    (hs : starEach [e1, e2, e3] X.env = (false, eval e1 X.env) :: starEach [e2, e3] X.env := by rfl) (hpl : (backTo pos (starEach [e2, e3] X.env)).any (·.1) = false := by rfl) (e : X.K = K := by rfl) :
    PI X (.Tuple elts kk tpos) (.Call (.Name "zip" p) [e1, e2, e3] [] pos) (iZipT3 K ta) := by subst e; exact pi_zipT3 hg hm ha hs hpl
def YTrip (xs ys zs : Nat → Option V) : Nat → Hp → V → Hp → Prop := fun i H v H' => ∃ T x y z, v = .ref T ∧ H T = none ∧ H' = upd H T (.tup [x, y, z]) ∧ xs i = some x ∧ ys i = some y ∧ zs i = some z
theorem walk_zipT3 {K : PySem.W.Frag} {a b c : Addr} {xs ys zs : List V} (e : xs.length = ys.length) (e2 : xs.length = zs.length) : Walk (ItzT3 K a b c) xs.length (fun H => SqT K H a xs ∧ SqT K H b ys ∧ SqT K H c zs) (YTrip (fun i => xs[i]?) (fun i => ys[i]?) (fun i => zs[i]?)) := by
  refine ⟨fun i _ hi q => ?_, fun _ q => ⟨xs, ys, zs, q.1, q.2.1, q.2.2, Nat.le_refl _, Nat.le_of_eq e, Nat.le_of_eq e2, .inl rfl⟩, fun i H v H' _ q y => ?_⟩
  · have h2 : i < ys.length := by omega
    have h3 : i < zs.length := by omega
    exact ⟨xs, ys, zs, xs[i], ys[i], zs[i], q.1, q.2.1, q.2.2, by simp [hi], by simp [h2], by simp [h3]⟩
  · obtain ⟨T, x, y', z, h1, h2, h3, h4, h5, h6⟩ := y
    exact ⟨T, x, y', z, h1, h2, h3, h4 xs q.1, h5 ys q.2.1, h6 zs q.2.2⟩
/-! ### zip of two tuples, held by a name -/
def zO (z TI TO : Addr) : HO := .ext fun h => IsZip h z TI TO .none
def pO (TI i1 i2 : Addr) : HO := .ext fun h => IsPair h TI (.ref i1) (.ref i2)
def nO (TO : Addr) : HO := .ext fun h => IsPair h TO .none .none
def iO (i a : Addr) : HO := .ext fun h => h.IsTupleIter i a 0
structure ZipV (n : Nat) (H0 H : Hp) (z a b : Addr) : Prop where
  ex : ∃ TI TO i1 i2, ZipApart z TI TO i1 i2 a b ∧ H z = some (zO z TI TO) ∧ H TI = some (pO TI i1 i2) ∧ H TO = some (nO TO) ∧ H i1 = some (iO i1 a) ∧ H i2 = some (iO i2 b) ∧ n ≤ z ∧ n ≤ TI ∧ n ≤ TO ∧ n ≤ i1 ∧ n ≤ i2 ∧ ∀ c ∈ [z, TI, TO, i1, i2], H0 c = none
/-- all but iterators stays -/
def KeepN (H H' : Hp) : Prop := (∀ b o, (∀ φ, o ≠ .ext φ) → H b = some o → H' b = some o) ∧ ∀ b, H b = none → H' b = none
theorem KeepN.trans {H H1 H2 : Hp} (a : KeepN H H1) (b : KeepN H1 H2) : KeepN H H2 := ⟨fun x o n e => b.1 x o n (a.1 x o n e), fun x e => b.2 x (a.2 x e)⟩
theorem keep_drop {H : Hp} {a : Addr} {φ : Heap → Prop} (h : H a = some (.ext φ)) : KeepN H (ItX.dropH H a) := by
  refine ⟨fun b o n e => ?_, fun b e => ?_⟩
  · have : b ≠ a := fun z => by
      rw [z, h] at e
      exact n φ (Option.some.inj e).symm
    rw [ItX.dropH_ne this]; exact e
  · by_cases hb : b = a
    · rw [hb, ItX.dropH_same]
    · rw [ItX.dropH_ne hb]; exact e
def tZipV (K : PySem.W.Frag) (n : Nat) (ta : TA) : TE := fun σ H Q => ta σ H fun vs H1 => ∃ a b xs ys, vs = [.ref a, .ref b] ∧ SqT K H1 a xs ∧ SqT K H1 b ys ∧ ∀ z H2, Same H1 H2 → H1 z = none → ZipV n H1 H2 z a b → Q (.ref z) H2
theorem pe_zipV {X : Cx} (K : PySem.W.Frag) {e e2 : Expr} {ta : TA} {p pos : Pos} (hg : Gl X "zip") (hm : X.mg "zip" = none) (ha : PA X [e, e2] ta)
    (hs : starEach [e, e2] X.env = (false, eval e X.env) :: starEach [e2] X.env := by rfl) (hpl : (backTo pos (starEach [e2] X.env)).any (·.1) = false := by rfl) (eK : X.K = K := by rfl) :
    PE X (.Call (.Name "zip" p) [e, e2] [] pos) (tZipV K X.s_0.heap.objs.size ta) := by
  subst eK
  refine ⟨fun pins s σ H Q I h => Call_ (ld_blt I hg hm PyProof.Rows.boot_zip (PyProof.Rows.callWith_type1 (thn (ha.run pos pins s σ H _ I h) ?_) hs hpl))⟩
  rintro us s1 ⟨vs, H1, I1, r1, a, b, xs, ys, rfl, qx, qy, q⟩
  cases r1 with | cons r rr => cases rr with | cons r' rr =>
  cases rr
  cases r
  cases r'
  obtain ⟨its, rv, p1, _⟩ := I1.tuple qx
  obtain ⟨its2, rv2, p2, _⟩ := I1.tuple qy
  obtain ⟨o1, ho1, _⟩ := id p1
  obtain ⟨o2, ho2, _⟩ := id p2
  refine RZ.call_zipT (show s1.heap.IsTuple a its.toArray from p1) (show s1.heap.IsTuple b its2.toArray from p2) fun h' hz hTI hTO h1 h2 hsz hk => ?_
  have I2 : Inv X pins σ H1 { s1 with heap := h' } := I1.kept (t' := s1.toks) hk
  have D := PySem.W.ktu_apart s1.heap.objs.size a b (Heap.lt_size ho1) (Heap.lt_size ho2)
  generalize hN : s1.heap.objs.size = N at *
  have fr : ∀ j, H1 (N + j) = none := fun j => I1.hok.fresh (by rw [hN]; exact Nat.le_add_right N j)
  have n1 : ∀ (o : HO) (j k : Nat) (G : Hp), j ≠ k → G (N + j) = none → upd G (N + k) o (N + j) = none := fun o j k G hj hg => by
    rw [upd_ne (fun z => hj (Nat.add_left_cancel z))]; exact hg
  have le : ∀ j, s1.heap.objs.size ≤ N + j := fun j => by rw [hN]; exact Nat.le_add_right N j
  have J1 := L2.Inv.take (h' := h') (t' := s1.toks) (o := zO (N + 4) (N + 2) (N + 3)) I2 (fun b ob _ e => e) (I1.fpOk (le 4) (fr 4)) ⟨hz, ⟨_, hz⟩, fun h1 h2 q k => k _ q⟩
  have J2 := L2.Inv.take (h' := h') (t' := s1.toks) (o := pO (N + 2) N (N + 1)) J1 (fun b ob _ e => e) (I1.fpOk (le 2) (n1 _ 2 4 _ (by decide) (fr 2))) ⟨hTI, ⟨_, hTI⟩, fun h1 h2 q k => k _ q⟩
  have J3 := L2.Inv.take (h' := h') (t' := s1.toks) (o := nO (N + 3)) J2 (fun b ob _ e => e) (I1.fpOk (le 3) (n1 _ 3 2 _ (by decide) (n1 _ 3 4 _ (by decide) (fr 3)))) ⟨hTO, ⟨_, hTO⟩, fun h1 h2 q k => k _ q⟩
  obtain ⟨oi1, ei1, _⟩ := id h1
  obtain ⟨oi2, ei2, _⟩ := id h2
  have J4 := L2.Inv.take (h' := h') (t' := s1.toks) (o := iO (N + 0) a) J3 (fun b ob _ e => e) (I1.fpOk (le 0) (n1 _ 0 3 _ (by decide) (n1 _ 0 2 _ (by decide) (n1 _ 0 4 _ (by decide) (fr 0))))) ⟨h1, ⟨_, ei1⟩, fun g1 g2 q k => q.at k⟩
  have J5 := L2.Inv.take (h' := h') (t' := s1.toks) (o := iO (N + 1) b) J4 (fun b ob _ e => e) (I1.fpOk (le 1) (n1 _ 1 0 _ (by decide) (n1 _ 1 3 _ (by decide) (n1 _ 1 2 _ (by decide) (n1 _ 1 4 _ (by decide) (fr 1)))))) ⟨h2, ⟨_, ei2⟩, fun g1 g2 q k => q.at k⟩
  have ad : ∀ j k : Nat, j ≠ k → N + j ≠ N + k := fun j k h z => h (Nat.add_left_cancel z)
  have sz := I1.sz
  rw [hN] at sz
  refine ⟨.ref (N + 4), _, J5, rfl, q (N + 4) _ (fun b o e => ?_) (fr 4) ⟨N + 2, N + 3, N + 0, N + 1, D, ?_, ?_, ?_, ?_, upd_same, Nat.le_trans sz (Nat.le_add_right _ _), Nat.le_trans sz (Nat.le_add_right _ _), Nat.le_trans sz (Nat.le_add_right _ _), Nat.le_trans sz (Nat.le_add_right _ _), Nat.le_trans sz (Nat.le_add_right _ _), fun c hc => ?_⟩⟩
  · have nb : ∀ j, b ≠ N + j := fun j z => by rw [z, fr j] at e; cases e
    rw [upd_ne (nb 1), upd_ne (nb 0), upd_ne (nb 3), upd_ne (nb 2), upd_ne (nb 4)]; exact e
  · rw [upd_ne (ad 4 1 (by decide)), upd_ne (ad 4 0 (by decide)), upd_ne (ad 4 3 (by decide)), upd_ne (ad 4 2 (by decide))]; exact upd_same
  · rw [upd_ne (ad 2 1 (by decide)), upd_ne (ad 2 0 (by decide)), upd_ne (ad 2 3 (by decide))]; exact upd_same
  · rw [upd_ne (ad 3 1 (by decide)), upd_ne (ad 3 0 (by decide))]; exact upd_same
  · rw [upd_ne (ad 0 1 (by decide))]; exact upd_same
  · rcases in5 hc with h | h | h | h | h
    · rw [h]; exact fr 4
    · rw [h]; exact fr 2
    · rw [h]; exact fr 3
    · rw [h]; exact fr 0
    · rw [h]; exact fr 1
def iZipV (K : PySem.W.Frag) (n k : Nat) : TI := fun σ H R => ∃ z a b H0, σ[k]? = some (some (.ref z)) ∧ ZipV n H0 H z a b ∧ ∀ H', (∀ b o, H0 b = some o → H b = some o → H' b = some o) → R (RZ.ItzT K a b) H'
theorem fp_low {X : Cx} {pins : List (Addr × Obj)} {H H' : Hp} {b : Addr} (f : FpOk X pins H b) (h : H' b = none) : FpOk X pins H' b := by
  obtain ⟨_, r⟩ := f
  exact ⟨h, r⟩
theorem pi_zipV {X : Cx} (K : PySem.W.Frag) {k : Nat} {x : Str} {p tpos : Pos} {elts : List Expr} {kk : Nat} (hN : X.N[k]? = some x) (hv : Vis X.env.scope x) (hd : (x == ("__debug__" : Str)) = false := by decide) (hcd : (x == ("__classdict__" : Str)) = false := by decide) (eK : X.K = K := by rfl) :
    PI X (.Tuple elts kk tpos) (.Name x p) (iZipV K X.s_0.heap.objs.size k) := by
  subst eK
  refine ⟨fun pins s σ H R I h => ?_⟩
  obtain ⟨z, a, b, H0, hs, ⟨TI, TO, i1, i2, D, e1, e2, e3, e4, e5, l1, l2, l3, l4, l5, fresh⟩, q⟩ := h
  refine thn ((pe_var (pos := p) (i := k) hN hv hd hcd).run pins s σ H (fun v H1 => v = .ref z ∧ H1 = H) I ⟨.ref z, hs, rfl, rfl⟩) fun u s1 ⟨v, H1, I1, r1, ev, eH⟩ => ?_
  subst ev
  rw [eH] at I1
  cases r1
  have o1 : IsZip s1.heap z TI TO .none := (I1.hok z _ e1).1
  have o2 : IsPair s1.heap TI (.ref i1) (.ref i2) := (I1.hok TI _ e2).1
  have o3 : IsPair s1.heap TO .none .none := (I1.hok TO _ e3).1
  have o4 : s1.heap.IsTupleIter i1 a 0 := (I1.hok i1 _ e4).1
  have o5 : s1.heap.IsTupleIter i2 b 0 := (I1.hok i2 _ e5).1
  refine wpAny_pyIter_zip o1 ?_
  have J1 := ItX.inv_drop I1 e1
  have k1 := keep_drop e1
  have f1 := ItX.inv_fp I1 e1 l1
  have e2' : ItX.dropH H z TI = some (pO TI i1 i2) := by rw [ItX.dropH_ne D.TIz]; exact e2
  have J2 := ItX.inv_drop J1 e2'
  have k2 := keep_drop e2'
  have f2 := ItX.inv_fp J1 e2' l2
  have e3' : ItX.dropH (ItX.dropH H z) TI TO = some (nO TO) := by rw [ItX.dropH_ne D.TITO.symm, ItX.dropH_ne D.TOz]; exact e3
  have J3 := ItX.inv_drop J2 e3'
  have k3 := keep_drop e3'
  have f3 := ItX.inv_fp J2 e3' l3
  have e4' : ItX.dropH (ItX.dropH (ItX.dropH H z) TI) TO i1 = some (iO i1 a) := by rw [ItX.dropH_ne D.TOi1.symm, ItX.dropH_ne D.TIi1.symm, ItX.dropH_ne D.i1z]; exact e4
  have J4 := ItX.inv_drop J3 e4'
  have k4 := keep_drop e4'
  have f4 := ItX.inv_fp J3 e4' l4
  have e5' : ItX.dropH (ItX.dropH (ItX.dropH (ItX.dropH H z) TI) TO) i1 i2 = some (iO i2 b) := by rw [ItX.dropH_ne D.i12.symm, ItX.dropH_ne D.TOi2.symm, ItX.dropH_ne D.TIi2.symm, ItX.dropH_ne D.i2z]; exact e5
  have J5 := ItX.inv_drop J4 e5'
  have k5 := keep_drop e5'
  have f5 := ItX.inv_fp J4 e5' l5
  have kk5 := (((k1.trans k2).trans k3).trans k4).trans k5
  refine ⟨z, [z, TI, TO, i1, i2], _, _, _, rfl, J5, RZ.turn_zipT D, ⟨o1, o2, ⟨_, _, o3⟩, o4, o5⟩, fun c hc => ?_, q _ fun c o h0 hc => ?_⟩
  · rcases in5 hc with h | h | h | h | h <;> subst h
    · exact fp_low f1 (k5.2 _ (k4.2 _ (k3.2 _ (k2.2 _ f1.1))))
    · exact fp_low f2 (k5.2 _ (k4.2 _ (k3.2 _ f2.1)))
    · exact fp_low f3 (k5.2 _ (k4.2 _ f3.1))
    · exact fp_low f4 (k5.2 _ f4.1)
    · exact f5
  have nn : ∀ d ∈ [z, TI, TO, i1, i2], c ≠ d := fun d hd q => by
    rw [q, fresh d hd] at h0; cases h0
  rw [ItX.dropH_ne (nn i2 (by simp)), ItX.dropH_ne (nn i1 (by simp)), ItX.dropH_ne (nn TO (by simp)), ItX.dropH_ne (nn TI (by simp)), ItX.dropH_ne (nn z (by simp))]
  exact hc
/-! ### zip of a tuple and a list -/
def ItzN (K : PySem.W.Frag) (a b : Addr) : It where
  go := fun i H => ∃ xs ys x y, SqT K H a xs ∧ SqL K H b ys ∧ xs[i]? = some x ∧ ys[i]? = some y
  yld := fun i H v H' => ∃ T x y, v = .ref T ∧ H T = none ∧ H' = upd H T (.tup [x, y]) ∧ (∀ l, SqT K H a l → l[i]? = some x) ∧ ∀ l, SqL K H b l → l[i]? = some y
  stop := fun i H => ∃ xs ys : List V, SqT K H a xs ∧ SqL K H b ys ∧ i ≤ xs.length ∧ i ≤ ys.length ∧ (i = xs.length ∨ i = ys.length)
theorem turnN {P : Program} {w : World} {K : PySem.W.Frag} {elts : List Expr} {kk : Nat} {tpos : Pos} {a b z TI TO i1 i2 : Addr} (S : ZipSep2 z TI TO i1 i2 [i1, a] [i2, b]) :
    Turn P w K (.Tuple elts kk tpos) (ItzN K a b) [z, TI, TO, i1, i2] z (fun i h => IsZip h z TI TO .none ∧ IsTupOf2 h TI (.ref i1) (.ref i2) ∧ (∃ x y, IsTupOf2 h TO x y) ∧ h.IsTupleIter i1 a i ∧ h.IsListIter i2 b i) := by
  have n12 : i1 ≠ i2 := fun q => S.sep1_2 (by rw [q]; exact List.mem_cons_self ..)
  have z1 := S.zi1
  have z2 := S.zi2
  have t1 := S.Ti1
  have t2 := S.Ti2
  have keep4 : ∀ {h h' : Heap} {c : Addr} {o : Obj}, (∀ c o, c ≠ z → c ≠ TO → c ≠ i1 → c ≠ i2 → h.get? c = some o → h'.get? c = some o) → c ∉ [z, TI, TO, i1, i2] → h.get? c = some o → h'.get? c = some o :=
    fun k hc q => k _ _ (fun e => hc (by simp [e])) (fun e => hc (by simp [e])) (fun e => hc (by simp [e])) (fun e => hc (by simp [e])) q
  have size5 : ∀ {h : Heap} {i : Nat}, IsZip h z TI TO .none → IsTupOf2 h TI (.ref i1) (.ref i2) → (∃ x y, IsTupOf2 h TO x y) → h.IsTupleIter i1 a i → h.IsListIter i2 b i → ∀ c ∈ [z, TI, TO, i1, i2], c < h.objs.size := by
    intro h i hz hT ⟨x, y, hO⟩ ⟨o1, e1, _⟩ ⟨o2, e2, _⟩ c hc
    rcases in5 hc with q | q | q | q | q <;> subst q
    · exact Heap.lt_size hz
    · exact Heap.lt_size hT
    · exact Heap.lt_size hO
    · exact Heap.lt_size e1
    · exact Heap.lt_size e2
  refine { mem := List.mem_cons_self .., obj := ?_, keep := ?_, item := ?_, done := ?_, self := fun A i s Q E st h => wpAny_pyIter_zip st.1 h }
  · rintro i h ⟨hz, hT, ⟨x, y, hO⟩, ⟨o1, e1, _, d1⟩, ⟨o2, e2, _, d2⟩⟩ c hc
    rcases in5 hc with q | q | q | q | q <;> subst q
    · exact ⟨_, hz, fun v q => nomatch q⟩
    · exact ⟨_, hT, fun v q => nomatch q⟩
    · exact ⟨_, hO, fun v q => nomatch q⟩
    · exact ⟨o1, e1, fun v q => by rw [d1] at q; cases q⟩
    · exact ⟨o2, e2, fun v q => by rw [d2] at q; cases q⟩
  · rintro i h h' ⟨hz, hT, ⟨x, y, hO⟩, l1, l2⟩ k
    exact ⟨k z (by simp) _ hz, k TI (by simp) _ hT, ⟨x, y, k TO (by simp) _ hO⟩, l1.at fun o q => k i1 (by simp) o q, l2.at fun o q => k i2 (by simp) o q⟩
  · intro X hP hw hK hc i pins s σ H E I hf st hg
    subst hP hw hK
    obtain ⟨hz, hT, hO, l1, l2⟩ := st
    have lts := size5 hz hT hO l1 l2
    obtain ⟨x0, y0, hO⟩ := hO
    obtain ⟨xs, ys, x, y, qx, qy, hx, hy⟩ := hg
    obtain ⟨its, rv, p, _⟩ := I.tuple qx
    obtain ⟨its2, rv2, p2, _⟩ := I.list qy
    obtain ⟨u, hu, ru⟩ := rv.get hx
    obtain ⟨u2, hu2, ru2⟩ := rv2.get hy
    have a1 : a ≠ i1 := fun q => by
      obtain ⟨o, ho, c, _⟩ := l1
      obtain ⟨o', ho', c', _⟩ := p
      rw [← q, ho'] at ho; cases ho
      rw [c'] at c; simp at c
    have b2 : b ≠ i2 := fun q => by
      obtain ⟨o, ho, c, _⟩ := l2
      obtain ⟨o', ho', c', _⟩ := p2.isList
      rw [← q, ho'] at ho; cases ho
      rw [c'] at c; simp at c
    have hd : X.A.in1.handled = none := I.ok.hd hc
    have D1 := Draws.tuple (prog := X.prog) (w := X.w) hd i1 a a1 its.toArray
    have D2 := Draws.list (prog := X.prog) (w := X.w) hd i2 b b2 its2.toArray
    have s1 : i < its.toArray.size := by
      have := (List.getElem?_eq_some_iff.mp hu).1
      simpa using this
    have s2 : i < its2.toArray.size := by
      have := (List.getElem?_eq_some_iff.mp hu2).1
      simpa using this
    refine wpAny_pyNext_zipD2_item S D1 D2 hz hT hO ⟨l1, p⟩ ⟨l2, p2.isList⟩ s1 s2 fun v1 v2 h' tk e1 e2 z' O' st1 st2 hN hsz hk => ?_
    have ev1 : u = v1 := by
      have : its[i]? = some v1 := by simpa using e1
      rw [hu] at this; exact Option.some.inj this
    have ev2 : u2 = v2 := by
      have : its2[i]? = some v2 := by simpa using e2
      rw [hu2] at this; exact Option.some.inj this
    subst ev1 ev2
    refine ⟨_, rfl, wpAny_letOwnedTupleGo_zip (s := { s with heap := h', toks := tk }) z' fun h2 zz sb => ?_⟩
    have zlt : z < s.heap.objs.size := lts z (by simp)
    have pair : h2.get? s.heap.objs.size = some { cls := .type "tuple", data := .seq #[u, u2] } := (sb.2 _ (Nat.ne_of_gt zlt)).trans hN
    have new : ObjOk X.prog X.w (upd H s.heap.objs.size (.tup [x, y])) h2 s.heap.objs.size (.tup [x, y]) := ⟨by show 2 ≤ sizeLine; decide, [u, u2], .cons ru (.cons ru2 .nil), ⟨_, pair, rfl, _, rfl⟩⟩
    have I2 : Inv X pins σ (upd H s.heap.objs.size (.tup [x, y])) { s with heap := h2, toks := tk } :=
      I.turnedNew (t' := tk) (ch := [z, TI, TO, i1, i2]) (fun c o hb q => (sb.2 c (fun e => hb (by simp [e]))).trans (keep4 hk hb q)) hf (Nat.le_refl _) new
    refine ⟨.ref s.heap.objs.size, _, I2, rfl, ⟨_, x, y, rfl, I.hok.fresh (Nat.le_refl _), rfl, fun l hl => by rw [I.tuple_inj hl qx]; exact hx, fun l hl => by rw [I.list_inj hl qy]; exact hy⟩, ⟨zz, ?_, ⟨u, u2, ?_⟩, ?_, ?_⟩, fun c hc => ?_⟩
    · exact (sb.2 _ S.TIz).trans (hk _ _ S.TIz S.TITO S.TIi1 S.TIi2 hT)
    · exact (sb.2 _ S.TOz).trans O'
    · exact st1.1.at fun o q => (sb.2 _ z1.symm).trans q
    · exact st2.1.at fun o q => (sb.2 _ z2.symm).trans q
    · rw [upd_ne (Nat.ne_of_lt (lts c hc))]
      exact (hf c hc).1
  · intro X hP hw hK hc i pins s σ H E I hf st hg
    subst hP hw hK
    obtain ⟨hz, hT, ⟨x0, y0, hO⟩, l1, l2⟩ := st
    obtain ⟨xs, ys, qx, qy, le1, le2, hend⟩ := hg
    obtain ⟨its, rv, p, _⟩ := I.tuple qx
    obtain ⟨its2, rv2, p2, _⟩ := I.list qy
    have a1 : a ≠ i1 := fun q => by
      obtain ⟨o, ho, c, _⟩ := l1
      obtain ⟨o', ho', c', _⟩ := p
      rw [← q, ho'] at ho; cases ho
      rw [c'] at c; simp at c
    have b2 : b ≠ i2 := fun q => by
      obtain ⟨o, ho, c, _⟩ := l2
      obtain ⟨o', ho', c', _⟩ := p2.isList
      rw [← q, ho'] at ho; cases ho
      rw [c'] at c; simp at c
    have hd : X.A.in1.handled = none := I.ok.hd hc
    have e1 := rv.length
    have e2 := rv2.length
    refine wpAny_pyNext_zipD2_end S (Draws.tuple (prog := X.prog) (w := X.w) hd i1 a a1 its.toArray) (Draws.list (prog := X.prog) (w := X.w) hd i2 b b2 its2.toArray) hz hT hO ⟨l1, p⟩ ⟨l2, p2.isList⟩ (by simp; omega) (by simp; omega) (by simp; omega) fun h' tk hk => ?_
    exact ⟨rfl, I.turnedL (t' := tk) (ch := [z, TI, TO, i1, i2]) (fun c o hb q => keep4 hk hb q) hf⟩
def iZipN (K : PySem.W.Frag) (ta : TA) : TI := fun σ H R => ta σ H fun vs H1 => ∃ a b xs ys, vs = [.ref a, .ref b] ∧ SqT K H1 a xs ∧ SqL K H1 b ys ∧ R (ItzN K a b) H1
theorem pi_zipN {X : Cx} {e e2 : Expr} {ta : TA} {p pos tpos : Pos} {elts : List Expr} {kk : Nat} (hg : Gl X "zip") (hm : X.mg "zip" = none) (ha : PA X [e, e2] ta)
    (hs : starEach [e, e2] X.env = (false, eval e X.env) :: starEach [e2] X.env := by rfl) (hpl : (backTo pos (starEach [e2] X.env)).any (·.1) = false := by rfl) :
    PI X (.Tuple elts kk tpos) (.Call (.Name "zip" p) [e, e2] [] pos) (iZipN X.K ta) := by
  refine ⟨fun pins s σ H R I h => Call_ (ld_blt I hg hm PyProof.Rows.boot_zip (PyProof.Rows.callWith_type1 (thn (ha.run pos pins s σ H _ I h) ?_) hs hpl))⟩
  rintro us s1 ⟨vs, H1, I1, r1, a, b, xs, ys, rfl, qx, qy, q⟩
  cases r1 with | cons r rr => cases rr with | cons r' rr =>
  cases rr
  cases r
  cases r'
  obtain ⟨its, rv, p1, _⟩ := I1.tuple qx
  obtain ⟨its2, rv2, p2, _⟩ := I1.list qy
  obtain ⟨o1, ho1, _⟩ := id p1
  have lb : b < s1.heap.objs.size := p2.lt
  have la : a < s1.heap.objs.size := Heap.lt_size ho1
  have S := zip_sep2 (N := s1.heap.objs.size) (fp1 := [a]) (fp2 := [b]) (fun c hc => by simp at hc; rw [hc]; exact la) (fun c hc => by simp at hc; rw [hc]; exact lb)
  refine zip_begins2 (begins_tuple a its.toArray) (begins_list b its2.toArray) p1 p2.isList fun h' hz hT hO g1 g2 hsz hk => wpAny_pyIter_zip hz ?_
  have I2 : Inv X pins σ H1 { s1 with heap := h' } := I1.kept (t' := s1.toks) hk
  refine ⟨_, [s1.heap.objs.size + 4, s1.heap.objs.size + 2, s1.heap.objs.size + 3, s1.heap.objs.size, s1.heap.objs.size + 1], _, _, H1, rfl, I2, turnN S, ⟨hz, hT, ⟨_, _, hO⟩, ⟨_, g1, rfl, rfl⟩, ⟨_, g2, rfl, rfl⟩⟩, fun c hc => ?_, q⟩
  have le : s1.heap.objs.size ≤ c := by
    rcases in5 hc with z | z | z | z | z <;> rw [z] <;> first | exact Nat.le_refl _ | exact Nat.le_add_right _ _
  exact I1.fpOk le (I1.hok.fresh le)
theorem walk_zipN {K : PySem.W.Frag} {a b : Addr} {xs ys : List V} (e : xs.length = ys.length) : Walk (ItzN K a b) xs.length (fun H => SqT K H a xs ∧ SqL K H b ys) (YPair (fun i => xs[i]?) (fun i => ys[i]?)) := by
  refine ⟨fun i _ hi q => ?_, fun _ q => ⟨xs, ys, q.1, q.2, Nat.le_refl _, Nat.le_of_eq e, .inl rfl⟩, fun i H v H' _ q y => ?_⟩
  · have h2 : i < ys.length := by omega
    exact ⟨xs, ys, xs[i], ys[i], q.1, q.2, by simp [hi], by simp [h2]⟩
  · obtain ⟨T, x, z, h1, h2, h3, h4, h5⟩ := y
    exact ⟨T, x, z, h1, h2, h3, h4 xs q.1, h5 ys q.2⟩
theorem kpi_zipN {X : Cx} (K : PySem.W.Frag) {e1 e2 : Expr} {ta : TA} {p pos tpos : Pos} {elts : List Expr} {kk : Nat} (hg : Gl X "zip") (hm : X.mg "zip" = none) (ha : PA X [e1, e2] ta)
    (hs : starEach [e1, e2] X.env = (false, eval e1 X.env) :: starEach [e2] X.env := by rfl) (hpl : (backTo pos (starEach [e2] X.env)).any (·.1) = false := by rfl) (e : X.K = K := by rfl) :
    PI X (.Tuple elts kk tpos) (.Call (.Name "zip" p) [e1, e2] [] pos) (iZipN K ta) := by subst e; exact pi_zipN hg hm ha hs hpl
end Ly

set_option Elab.async false
set_option linter.all false
set_option maxRecDepth 100000
set_option exponentiation.threshold 20000
set_option pp.deepTerms false
set_option pp.deepTerms.threshold 8
namespace K63
open PySem PySem.Spec PyProof.Rows L2 Ly Mt
def topS (i : Nat) : Stmt := PySem.Challenge.pw_sameontrees_k14_forms_judged.main.body.getD i (.Pass ⟨0, 0, 0, 0⟩)
def lows : Str := "abcdefghijklmnopqrstuvwxyz"
def highs : Str := "ABCDEFGHIJKLMNOPQRSTUVWXYZ"
def digs : Str := "0123456789"
/-- what the module's names hold -/
structure Tx (K : PySem.W.Frag) (mg : Str → Option Value) : Prop where
  m_isinstance : mg "isinstance" = none
  m_len : mg "len" = none
  m_int : mg "int" = none
  m_bool : mg "bool" = none
  m_tuple : mg "tuple" = none
  m_str : mg "str" = none
  m_list : mg "list" = none
  m_abs : mg "abs" = none
  m_all : mg "all" = none
  m_zip : mg "zip" = none
  m_range : mg "range" = none
  m_enumerate : mg "enumerate" = none
  m_sum : mg "sum" = none
  m_set : mg "set" = none
  m_sorted : mg "sorted" = none
  m_min : mg "min" = none
  m_max : mg "max" = none
  m_repr : mg "repr" = none
  g_gcd : mg "gcd" = some (.builtin "math.gcd")
  g_LONGEST : ∃ u, mg "LONGEST" = some u ∧ L2.RelV (.int 10) u
  g_NUMBER : ∃ u, mg "NUMBER" = some u ∧ L2.RelV (.int (-1)) u
  g_MOST_DIM : ∃ u, mg "MOST_DIM" = some u ∧ L2.RelV (.int 16) u
  g_MOST_DIMS : ∃ u, mg "MOST_DIMS" = some u ∧ L2.RelV (.int 32) u
  g_MOST_TERMS : ∃ u, mg "MOST_TERMS" = some u ∧ L2.RelV (.int 4000) u
  g_MOST_READS : ∃ u, mg "MOST_READS" = some u ∧ L2.RelV (.int 60) u
  g_LOW : ∃ u, mg "LOW" = some u ∧ L2.RelV (.str lows) u
  g_HIGH : ∃ u, mg "HIGH" = some u ∧ L2.RelV (.str highs) u
  g_DIGITS : ∃ u, mg "DIGITS" = some u ∧ L2.RelV (.str digs) u
  zero : ∃ a, mg "ZERO" = some (.ref a) ∧ ∀ H, ITup K H a [.int 0, .int 1]
  kws : ∃ a, mg "KEYWORDS" = some (.ref a) ∧ ∀ H, ITup K H a [.str "fun", .str "kind", .str "number"]
theorem hu10 {A : Around} {k : Nat} (hr : Room k A) : A.units + 10 < cLine := by have := hr.units; omega
def jInt : PyData → Bool
  | .int _ => true
  | _ => false
theorem jInt_as : ∀ d, jInt d = (jIntB d && !jBool d)
  | .none => rfl
  | .bool _ => rfl
  | .int _ => rfl
  | .str _ => rfl
  | .tuple _ => rfl
  | .list _ => rfl
  | .dict _ => rfl
def jPair : PyData → Bool
  | .tuple ds => decide (ds.length = 2)
  | _ => false
def jRatio : PyData → Bool
  | .tuple [.int t, .int b] => decide (1 ≤ b) && decide (Nat.gcd t.natAbs b.natAbs = 1)
  | _ => false
section
variable {P : Program} {w : World} {K : PySem.W.Frag} {mg : Str → Option Value} {base : Heap}

def sp_is_int (K : PySem.W.Frag) : Sp := fun vs H Q _ => ∃ v d, vs = [v] ∧ Dp K H v d ∧ Q (.bl (jInt d)) H

def sp_is_pair (K : PySem.W.Frag) : Sp := fun vs H Q _ => ∃ v d, vs = [v] ∧ Dp K H v d ∧ Q (.bl (jPair d)) H

def sp_is_ratio (K : PySem.W.Frag) : Sp := fun vs H Q _ => ∃ v d, vs = [v] ∧ Dp K H v d ∧ Q (.bl (jRatio d)) H
def sp_within (K : PySem.W.Frag) : Sp := fun vs H Q _ => ∃ i lo hi, vs = [.int i, .int lo, .int hi] ∧ lo ≤ i ∧ i ≤ hi ∧ Q (.bl true) H

def sp_is_row (K : PySem.W.Frag) : Sp := fun vs H Q _ => ∃ a xs lo hi, vs = [.ref a, .int lo, .int hi] ∧ ITup K H a xs ∧ lo ≤ (xs.length : Int) ∧ (xs.length : Int) ≤ hi ∧ Q (.bl true) H

/-- a name, by its signs -/
def lowC (c : Nat) : Bool := decide (c ∈ lows.cps.toList)
def highC (c : Nat) : Bool := decide (c ∈ highs.cps.toList)
def digC (c : Nat) : Bool := decide (c ∈ digs.cps.toList)
structure NameOk (z : Str) : Prop where
  len : 1 ≤ z.length ∧ z.length ≤ 10
  kw : z ≠ "fun" ∧ z ≠ "kind" ∧ z ≠ "number"
  head : ∃ c, z.cps[0]? = some c ∧ digC c = false
  signs : ∀ c ∈ z.cps.toList, (lowC c || highC c || digC c) = true
def sp_is_name : Sp := fun vs H Q _ => ∃ z, vs = [.str z] ∧ NameOk z ∧ ∀ H', Same H H' → Q (.bl true) H'
def sp_is_low : Sp := fun vs H Q _ => ∃ z, vs = [.str z] ∧ NameOk z ∧ (∃ c, z.cps[0]? = some c ∧ lowC c = true) ∧ ∀ H', Same H H' → Q (.bl true) H'
def sp_is_high : Sp := fun vs H Q _ => ∃ z, vs = [.str z] ∧ NameOk z ∧ (∃ c, z.cps[0]? = some c ∧ highC c = true) ∧ ∀ H', Same H H' → Q (.bl true) H'

def sp_unlike (K : PySem.W.Frag) : Sp := fun vs H Q _ => ∃ (a : Addr) (ys : List Str), vs = [.ref a] ∧ H a = some (.lst (ys.map V.str)) ∧ ys.Nodup ∧ ys.length ≤ 1000 ∧ Q (.bl true) H
end
end K63

set_option Elab.async false
set_option linter.all false
set_option maxRecDepth 100000
set_option exponentiation.threshold 20000
set_option pp.deepTerms false
set_option pp.deepTerms.threshold 8
namespace K63
open PySem PySem.Spec PyProof.Rows L2 Ly Mt
/-! ### kinds as data -/
abbrev Mk := Str × List Str
abbrev Kd := Str × List Mk
def sD (xs : List Str) : PyData := .tuple (xs.map .str)
def mkD (m : Mk) : PyData := .tuple [.str m.1, sD m.2]
def kdD (k : Kd) : PyData := .tuple [.str k.1, .tuple (k.2.map mkD)]
def ksD (ks : List Kd) : PyData := .tuple (ks.map kdD)
def High (z : Str) : Prop := NameOk z ∧ ∃ c, z.cps[0]? = some c ∧ highC c = true
def allMk (ks : List Kd) : List Mk := ks.flatMap (·.2)
structure KindsOk (ks : List Kd) : Prop where
  few : 1 ≤ ks.length ∧ ks.length ≤ 6
  nm : ∀ k ∈ ks, High k.1
  mks : ∀ k ∈ ks, 1 ≤ k.2.length ∧ k.2.length ≤ 6
  mkk : ∀ k ∈ ks, ∀ m ∈ k.2, High m.1 ∧ m.2.length ≤ 4
  nd : (ks.map (·.1)).Nodup
  ndm : ((allMk ks).map (·.1)).Nodup
  flds : ∀ k ∈ ks, ∀ m ∈ k.2, ∀ f ∈ m.2, f = "number" ∨ f ∈ ks.map (·.1)
theorem im_pair {K : PySem.W.Frag} {H : Hp} {v : V} {d e : PyData} (h : Im K H v (.tuple [d, e])) : ∃ a x y, v = .ref a ∧ ITup K H a [x, y] ∧ Im K H x d ∧ Im K H y e := by
  obtain ⟨a, xs, rfl, ha, hx⟩ := h.tuple_inv
  obtain ⟨x, r, rfl, i1, hr⟩ := hx.cons_inv
  obtain ⟨y, r, rfl, i2, hr⟩ := hr.cons_inv
  obtain rfl := hr.nil_inv
  exact ⟨a, x, y, rfl, ha, i1, i2⟩
theorem im_trip {K : PySem.W.Frag} {H : Hp} {v : V} {d e f : PyData} (h : Im K H v (.tuple [d, e, f])) : ∃ a x y z, v = .ref a ∧ ITup K H a [x, y, z] ∧ Im K H x d ∧ Im K H y e ∧ Im K H z f := by
  obtain ⟨a, xs, rfl, ha, hx⟩ := h.tuple_inv
  obtain ⟨x, r, rfl, i1, hr⟩ := hx.cons_inv
  obtain ⟨y, r, rfl, i2, hr⟩ := hr.cons_inv
  obtain ⟨z, r, rfl, i3, hr⟩ := hr.cons_inv
  obtain rfl := hr.nil_inv
  exact ⟨a, x, y, z, rfl, ha, i1, i2, i3⟩
theorem im_quad {K : PySem.W.Frag} {H : Hp} {v : V} {d e f g : PyData} (h : Im K H v (.tuple [d, e, f, g])) : ∃ a x y z w, v = .ref a ∧ ITup K H a [x, y, z, w] ∧ Im K H x d ∧ Im K H y e ∧ Im K H z f ∧ Im K H w g := by
  obtain ⟨a, xs, rfl, ha, hx⟩ := h.tuple_inv
  obtain ⟨x, r, rfl, i1, hr⟩ := hx.cons_inv
  obtain ⟨y, r, rfl, i2, hr⟩ := hr.cons_inv
  obtain ⟨z, r, rfl, i3, hr⟩ := hr.cons_inv
  obtain ⟨w, r, rfl, i4, hr⟩ := hr.cons_inv
  obtain rfl := hr.nil_inv
  exact ⟨a, x, y, z, w, rfl, ha, i1, i2, i3, i4⟩
theorem im_strs {K : PySem.W.Frag} {H : Hp} : ∀ {xs : List V} {ys : List Str}, ImAll K H xs (ys.map .str) → xs = ys.map V.str
  | _, [], h => by obtain rfl := h.nil_inv; rfl
  | _, y :: ys, h => by
    obtain ⟨x, r, rfl, i1, hr⟩ := h.cons_inv
    rw [i1.str_inv, im_strs hr]; rfl
theorem strs_im {K : PySem.W.Frag} {H : Hp} : ∀ (ys : List Str), ImAll K H (ys.map V.str) (ys.map .str)
  | [] => .nil
  | y :: ys => .cons (.str y) (strs_im ys)
theorem eqs (x y : Str) : eqV (V.str x) (V.str y) = decide (x = y) := by
  by_cases h : x = y
  · subst h; simp [eqV]
  · simp [eqV, h]
theorem inV_strs (z : Str) : ∀ ys : List Str, inV (V.str z) (ys.map V.str) = decide (z ∈ ys)
  | [] => rfl
  | y :: ys => by
    have ih := inV_strs z ys
    unfold inV at ih ⊢
    rw [List.map_cons, List.any_cons, ih, eqs]
    by_cases h : y = z
    · subst h; simp
    · have h2 : ¬ z = y := fun e => h e.symm
      simp [h, h2]
theorem flat_strs' : ∀ ys : List Str, (ys.map V.str).all flatV = true
  | [] => rfl
  | y :: ys => by rw [List.map_cons, List.all_cons, flat_strs' ys]; rfl
theorem dec_str (x y : Str) : decide (V.str x = V.str y) = decide (x = y) := by
  by_cases h : x = y
  · rw [decide_eq_true h, decide_eq_true (by rw [h])]
  · rw [decide_eq_false h, decide_eq_false (fun z => h (V.str.inj z))]
theorem allMk_len : ∀ {l : List Kd}, (∀ k ∈ l, k.2.length ≤ 6) → (allMk l).length ≤ 6 * l.length
  | [], _ => Nat.le_refl _
  | k :: l, h => by
    have h1 := h k (List.mem_cons_self ..)
    have h2 := allMk_len (l := l) fun x hx => h x (List.mem_cons_of_mem _ hx)
    unfold allMk at h2 ⊢
    rw [List.flatMap_cons, List.length_append, List.length_cons]
    omega
/-- all but D stays -/
def Bar' (D : Addr) (H H' : Hp) : Prop := ∀ b o, b ≠ D → H b = some o → H' b = some o
section
variable {P : Program} {w : World} {K : PySem.W.Frag} {mg : Str → Option Value} {base : Heap}
def sp_is_kinds (K : PySem.W.Frag) : Sp := fun vs H Q _ => ∃ v ks, vs = [v] ∧ Im K H v (ksD ks) ∧ KindsOk ks ∧ ∀ H', Same H H' → Q (.bl true) H'
end
end K63

set_option Elab.async false
set_option linter.all false
set_option maxRecDepth 100000
set_option exponentiation.threshold 20000
set_option pp.deepTerms false
set_option pp.deepTerms.threshold 8
namespace K63
open PySem PySem.Spec PyProof.Rows L2 Ly Mt
/-! ### the table of makers -/
def noS : Str := ""
/-- the place of a kind's name, -1 where there is none -/
def placeOf (ns : List Str) (f : Str) : Int := if f ∈ ns then (ns.idxOf f : Int) else -1
/-- a maker's row: its name, kind, place, fields -/
abbrev Row := Str × Nat × Nat × List Int
def rowD (r : Row) : PyData := .tuple [.int r.2.1, .int r.2.2.1, .tuple (r.2.2.2.map .int)]
def mkRow (ns : List Str) (i j : Nat) (m : Mk) : Row := (m.1, i, j, m.2.map (placeOf ns))
def kindRows (ns : List Str) (i : Nat) (k : Kd) : List Row := (List.range k.2.length).map fun j => mkRow ns i j (k.2.getD j (noS, []))
def rowsOf (ks : List Kd) (n : Nat) : List Row := (List.range n).flatMap fun i => kindRows (ks.map (·.1)) i (ks.getD i (noS, []))
/-- at d stands the dict of these rows -/
structure TableAt (K : PySem.W.Frag) (H : Hp) (d : Addr) (rs : List Row) : Prop where
  ex : ∃ kvs : List (Key × V), H d = some (.dK kvs) ∧ kvs.map (·.1) = rs.map (fun r => Sum.inr r.1) ∧ ImAll K H (kvs.map (·.2)) (rs.map rowD)
theorem TableAt.same {K : PySem.W.Frag} {H H' : Hp} {d : Addr} {rs : List Row} (h : TableAt K H d rs) (s : Same H H') : TableAt K H' d rs := by
  obtain ⟨kvs, e, h1, h2⟩ := h
  exact ⟨kvs, s _ _ e, h1, ImAll.mono (tk_same s) _ h2⟩
theorem tk_dK {H : Hp} {p : Addr} {o : HO} {xs : List (Key × V)} (h : H p = some (.dK xs)) : TK H (upd H p o) := fun b ys e => by
  rw [upd_ne (fun z => by rw [z, h] at e; cases e)]; exact e
theorem valV_none {kvs : List (Key × V)} {k : Key} (h : k ∉ kvs.map (·.1)) : valV kvs k = none := by
  induction kvs with
  | nil => rfl
  | cons p r ih =>
    rw [List.map_cons, List.mem_cons] at h
    rw [valV_neg (fun e => h (.inl e.symm))]
    exact ih fun z => h (.inr z)
theorem valV_at {K : PySem.W.Frag} {H : Hp} : ∀ {kvs : List (Key × V)} {rs : List Row} {i : Nat} {r : Row}, kvs.map (·.1) = rs.map (fun r => Sum.inr r.1) → (rs.map (·.1)).Nodup → ImAll K H (kvs.map (·.2)) (rs.map rowD) → rs[i]? = some r → ∃ v, valV kvs (Sum.inr r.1) = some v ∧ Im K H v (rowD r)
  | [], [], i, r, _, _, _, h => by simp at h
  | p :: kvs, q :: rs, 0, r, h1, nd, im, h => by
    obtain rfl : q = r := by simpa using h
    rw [List.map_cons, List.map_cons] at h1
    injection h1 with e1 e2
    obtain ⟨v, vs, e3, i1, _⟩ := im.cons_inv
    injection e3 with e4 e5
    exact ⟨p.2, valV_pos e1, by have e5 : p.2 = v := e4; rw [e5]; exact i1⟩
  | p :: kvs, q :: rs, i + 1, r, h1, nd, im, h => by
    have hr : rs[i]? = some r := by simpa using h
    rw [List.map_cons, List.map_cons] at h1
    injection h1 with e1 e2
    obtain ⟨v, vs, e3, i1, ir⟩ := im.cons_inv
    injection e3 with e4 e5
    rw [List.map_cons, List.nodup_cons] at nd
    rw [← e5] at ir
    obtain ⟨u, h3, h4⟩ := valV_at e2 nd.2 ir hr
    refine ⟨u, ?_, h4⟩
    rw [valV_neg (fun z => nd.1 ?_)]
    · exact h3
    · rw [e1] at z
      have : q.1 = r.1 := Sum.inr.inj z
      rw [this]
      exact List.mem_map.mpr ⟨r, List.mem_of_getElem? hr, rfl⟩
  | [], _ :: _, _, _, h1, _, _, _ => by simp at h1
  | _ :: _, [], _, _, h1, _, _, _ => by simp at h1
theorem TableAt.get {K : PySem.W.Frag} {H : Hp} {d : Addr} {rs : List Row} (h : TableAt K H d rs) (nd : (rs.map (·.1)).Nodup) {i : Nat} {r : Row} (e : rs[i]? = some r) : ∃ kvs v, H d = some (.dK kvs) ∧ valV kvs (Sum.inr r.1) = some v ∧ Im K H v (rowD r) := by
  obtain ⟨kvs, e0, h1, h2⟩ := h
  obtain ⟨v, h3, h4⟩ := valV_at h1 nd h2 e
  exact ⟨kvs, v, e0, h3, h4⟩
/-! ### the places of the kinds -/
def placesV (ns : List Str) (n : Nat) : List (Key × V) := (List.range n).map fun i => (Sum.inr (ns.getD i noS), V.int (i : Nat))
theorem placesV_succ (ns : List Str) (n : Nat) : placesV ns (n + 1) = placesV ns n ++ [(Sum.inr (ns.getD n noS), V.int (n : Nat))] := by
  unfold placesV
  rw [List.range_succ, List.map_append]; rfl
theorem getD_inj {ns : List Str} (nd : ns.Nodup) {i j : Nat} (hi : i < ns.length) (hj : j < ns.length) (h : ns.getD i noS = ns.getD j noS) : i = j := by
  rw [List.getD_eq_getElem?_getD, List.getD_eq_getElem?_getD, List.getElem?_eq_getElem hi, List.getElem?_eq_getElem hj] at h
  have h2 : ns[i] = ns[j] := h
  exact (List.getElem?_inj hi nd).mp (by rw [List.getElem?_eq_getElem hi, List.getElem?_eq_getElem hj, h2])
theorem places_new {ns : List Str} (nd : ns.Nodup) {n : Nat} (h : n < ns.length) : valV (placesV ns n) (Sum.inr (ns.getD n noS)) = none := valV_none fun z => by
  obtain ⟨p, hp, e⟩ := List.mem_map.mp z
  obtain ⟨i, hi, rfl⟩ := List.mem_map.mp hp
  have hi' := List.mem_range.mp hi
  have := getD_inj nd (by omega) h (Sum.inr.inj e)
  omega
theorem places_at {ns : List Str} (nd : ns.Nodup) : ∀ n, n ≤ ns.length → ∀ i, i < n → valV (placesV ns n) (Sum.inr (ns.getD i noS)) = some (.int (i : Nat))
  | 0, _, i, h => by omega
  | n + 1, hn, i, h => by
    rw [placesV_succ, valV_snoc _ _ _ _ (places_new nd (by omega))]
    by_cases e : i = n
    · subst e; rw [if_pos rfl]
    · rw [if_neg (fun z => e (getD_inj nd (by omega) (by omega) (Sum.inr.inj z)))]
      exact places_at nd n (by omega) i (by omega)
theorem places_get {ns : List Str} (nd : ns.Nodup) (f : Str) : (valV (placesV ns ns.length) (Sum.inr f)).getD (.int (-1)) = .int (placeOf ns f) := by
  unfold placeOf
  by_cases h : f ∈ ns
  · rw [if_pos h]
    have hi := List.idxOf_lt_length_of_mem h
    have e : ns.getD (ns.idxOf f) noS = f := by
      rw [List.getD_eq_getElem?_getD, List.getElem?_eq_getElem hi]
      exact List.getElem_idxOf hi
    have := places_at nd _ (Nat.le_refl _) _ hi
    rw [e] at this
    rw [this]; rfl
  · rw [if_neg h, valV_none fun z => h ?_]
    · rfl
    · obtain ⟨p, hp, e⟩ := List.mem_map.mp z
      obtain ⟨i, hi, rfl⟩ := List.mem_map.mp hp
      have hi' := List.mem_range.mp hi
      have e2 : ns.getD i noS = f := Sum.inr.inj e
      rw [← e2, List.getD_eq_getElem?_getD, List.getElem?_eq_getElem hi']
      exact List.getElem_mem hi'
theorem rows_names (ks : List Kd) : ((rowsOf ks ks.length).map (·.1)) = (allMk ks).map (·.1) := by
  have h : ∀ (l : List Kd) (ns : List Str) (f : Nat → Nat), ((List.range l.length).flatMap fun i => kindRows ns (f i) (l.getD i (noS, []))).map (·.1) = (allMk l).map (·.1) := by
    intro l ns
    induction l with
    | nil => intro f; rfl
    | cons k l ih =>
      intro f
      rw [List.length_cons, List.range_succ_eq_map, List.flatMap_cons, List.map_append]
      unfold allMk
      rw [List.flatMap_cons, List.map_append]
      congr 1
      · unfold kindRows
        rw [List.map_map]
        show (List.range k.2.length).map (fun j => (k.2.getD j (noS, [])).1) = _
        refine List.ext_getElem? fun j => ?_
        rw [List.getElem?_map, List.getElem?_map]
        by_cases hj : j < k.2.length
        · rw [List.getElem?_range hj, List.getElem?_eq_getElem hj]
          show some (k.2.getD j (noS, [])).1 = some _
          rw [List.getD_eq_getElem?_getD, List.getElem?_eq_getElem hj]; rfl
        · rw [List.getElem?_eq_none (by simp; omega), List.getElem?_eq_none (by omega)]; rfl
      · have := ih (fun i => f (i + 1))
        unfold allMk at this
        rw [← this, List.flatMap_map]
        rfl
  exact h ks _ id
theorem rows_succ (ks : List Kd) (n : Nat) : rowsOf ks (n + 1) = rowsOf ks n ++ kindRows (ks.map (·.1)) n (ks.getD n (noS, [])) := by
  unfold rowsOf
  rw [List.range_succ, List.flatMap_append, List.flatMap_cons, List.flatMap_nil, List.append_nil]
theorem rows_prefix (ks : List Kd) (i : Nat) : ∀ n, i ≤ n → rowsOf ks i <+: rowsOf ks n
  | 0, h => by
    obtain rfl : i = 0 := by omega
    exact List.prefix_refl _
  | n + 1, h => by
    by_cases e : i = n + 1
    · rw [e]; exact List.prefix_refl _
    · exact (rows_prefix ks i n (by omega)).trans (by rw [rows_succ]; exact List.prefix_append ..)
theorem kindRows_at {ns : List Str} {i j : Nat} {kd : Kd} {m : Mk} (h : kd.2[j]? = some m) : (kindRows ns i kd)[j]? = some (mkRow ns i j m) := by
  have hj := (List.getElem?_eq_some_iff.mp h).1
  unfold kindRows
  rw [List.getElem?_map, List.getElem?_range hj]
  show some (mkRow ns i j (kd.2.getD j (noS, []))) = _
  rw [List.getD_eq_getElem?_getD, h]; rfl
theorem kindRows_length {ns : List Str} {i : Nat} {kd : Kd} : (kindRows ns i kd).length = kd.2.length := by unfold kindRows; simp
theorem ints_im {K : PySem.W.Frag} {H : Hp} : ∀ (ns : List Int), ImAll K H (ns.map V.int) (ns.map .int)
  | [] => .nil
  | n :: ns => .cons (.int n) (ints_im ns)
/-- the name of the next row is new -/
theorem row_new {ks : List Kd} (nd : ((allMk ks).map (·.1)).Nodup) {i j : Nat} {kd : Kd} {m : Mk} (hk : ks[i]? = some kd) (hm : kd.2[j]? = some m) : m.1 ∉ (rowsOf ks i ++ (kindRows (ks.map (·.1)) i kd).take j).map (·.1) := by
  have hi := (List.getElem?_eq_some_iff.mp hk).1
  have e1 : ks.getD i (noS, []) = kd := by rw [List.getD_eq_getElem?_getD, hk]; rfl
  have p1 := rows_prefix ks (i + 1) ks.length hi
  rw [rows_succ, e1] at p1
  have p2 : rowsOf ks i ++ (kindRows (ks.map (·.1)) i kd).take (j + 1) <+: rowsOf ks ks.length := by
    refine List.IsPrefix.trans ?_ p1
    obtain ⟨t, ht⟩ := List.take_prefix (j + 1) (kindRows (ks.map (·.1)) i kd)
    exact ⟨t, by rw [List.append_assoc, ht]⟩
  rw [List.take_add_one, kindRows_at hm, ← List.append_assoc] at p2
  have nd2 : ((rowsOf ks ks.length).map (·.1)).Nodup := by rw [rows_names]; exact nd
  have p3 := (List.IsPrefix.map (·.1) p2).sublist.nodup nd2
  rw [List.map_append] at p3
  intro z
  exact (List.nodup_append.mp p3).2.2 _ z _ (List.mem_singleton.mpr rfl) rfl
theorem rows_few {ks : List Kd} (h : ∀ k ∈ ks, k.2.length ≤ 6) : ∀ n, n ≤ ks.length → (rowsOf ks n).length ≤ 6 * n
  | 0, _ => Nat.le_refl _
  | n + 1, hn => by
    have := rows_few h n (by omega)
    rw [rows_succ, List.length_append, kindRows_length]
    have hk : ks.getD n (noS, []) ∈ ks := by
      rw [List.getD_eq_getElem?_getD, List.getElem?_eq_getElem (by omega)]
      exact List.getElem_mem _
    have := h _ hk
    omega
theorem TableAt.put {K : PySem.W.Frag} {H : Hp} {d T : Addr} {rs : List Row} {r : Row} {kvs : List (Key × V)} (e : H d = some (.dK kvs)) (h1 : kvs.map (·.1) = rs.map (fun r => Sum.inr r.1)) (h2 : ImAll K H (kvs.map (·.2)) (rs.map rowD)) (hn : r.1 ∉ rs.map (·.1)) (iT : Im K H (.ref T) (rowD r)) :
    TableAt K (upd H d (.dK (putK kvs (Sum.inr r.1) (.ref T)))) d (rs ++ [r]) := by
  have hv : valV kvs (Sum.inr r.1) = none := valV_none (by
    rw [h1]
    intro z
    obtain ⟨x, hx, ex⟩ := List.mem_map.mp z
    exact hn (List.mem_map.mpr ⟨x, hx, Sum.inr.inj ex⟩))
  rw [putK_new _ hv]
  have tk := tk_dK (o := .dK (kvs ++ [(Sum.inr r.1, V.ref T)])) e
  refine ⟨_, upd_same, by rw [List.map_append, List.map_append, h1]; rfl, ?_⟩
  rw [List.map_append, List.map_append]
  exact (ImAll.mono tk _ h2).snoc (Im.mono tk _ iT)
section
variable {P : Program} {w : World} {K : PySem.W.Frag} {mg : Str → Option Value} {base : Heap}
abbrev s_maker_table : Stmt := topS 21
theorem sc_maker_table : FnScope ["kinds", "places", "table", "index", "_", "makers", "at", "maker", "fields", "name", "field"] ["kinds"] (defScope s_maker_table) := ⟨rfl, rfl, rfl, by decide +kernel, rfl, by decide +kernel, by decide +kernel⟩
def sp_maker_table (K : PySem.W.Frag) : Sp := fun vs H Q _ => ∃ v ks, vs = [v] ∧ Im K H v (ksD ks) ∧ KindsOk ks ∧ ∀ d H', Same H H' → H d = none → TableAt K H' d (rowsOf ks ks.length) → Q (.ref d) H'
set_option maxHeartbeats 1000000 in
theorem ok_maker_table {f : Addr} {fd : FuncData} {k : Nat} (F : Fun K "maker_table" "maker_table" s_maker_table f fd) (T : Tx K mg) : FnOk P w K mg base CX0 (k + 1) f fd ["kinds"] (sp_maker_table K) := by
  have nd := sc_maker_table.nd
  refine F.ok sc_maker_table (fun vs H Q E h => ?_) (fun cdv A outer s H vs Q E hr h => ?_)
  · obtain ⟨_, _, rfl, _⟩ := h
    rfl
  · obtain ⟨v, ks, rfl, iv, ok, q⟩ := h
    obtain ⟨a, xs, rfl, ha, hx⟩ := iv.tuple_inv
    have lx : xs.length = ks.length := all_len hx
    have few := ok.few
    have ln : (ks.map (·.1)).length = ks.length := List.length_map ..
    refine ⟨_, (pss_cons (ps_set (i := 1) nd rfl (.inr rfl) (pe_dc (own := [("index", 3), ("name", 9), ("_", 4)]) (g := _) (tt := tYes) rfl nd (kpi_enumT K (by rfl) T.m_enumerate (pa_cons (pv 0) pa_nil)) (blkOk_by (by rfl)) (fun _ _ _ _ _ => (kpg_tup K (n := 2) rfl (pgs_cons (pg_name (i := 3) nd rfl (.inl rfl)) (pgs_cons (kpg_tup K (n := 2) rfl (pgs_cons (pg_name (i := 9) nd rfl (.inl rfl)) (pgs_cons (pg_name (i := 4) nd rfl (.inl rfl)) pgs_nil))) pgs_nil)))) (fun _ _ _ _ _ => pts_nil) (fun _ _ _ _ _ => (pv 9)) (fun _ _ _ _ _ => (pv 3))))
      (pss_cons (ps_set (i := 2) nd rfl (.inl rfl) pe_dnewK)
      (pss_cons (ps_for PassesOwn.never rfl (kpi_enumT K (by rfl) T.m_enumerate (pa_cons (pv 0) pa_nil)) (kpg_tup K (n := 2) rfl (pgs_cons (pg_name (i := 3) nd rfl (.inl rfl)) (pgs_cons (kpg_tup K (n := 2) rfl (pgs_cons (pg_name (i := 4) nd rfl (.inl rfl)) (pgs_cons (pg_name (i := 5) nd rfl (.inl rfl)) pgs_nil))) pgs_nil)))
        (pss_one (ps_for PassesOwn.never rfl (kpi_enumT K (by rfl) T.m_enumerate (pa_cons (pv 5) pa_nil)) (kpg_tup K (n := 2) rfl (pgs_cons (pg_name (i := 6) nd rfl (.inl rfl)) (pgs_cons (kpg_tup K (n := 2) rfl (pgs_cons (pg_name (i := 7) nd rfl (.inl rfl)) (pgs_cons (pg_name (i := 8) nd rfl (.inl rfl)) pgs_nil))) pgs_nil)))
          (pss_one (ps_dput (hu_of hr) (pv 2) (pv 7) (pe_tup (pa_cons (pv 3) (pa_cons (pv 6) (pa_cons (pe_callTy (kcall_tuple K) (by rfl) T.m_tuple (by decide +kernel) (pa_cons (pe_lc (own := [("field", 10)]) (g := gName 10) (tt := tYes) rfl nd (kpi_tup K (pv 8)) (blkOk_by (by rfl)) (fun _ _ _ _ _ => (pg_name (i := 10) nd rfl (.inl rfl))) (fun _ _ _ _ _ => pts_nil) (fun _ _ _ _ _ => (pe_dget2 (hu_of hr) (pv 1) (pv 10) (pe_gv rfl T.g_NUMBER) ⟨rfl, rfl, rfl, rfl⟩))) pa_nil)) pa_nil)))) rfl)))))
      (pss_one (ps_ret (pv 2)))))), ?_⟩
    refine ⟨.ref a, rfl, a, xs, rfl, ha.sq, fun d0 hd0 => ?_⟩
    refine dc_all (walk_enumT (xs := xs)) (fun i Hx => Same H Hx ∧ Hx d0 = some (.dK (placesV (ks.map (·.1)) i))) ⟨same_new hd0, upd_same⟩ (fun i Hx _ z => (ha.mono (tk_same z.1)).sq) (fun i x Hx Hy hi z y => ?_) (fun H1 z => ?_)
    · obtain ⟨sm, eD⟩ := z
      obtain ⟨T, x1, x2, rfl, hT, rfl, e1, e2⟩ := y
      obtain rfl := Option.some.inj e1
      obtain ⟨kd, hkd, ikd⟩ := all_get (ImAll.mono (tk_same sm) _ hx) e2
      obtain ⟨pk, u1, u2, rfl, hpk, iu1, iu2⟩ := im_pair ikd
      obtain rfl := iu1.str_inv
      have sT := same_new (o := .tup [.int (i : Nat), .ref pk]) hT
      have en : (ks.map (·.1)).getD i noS = kd.1 := by
        rw [List.getD_eq_getElem?_getD, List.getElem?_map, hkd]; rfl
      refine ⟨T, _, rfl, .of upd_same, rfl, .int (i : Nat), _, rfl, .ref pk, _, rfl, pk, _, rfl, (hpk.mono (tk_same sT)).sq, rfl, .str kd.1, _, rfl, u2, _, rfl, rfl, rfl, rfl, .str kd.1, rfl, .int (i : Nat), rfl, placesV (ks.map (·.1)) i, Sum.inr kd.1, rfl, sT _ _ eD, small1000 (by unfold placesV; rw [List.length_map, List.length_range]; omega), fun b o e => ?_, ?_⟩
      · rw [upd_ne (ne_of_none e hd0)]; exact sT _ _ (sm _ _ e)
      · rw [upd_same, placesV_succ, en]
        congr 2
        exact putK_new _ (by rw [← en]; exact places_new ok.nd (by omega))
    · obtain ⟨sm1, e0⟩ := z
      rw [lx] at e0
      refine fun d2 hd2 => ?_
      have n02 : d0 ≠ d2 := ne_of_none e0 hd2
      have s2 : Same H1 (upd H1 d2 (.dK [])) := same_new hd2
      have e2 : (upd H1 d2 (.dK [])) d2 = some (.dK []) := upd_same
      have e02 := s2 _ _ e0
      have sm2 := sm1.trans s2
      have hd20 : H d2 = none := sm1.free hd2
      generalize upd H1 d2 (.dK []) = H2 at *
      refine ⟨.ref a, rfl, a, xs, rfl, (ha.mono (tk_same sm2)).sq, ?_⟩
      refine for_it (walk_enumT (xs := xs)) (fun i σ Ha => ∃ (y3 y4 y5 y6 y7 y8 : Option V), σ = [some (.ref a), some (.ref d0), some (.ref d2), y3, y4, y5, y6, y7, y8, none, none] ∧ Same H Ha ∧ Ha d0 = some (.dK (placesV (ks.map (·.1)) ks.length)) ∧ TableAt K Ha d2 (rowsOf ks i)) ⟨_, _, _, _, _, _, rfl, sm2, e02, [], e2, rfl, .nil⟩ (fun i σ Ha _ z => ?_) ?_ ?_
      · obtain ⟨_, _, _, _, _, _, _, sm, _⟩ := z
        exact (ha.mono (tk_same sm)).sq
      · rintro i x σ Ha Hb hi ⟨y3, y4, y5, y6, y7, y8, rfl, sm, ed0, tb⟩ ⟨T, x1, x2, rfl, hT, rfl, e1, ex⟩
        obtain rfl := Option.some.inj e1
        obtain ⟨kd, hkd, ikd⟩ := all_get (ImAll.mono (tk_same sm) _ hx) ex
        have kmem := List.mem_of_getElem? hkd
        obtain ⟨pk, u1, u2, rfl, hpk, iu1, iu2⟩ := im_pair ikd
        obtain rfl := iu1.str_inv
        obtain ⟨pm, us, rfl, hpm, ius⟩ := iu2.tuple_inv
        have lus : us.length = kd.2.length := all_len ius
        have sT := same_new (o := .tup [.int (i : Nat), .ref pk]) hT
        refine ⟨T, _, rfl, .of upd_same, rfl, .int (i : Nat), _, rfl, .ref pk, _, rfl, pk, _, rfl, (hpk.mono (tk_same sT)).sq, rfl, .str kd.1, _, rfl, .ref pm, _, rfl, rfl, rfl, ?_⟩
        have hpmT := hpm.mono (tk_same sT)
        have iusT := ImAll.mono (tk_same sT) _ ius
        have smT := sm.trans sT
        have edT := sT _ _ ed0
        have tbT := tb.same sT
        generalize upd Ha T (.tup [.int (i : Nat), .ref pk]) = H3 at *
        refine ⟨.ref pm, rfl, pm, us, rfl, hpmT.sq, ?_⟩
        refine for_it (walk_enumT (xs := us)) (fun j σ Hb => ∃ (y6 y7 y8 : Option V), σ = [some (.ref a), some (.ref d0), some (.ref d2), some (.int (i : Nat)), some (.str kd.1), some (.ref pm), y6, y7, y8, none, none] ∧ Same H Hb ∧ ITup K Hb pm us ∧ ImAll K Hb us (kd.2.map mkD) ∧ Hb d0 = some (.dK (placesV (ks.map (·.1)) ks.length)) ∧ TableAt K Hb d2 (rowsOf ks i ++ (kindRows (ks.map (·.1)) i kd).take j)) ⟨_, _, _, rfl, smT, hpmT, iusT, edT, by rw [List.take_zero, List.append_nil]; exact tbT⟩ (fun j σ Hb _ z => ?_) ?_ ?_
        · obtain ⟨_, _, _, _, _, hp, _⟩ := z
          exact hp.sq
        · rintro j x σ Hb Hc hj ⟨y6, y7, y8, rfl, smb, hpmb, iub, edb, tbb⟩ ⟨T2, x1, x2, rfl, hT2, rfl, e1, ex⟩
          obtain rfl := Option.some.inj e1
          obtain ⟨m, hm, imm⟩ := all_get iub ex
          have mmem := List.mem_of_getElem? hm
          obtain ⟨pp, u1, u2, rfl, hpp, iu1, iu2⟩ := im_pair imm
          obtain rfl := iu1.str_inv
          obtain ⟨pf, fs, rfl, hpf, ifs⟩ := iu2.tuple_inv
          have efs := im_strs ifs
          have l4 := (ok.mkk _ kmem _ mmem).2
          have sT2 := same_new (o := .tup [.int (j : Nat), .ref pp]) hT2
          refine ⟨T2, _, rfl, .of upd_same, rfl, .int (j : Nat), _, rfl, .ref pp, _, rfl, pp, _, rfl, (hpp.mono (tk_same sT2)).sq, rfl, .str m.1, _, rfl, .ref pf, _, rfl, rfl, rfl, ?_⟩
          have hpf2 := hpf.mono (tk_same sT2)
          have smc := smb.trans sT2
          have edc := sT2 _ _ edb
          have tbc := tbb.same sT2
          have hpmc := hpmb.mono (tk_same sT2)
          have iuc := ImAll.mono (tk_same sT2) _ iub
          generalize upd Hb T2 (.tup [.int (j : Nat), .ref pp]) = H4 at *
          refine ⟨.int (i : Nat), rfl, .int (j : Nat), rfl, .ref pf, rfl, pf, rfl, ⟨_, hpf2.sq⟩, fun D hD => ?_⟩
          refine lc_all (walk_tup (xs := fs)) (fun t Hx => Same H4 Hx ∧ Hx D = some (.lst (((m.2.take t).map (placeOf (ks.map (·.1)))).map V.int))) ⟨same_new hD, upd_same⟩ (fun t Hx _ z => (hpf2.mono (tk_same z.1)).sq) (fun t x Hx Hy ht z y => ?_) (fun Hx z => ?_)
          · obtain ⟨s5, eD⟩ := z
            obtain ⟨rfl, hxt⟩ := y
            rw [efs] at hxt ht
            rw [List.length_map] at ht
            rw [List.getElem?_map] at hxt
            obtain ⟨f, hf, rfl⟩ := Option.map_eq_some_iff.mp hxt
            have ed5 := s5 _ _ edc
            refine ⟨rfl, .ref d0, rfl, d0, rfl, .inl ⟨_, .inl ed5⟩, .str f, rfl, _, .k (k := Sum.inr f) ed5, ?_⟩
            have pg := places_get ok.nd f
            rw [ln] at pg
            rw [pg]
            refine ⟨_, eD, small1000 (by rw [List.length_map, List.length_map, List.length_take]; omega), fun b o e => ?_, ?_⟩
            · rw [upd_ne (ne_of_none e hD)]; exact s5 _ _ e
            · rw [upd_same, List.take_add_one, hf, List.map_append, List.map_append]; rfl
          · obtain ⟨s5, eD⟩ := z
            rw [efs, List.length_map, List.take_of_length_le (Nat.le_refl _)] at eD
            refine ⟨D, _, rfl, .inl ⟨.of eD, fun l hl => ⟨by show 3 ≤ sizeLine; decide, fun T3 hT3 => ?_⟩⟩⟩
            have s6 := same_new (o := .tup ((m.2.map (placeOf (ks.map (·.1)))).map V.int)) hl
            have il : Im K (upd Hx l (.tup ((m.2.map (placeOf (ks.map (·.1)))).map V.int))) (.ref l) (.tuple ((m.2.map (placeOf (ks.map (·.1)))).map .int)) := .tup (.inl upd_same) (ints_im _)
            generalize upd Hx l (.tup ((m.2.map (placeOf (ks.map (·.1)))).map V.int)) = H6 at *
            have s7 := same_new (o := .tup [.int (i : Nat), .int (j : Nat), .ref l]) hT3
            have iT3 : Im K (upd H6 T3 (.tup [.int (i : Nat), .int (j : Nat), .ref l])) (.ref T3) (rowD (mkRow (ks.map (·.1)) i j m)) := .tup (.inl upd_same) (.cons (.int _) (.cons (.int _) (.cons (Im.mono (tk_same s7) _ il) .nil)))
            generalize upd H6 T3 (.tup [.int (i : Nat), .int (j : Nat), .ref l]) = H7 at *
            have s47 := (s5.trans s6).trans s7
            obtain ⟨kvs, ek, h1, h2⟩ := tbc.same s47
            have few2 := rows_few (fun k hk => (ok.mks k hk).2) i (by omega)
            have lk : kvs.length ≤ 100 := by
              have := congrArg List.length h1
              rw [List.length_map, List.length_map, List.length_append, List.length_take, kindRows_length] at this
              have := (ok.mks _ kmem).2
              omega
            refine ⟨.ref d2, rfl, .str m.1, rfl, d2, _, rfl, .k (k := Sum.inr m.1) ek (small1000 (by omega)), ?_⟩
            refine ⟨_, _, _, rfl, fun b o e => ?_, (hpmc.mono (tk_same s47)).mono (tk_dK ek), ImAll.mono ((tk_same s47).trans (tk_dK ek)) _ iuc, ?_, ?_⟩
            · rw [upd_ne (ne_of_none e hd20)]
              exact s47 _ _ (smc _ _ e)
            · rw [upd_ne n02]; exact s47 _ _ edc
            · rw [List.take_add_one, kindRows_at hm, ← List.append_assoc]
              exact TableAt.put (r := mkRow (ks.map (·.1)) i j m) ek h1 h2 (row_new ok.ndm hkd hm) iT3
        · rintro σ Hb ⟨y6, y7, y8, rfl, smb, hpmb, iub, edb, tbb⟩
          refine ⟨_, _, _, _, _, _, rfl, smb, edb, ?_⟩
          rw [rows_succ, show ks.getD i (noS, []) = kd by rw [List.getD_eq_getElem?_getD, hkd]; rfl]
          rw [lus, List.take_of_length_le (by rw [kindRows_length]; exact Nat.le_refl _)] at tbb
          exact tbb
      · rintro σ Ha ⟨y3, y4, y5, y6, y7, y8, rfl, sm, ed0, tb⟩
        rw [lx] at tb
        exact ⟨.ref d2, rfl, q d2 Ha sm hd20 tb⟩
end
end K63

set_option Elab.async false
set_option linter.all false
set_option maxRecDepth 100000
set_option exponentiation.threshold 20000
set_option pp.deepTerms false
set_option pp.deepTerms.threshold 8
namespace K63
open PySem PySem.Spec PyProof.Rows L2 Ly Mt
theorem divInt_flip (t b : Int) : Rat.divInt (-t) (-b) = Rat.divInt t b := by
  rw [Rat.neg_divInt_neg]
section
variable {P : Program} {w : World} {K : PySem.W.Frag} {mg : Str → Option Value} {base : Heap}
end
end K63

set_option Elab.async false
set_option linter.all false
set_option maxRecDepth 100000
set_option exponentiation.threshold 20000
set_option pp.deepTerms false
set_option pp.deepTerms.threshold 8
namespace K63
open PySem PySem.Spec PyProof.Rows L2 Ly Mt
/-! ### forms as data -/
abbrev Tm := Nat × List Nat × Rat
abbrev Rd := Str × Str × List Rat
def nD (n : Nat) : PyData := .int (n : Int)
def nsD (ns : List Nat) : PyData := .tuple (ns.map nD)
def tmD (t : Tm) : PyData := .tuple [nD t.1, nsD t.2.1, rD t.2.2]
def tsD (ts : List Tm) : PyData := .tuple (ts.map tmD)
def mrD (r : List (List Tm)) : PyData := .tuple (r.map tsD)
def mpD (m : List (List (List Tm))) : PyData := .tuple (m.map mrD)
def rdD (r : Rd) : PyData := .tuple [.str r.1, .str r.2.1, vD r.2.2]
def rdsD (rs : List Rd) : PyData := .tuple (rs.map rdD)
structure Form where
  ks : List Kd
  dims : List Nat
  maps : List (List (List Tm))
  rds : List Rd
def fmD (F : Form) : PyData := .tuple [ksD F.ks, nsD F.dims, mpD F.maps, rdsD F.rds]
/-- the width of a field -/
def wd (ns : List Str) (dims : List Nat) (f : Str) : Nat := if f ∈ ns then dims.getD (ns.idxOf f) 0 else 2
def keyT (t : Tm) : PyData := .tuple [nD t.1, nsD t.2.1]
structure TermOk (dim : Nat) (ws : List Nat) (t : Tm) : Prop where
  row : t.1 < dim
  len : t.2.1.length = ws.length
  cols : ∀ (i c w : Nat), t.2.1[i]? = some c → ws[i]? = some w → c < w
  nz : t.2.2 ≠ 0
structure TermsOk (dim : Nat) (ws : List Nat) (most : Nat) (ts : List Tm) : Prop where
  few : ts.length ≤ most
  each : ∀ t ∈ ts, TermOk dim ws t
  asc : ∀ (i : Nat) a b, ts[i]? = some a → ts[i + 1]? = some b → PySem.W.dataLt (keyT a) (keyT b) = true
structure ReadsOk (ns : List Str) (dims : List Nat) (rs : List Rd) : Prop where
  few : rs.length ≤ 60
  low : ∀ r ∈ rs, NameOk r.1 ∧ ∃ c, r.1.cps[0]? = some c ∧ lowC c = true
  nd : (rs.map (·.1)).Nodup
  kind : ∀ r ∈ rs, r.2.1 ∈ ns ∧ r.2.2.length = dims.getD (ns.idxOf r.2.1) 0
structure FormOk (wide : Nat) (F : Form) : Prop where
  wid : wide ≤ 2
  kinds : KindsOk F.ks
  ld : F.dims.length = F.ks.length
  hd : ∀ d ∈ F.dims, d ≤ 16 * wide
  sd : F.dims.sum ≤ 32 * wide
  lm : F.maps.length = F.ks.length
  lr : ∀ (i : Nat) kd row, F.ks[i]? = some kd → F.maps[i]? = some row → row.length = kd.2.length
  tm : ∀ (i : Nat) kd row, F.ks[i]? = some kd → F.maps[i]? = some row → ∀ (j : Nat) m ts, kd.2[j]? = some m → row[j]? = some ts → TermsOk (F.dims.getD i 0) (m.2.map (wd (F.ks.map (·.1)) F.dims)) (4000 * wide) ts
  rd : ReadsOk (F.ks.map (·.1)) F.dims F.rds
theorem im_nats {K : PySem.W.Frag} {H : Hp} : ∀ {xs : List V} {ns : List Nat}, ImAll K H xs (ns.map nD) → xs = ns.map (fun n => V.int (n : Nat))
  | _, [], h => by obtain rfl := h.nil_inv; rfl
  | _, n :: ns, h => by
    obtain ⟨x, r, rfl, i1, hr⟩ := h.cons_inv
    rw [i1.int_inv, im_nats hr]; rfl
theorem nats_im {K : PySem.W.Frag} {H : Hp} : ∀ (ns : List Nat), ImAll K H (ns.map (fun n => V.int (n : Nat))) (ns.map nD)
  | [] => .nil
  | n :: ns => .cons (.int _) (nats_im ns)
theorem im_ints {K : PySem.W.Frag} {H : Hp} : ∀ {xs : List V} {ns : List Int}, ImAll K H xs (ns.map .int) → xs = ns.map V.int
  | _, [], h => by obtain rfl := h.nil_inv; rfl
  | _, n :: ns, h => by
    obtain ⟨x, r, rfl, i1, hr⟩ := h.cons_inv
    rw [i1.int_inv, im_ints hr]; rfl
theorem nats_sum : ∀ ns : List Nat, (ns.map (fun n : Nat => (n : Int))).sum = (ns.sum : Nat)
  | [] => rfl
  | n :: ns => by rw [List.map_cons, List.sum_cons, List.sum_cons, nats_sum ns]; omega
theorem jRatio_rD (q : Rat) : jRatio (rD q) = true := by
  show (decide (1 ≤ (q.den : Int)) && decide (Nat.gcd q.num.natAbs ((q.den : Int)).natAbs = 1)) = true
  rw [decide_eq_true (show 1 ≤ (q.den : Int) from den_pos q), decide_eq_true (cop q)]; rfl
theorem rep_all (n : Nat) : (List.replicate n true).all id = true := by simp
/-- a comprehension of which each turn gives True -/
theorem lc_yes {J : It} {n : Nat} {G : Hp → Prop} {Y : Nat → Hp → V → Hp → Prop} (w : Walk J n G Y) {g : TG} {te : TE} {vs : List Nat} {σ : L2.St} {H : Hp} {D : Addr} {Qd : Hp → Prop} (hD : H D = none) (hn : n < sizeLine) (hG : ∀ H', Same H H' → G H')
    (hs : ∀ i x H2 H3 (R : VK), i < n → Same H H2 → Y i H2 x H3 → (∀ H5, Same H2 H5 → R (.bl true) H5) → g x (wipe σ vs) H3 fun σ2 H4 => wipe σ2 vs = wipe σ vs ∧ te σ2 H4 R)
    (hd : ∀ H', Same H H' → H' D = some (.lst ((List.replicate n true).map V.bl)) → Qd H') :
    ∃ W : Nat → Nat → Hp → Prop, (∃ m, W 0 m (upd H D (.lst []))) ∧ ∀ i m H, W i m H →
      (J.stop i H ∧ Qd H) ∨ (J.go i H ∧ ∃ Nx : Hp → Prop, (∀ H', Nx H' → ∃ m', m' < m ∧ W (i + 1) m' H') ∧ ∀ x H', J.yld i H x H' → g x (wipe σ vs) H' fun σ2 H2 => wipe σ2 vs = wipe σ vs ∧ tYes σ2 H2 fun b H3 =>
        if b = true then te σ2 H3 fun y H4 => ∃ acc, H4 D = some (.lst acc) ∧ acc.length < sizeLine ∧ Nx (upd H4 D (.lst (acc ++ [y]))) else Nx H3) := by
  refine lc_all w (fun i H2 => Same H H2 ∧ H2 D = some (.lst ((List.replicate i true).map V.bl))) ⟨same_new hD, upd_same⟩ (fun i H2 _ z => hG H2 z.1) (fun i x H2 H3 hi z y => ?_) (fun H2 z => hd H2 z.1 z.2)
  obtain ⟨s2, e2⟩ := z
  refine hs i x H2 H3 _ hi s2 y fun H5 s5 => ?_
  refine ⟨_, s5 _ _ e2, ?_, fun b o e => ?_, ?_⟩
  · rw [List.length_map, List.length_replicate]; omega
  · rw [upd_ne (ne_of_none e hD)]; exact s5 _ _ (s2 _ _ e)
  · rw [upd_same, List.replicate_succ', List.map_append]; rfl
section
variable {P : Program} {w : World} {K : PySem.W.Frag} {mg : Str → Option Value} {base : Heap}
def sp_vec_of (K : PySem.W.Frag) : Sp := fun vs H Q _ => ∃ v r, vs = [v, .int (r.length : Nat)] ∧ Im K H v (vD r) ∧ r.length ≤ 1000 ∧ ∀ H', Same H H' → Q (.bl true) H'
abbrev s_widths_of : Stmt := topS 34
theorem sc_widths_of : FnScope ["fields", "dims", "field"] ["fields", "dims"] (defScope s_widths_of) := ⟨rfl, rfl, rfl, by decide +kernel, rfl, by decide +kernel, by decide +kernel⟩
/-- the width of a field by its place -/
def wdI (dims : List Nat) (f : Int) : Nat := if f = -1 then 2 else dims.getD f.toNat 0
def sp_widths (K : PySem.W.Frag) : Sp := fun vs H Q _ => ∃ (v u : V) (fs : List Int) (dims : List Nat), vs = [v, u] ∧ Im K H v (.tuple (fs.map .int)) ∧ Im K H u (nsD dims) ∧ fs.length ≤ 1000 ∧ (∀ f ∈ fs, f = -1 ∨ 0 ≤ f ∧ f.toNat < dims.length) ∧ ∀ D H', Same H H' → H D = none → H' D = some (.lst ((fs.map (wdI dims)).map (fun n => V.int (n : Nat)))) → Q (.ref D) H'
theorem ok_widths_of {f : Addr} {fd : FuncData} {k : Nat} (F : Fun K "widths_of" "widths_of" s_widths_of f fd) (T : Tx K mg) : FnOk P w K mg base CX0 (k + 1) f fd ["fields", "dims"] (sp_widths K) := by
  have nd := sc_widths_of.nd
  refine F.ok sc_widths_of (fun vs H Q E h => ?_) (fun cdv A outer s H vs Q E hr h => ?_)
  · obtain ⟨_, _, _, _, rfl, _⟩ := h
    rfl
  · obtain ⟨v, u, fs, dims, rfl, iv, iu, few, hf, q⟩ := h
    obtain ⟨a, xs, rfl, ha, hx⟩ := iv.tuple_inv
    obtain rfl := im_ints hx
    obtain ⟨b, ys, rfl, hb, hy⟩ := iu.tuple_inv
    obtain rfl := im_nats hy
    refine ⟨_, (pss_one (ps_ret (pe_lc (own := [("field", 2)]) (g := gName 2) (tt := tYes) rfl nd (kpi_tup K (pv 0)) (blkOk_by (by rfl)) (fun _ _ _ _ _ => (pg_name (i := 2) nd rfl (.inl rfl))) (fun _ _ _ _ _ => pts_nil) (fun _ _ _ _ _ => (pe_ifExp (pt_cmpR op_eq (pv 2) (pe_gv rfl T.g_NUMBER) (nomark _)) pe_int (pe_ix (kix_tup K) (pv 1) (pv 2) (fun _ _ => rfl))))))), ?_⟩
    refine ⟨.ref a, rfl, a, rfl, ⟨_, ha.sq⟩, fun D hD => ?_⟩
    refine lc_all (walk_tup (xs := fs.map V.int)) (fun i Hx => Same H Hx ∧ Hx D = some (.lst (((fs.take i).map (wdI dims)).map (fun n => V.int (n : Nat))))) ⟨same_new hD, upd_same⟩ (fun i Hx _ z => (ha.mono (tk_same z.1)).sq) (fun i x Hx Hy hi z y => ?_) (fun Hx z => ?_)
    · obtain ⟨sm, eD⟩ := z
      obtain ⟨rfl, hxi⟩ := y
      rw [List.getElem?_map] at hxi
      obtain ⟨f, hfi, rfl⟩ := Option.map_eq_some_iff.mp hxi
      rw [List.length_map] at hi
      have hlen : (((fs.take i).map (wdI dims)).map (fun n => V.int (n : Nat))).length < sizeLine := by
        rw [List.length_map, List.length_map, List.length_take]; exact small1000 (by omega)
      have fin : ∀ n : Nat, n = wdI dims f → ∃ acc, Hy D = some (.lst acc) ∧ acc.length < sizeLine ∧ Same H (upd Hy D (.lst (acc ++ [V.int (n : Nat)]))) ∧ (upd Hy D (.lst (acc ++ [V.int (n : Nat)]))) D = some (.lst (((fs.take (i + 1)).map (wdI dims)).map (fun n => V.int (n : Nat)))) := fun n en => by
        refine ⟨_, eD, hlen, fun b o e => ?_, ?_⟩
        · rw [upd_ne (ne_of_none e hD)]; exact sm _ _ e
        · rw [upd_same, List.take_add_one, hfi, List.map_append, List.map_append, en]; rfl
      refine ⟨rfl, .int f, rfl, rfl, _, rfl, ?_⟩
      by_cases h1 : f = -1
      · rw [decide_eq_true (by rw [h1])]
        exact iteT (fin 2 (by rw [wdI, if_pos h1]))
      · rw [decide_eq_false (fun z => h1 (V.int.inj z))]
        obtain ⟨p0, p1⟩ := (hf f (List.mem_of_getElem? hfi)).resolve_left h1
        refine iteF ⟨.ref b, rfl, .int f, rfl, b, _, f, V.int ((dims[f.toNat] : Nat) : Int), rfl, rfl, (hb.mono (tk_same sm)).sq, ?_, ?_⟩
        · obtain ⟨n, rfl⟩ : ∃ n : Nat, f = n := ⟨f.toNat, by omega⟩
          refine atI_nat (j := n) ?_
          rw [List.getElem?_map]
          have p2 : n < dims.length := p1
          show Option.map _ dims[n]? = _
          rw [List.getElem?_eq_getElem p2]; rfl
        · refine fin _ ?_
          rw [wdI, if_neg h1, List.getD_eq_getElem?_getD, List.getElem?_eq_getElem p1]; rfl
    · obtain ⟨sm, eD⟩ := z
      rw [List.length_map, List.take_of_length_le (Nat.le_refl _)] at eD
      exact q D Hx sm hD eD
def sp_dims (K : PySem.W.Frag) : Sp := fun vs H Q _ => ∃ v dims wide, vs = [v, .int (dims.length : Nat), .int (wide : Nat)] ∧ Im K H v (nsD dims) ∧ dims.length ≤ 1000 ∧ wide ≤ 2 ∧ (∀ d ∈ dims, d ≤ 16 * wide) ∧ dims.sum ≤ 32 * wide ∧ ∀ H', Same H H' → Q (.bl true) H'
end
end K63

set_option Elab.async false
set_option linter.all false
set_option maxRecDepth 100000
set_option exponentiation.threshold 20000
set_option pp.deepTerms false
set_option pp.deepTerms.threshold 8
namespace K63
open PySem PySem.Spec PyProof.Rows L2 Ly Mt
theorem alike_nats : ∀ (a b : List Nat), PySem.W.alikeAll (a.map nD) (b.map nD) = true
  | [], b => by cases b <;> rfl
  | _ :: _, [] => rfl
  | x :: a, y :: b => by
    show (PySem.W.alike (nD x) (nD y) && PySem.W.alikeAll (a.map nD) (b.map nD)) = true
    rw [alike_nats a b]; rfl
theorem alike_keyT (a b : Tm) : PySem.W.alike (keyT a) (keyT b) = true := by
  show (PySem.W.alike (nD a.1) (nD b.1) && (PySem.W.alike (nsD a.2.1) (nsD b.2.1) && true)) = true
  rw [show PySem.W.alike (nsD a.2.1) (nsD b.2.1) = true from alike_nats _ _]; rfl
theorem depth_nats : ∀ a : List Nat, PyData.depthAll (a.map nD) ≤ 0
  | [] => by decide
  | x :: a => by
    have := depth_nats a
    show max 0 (PyData.depthAll (a.map nD)) ≤ 0
    omega
theorem keyT_depth (a : Tm) : (keyT a).depth ≤ 64 := by
  have := depth_nats a.2.1
  show max 0 (max (PyData.depthAll (a.2.1.map nD) + 1) 0) + 1 ≤ 64
  omega
theorem cut_drop {ws : List V} {n : Nat} (h : n ≤ ws.length) : cutV ws (some (n : Int)) none = ws.drop n := by
  unfold cutV
  rw [HT.sIx_nat, HT.sIx_none, Nat.min_eq_left h, List.take_of_length_le (by rw [List.length_drop]; omega)]
theorem all_drop {K : PySem.W.Frag} {H : Hp} {α : Type} {f : α → PyData} : ∀ {xs : List V} {l : List α} {n : Nat}, ImAll K H xs (l.map f) → ImAll K H (xs.drop n) ((l.drop n).map f)
  | xs, l, 0, h => h
  | [], [], n + 1, _ => .nil
  | x :: xs, [], n + 1, h => by cases h
  | [], a :: l, n + 1, h => by cases h
  | x :: xs, a :: l, n + 1, h => by
    cases h with | cons _ r => exact all_drop (xs := xs) (l := l) (n := n) r
theorem cut_take {ws : List V} {n : Nat} (h : n ≤ ws.length) : cutV ws none (some (n : Int)) = ws.take n := by
  unfold cutV
  rw [HT.sIx_none, HT.sIx_nat, Nat.min_eq_left h]
  rfl
theorem all_take {K : PySem.W.Frag} {H : Hp} {α : Type} {f : α → PyData} : ∀ {xs : List V} {l : List α} {n : Nat}, ImAll K H xs (l.map f) → ImAll K H (xs.take n) ((l.take n).map f)
  | [], [], n, _ => by rw [List.take_nil, List.take_nil]; exact .nil
  | x :: xs, a :: l, 0, _ => .nil
  | x :: xs, a :: l, n + 1, .cons h r => .cons h (all_take r)
section
variable {K : PySem.W.Frag}
theorem cut_whole {xs : List V} {lo hi : Option Int} (h : HT.sIx xs.length 0 lo = 0 ∧ HT.sIx xs.length xs.length hi = xs.length) : cutV xs lo hi = xs := by
  unfold cutV
  rw [h.1, h.2]; simp
theorem sl_any {a : Addr} {xs : List V} {lo hi : Option Int} {H : Hp} {Q : VK} (h : ITup K H a xs) (q : ∀ p H', Same H H' → ITup K H' p (cutV xs lo hi) → Q (.ref p) H') : rSlA K (.ref a) lo hi H Q :=
  ⟨a, xs, rfl, h.sq, fun w => q a H (Same.refl H) (by rw [cut_whole w]; exact h), fun _ p hp => q p _ (same_new hp) (.inl upd_same)⟩
theorem cat_any {a b : Addr} {xs ys : List V} {H : Hp} {Q : VK} (h : ITup K H a xs) (h2 : ITup K H b ys) (hz : xs.length + ys.length ≤ 1000) (q : ∀ p H', Same H H' → ITup K H' p (xs ++ ys) → Q (.ref p) H') : rCatA K (.ref a) (.ref b) H Q := by
  refine ⟨a, b, xs, ys, rfl, rfl, h.sq, h2.sq, Nat.le_of_lt (small1000 hz), fun e => q b H (Same.refl H) (by rw [e]; exact h2), fun _ e => q a H (Same.refl H) (by rw [e, List.append_nil]; exact h), fun _ _ p hp => q p _ (same_new hp) (.inl upd_same)⟩
theorem rep_any {l : Addr} {x : V} {H : Hp} {n : Nat} {Q : VK} (h : ITup K H l [x]) (hn : n ≤ 1000) (q : ∀ p H', Same H H' → ITup K H' p (List.replicate n x) → Q (.ref p) H') : rRepTA K (.ref l) (.int n) H Q := by
  refine ⟨l, n, [x], rfl, rfl, h.sq, by simp, by omega, by omega, by show 1 ≤ 1000; decide, fun e => ?_, fun _ p hp => q p _ (same_new hp) (.inl ?_)⟩
  · have e1 : n = 1 := by omega
    subst e1
    exact q l H (Same.refl H) h
  · show (upd H p (.tup (List.replicate n [x]).flatten)) p = _
    rw [flat1]
    exact upd_same
end
section
variable {P : Program} {w : World} {K : PySem.W.Frag} {mg : Str → Option Value} {base : Heap}
def sp_term (K : PySem.W.Frag) : Sp := fun vs H Q _ => ∃ v l t dim ws, vs = [v, .int (dim : Nat), .ref l] ∧ Im K H v (tmD t) ∧ H l = some (.lst (ws.map (fun n : Nat => V.int (n : Nat)))) ∧ ws.length ≤ 1000 ∧ TermOk dim ws t ∧ ∀ H', Same H H' → Q (.bl true) H'
def sp_terms (K : PySem.W.Frag) : Sp := fun vs H Q _ => ∃ v l ts dim ws most, vs = [v, .int (dim : Nat), .ref l, .int (most : Nat)] ∧ Im K H v (tsD ts) ∧ H l = some (.lst (ws.map (fun n : Nat => V.int (n : Nat)))) ∧ ws.length ≤ 1000 ∧ most ≤ 8000 ∧ TermsOk dim ws most ts ∧ ∀ H', Same H H' → Q (.bl true) H'
end
end K63

set_option Elab.async false
set_option linter.all false
set_option maxRecDepth 100000
namespace Ly
open PySem PySem.Spec PyProof.Rows L2
section
variable {X : Cx}
theorem sw_trueD {kx vx : Expr} {gs : List Comprehension} {scope : Scope} {pos py : Pos} {y : Str} {l : Nat} {env : Env} (hk : env.scope.kind = .function) (hy : env.scope.names.lookup y = some .local) (hl : (py.line == pos.line) = true)
    (ha : (scope.names.any fun (n, k) => n == y && (k == .local || k == .cell)) = false) : swapsWith (.DictComp kx vx gs scope pos) (some (.Name y py)) l env = pure true := by
  have ky : env.kindOf y = some .local := hy
  have hb : env.blockKind = .function := by unfold Env.blockKind; rw [hk]; rfl
  unfold swapsWith
  simp only [hb, ky, ha, Expr.pos, hl]
  rfl
/-- name = {k: v ..} on one line, the name a local -/
theorem ps_setDc {i : Nat} {y : Str} {py : Pos} {kx vx tg iter : Expr} {ifs : List Expr} {scope : Scope} {own : List (Str × Nat)} {pos spos : Pos} {wi : TI} {g : TG} {tt : TT} {tk tv : TE} (hc : X.calm = true) (hN : X.N.Nodup) (hy : X.N[i]? = some y) (hyl : X.env.scope.names.lookup y = some .local)
    (hsw : swapsWith (.DictComp kx vx [⟨tg, iter, ifs, 0⟩] scope pos) (some (.Name y py)) spos.line X.env = pure true) (hi : PI X tg iter wi) (ok : BlkOk X.N X.env.scope scope own)
    (hg : ∀ (s : Shared) (H : Hp) (C : Addr) (cl : List (Str × Addr)) (fp : List Addr), PG (X.blk s H scope (compEnvC scope cl C X.env) fp) tg g) (ht : ∀ (s : Shared) (H : Hp) (C : Addr) (cl : List (Str × Addr)) (fp : List Addr), PTs (X.blk s H scope (compEnvC scope cl C X.env) fp) ifs tt)
    (hk : ∀ (s : Shared) (H : Hp) (C : Addr) (cl : List (Str × Addr)) (fp : List Addr), PE (X.blk s H scope (compEnvC scope cl C X.env) fp) kx tk)
    (he : ∀ (s : Shared) (H : Hp) (C : Addr) (cl : List (Str × Addr)) (fp : List Addr), PE (X.blk s H scope (compEnvC scope cl C X.env) fp) vx tv) (hs : ∀ x, foldedSetIterable iter X.env x = pure x := by intro _; rfl) :
    PS X (.Assign [.Name y py] (.DictComp kx vx [⟨tg, iter, ifs, 0⟩] scope pos) spos) (tAsg (tDc wi g tt tk tv (own.map (·.2))) (gName i)) := by
  refine ⟨fun pins s σ H D I h => ?_⟩
  rw [exec_Assign_Name_used _ _ _ _ hsw]
  refine wpAny_bind (wpAny_standAt (wpAny_bind ?_))
  show wpAny _ X.A (do let _ ← comprehension (.DictComp kx vx [⟨tg, iter, ifs, 0⟩] scope pos) scope X.env (firstIterPos [⟨tg, iter, ifs, 0⟩] pos) newDict false (eval iter X.env) (some (assign (.Name y py) X.env))) _ _ s
  have h : tDc wi g tt tk tv (own.map (·.2)) σ H (fun x H1 => gName i x σ H1 D.nx) := h
  refine wpAny_bind (thn (dc_core (Qf := fun _ s' => SP X pins D .next s') hc hN I hi ok hg ht hk he hs h fun L C s' m H' I' q hn f => ?_) fun _ s' hq => wpAny_pure (wpAny_pure hq))
  show wpAny _ _ (assign (.Name y py) X.env (.ref L)) _ _ _
  refine wpAny_assign_Name (store_ok2 (v := V.ref L) I' hN hy (.inl hyl) rfl (fun s2 I2 ⟨a, sb, ha⟩ => ?_) (.inr hyl))
  obtain ⟨f0, f1, f2, f3, f4, f5⟩ := f
  have haC : C ≠ a := by
    rcases ha with z | z
    · rw [z]; exact f1
    · exact fun e => f4 y a z e.symm
  refine ⟨m, hn.sameBut sb haC, fun h3 sb3 => ?_⟩
  exact ⟨_, H', I2.turned (t' := s2.toks) (fun b o hb e => (sb3.2 b hb).trans e) f0 f1 f3 f4 f5, q⟩
end
end Ly

set_option Elab.async false
set_option linter.all false
set_option maxRecDepth 100000
set_option exponentiation.threshold 20000
set_option pp.deepTerms false
set_option pp.deepTerms.threshold 8
namespace K63
open PySem PySem.Spec PyProof.Rows L2 Ly Mt
/-! ### a dict by the kinds' names -/
def tabV (ns : List Str) (g : Nat → V) (n : Nat) : List (Key × V) := (List.range n).map fun i => (Sum.inr (ns.getD i noS), g i)
theorem tabV_succ (ns : List Str) (g : Nat → V) (n : Nat) : tabV ns g (n + 1) = tabV ns g n ++ [(Sum.inr (ns.getD n noS), g n)] := by
  unfold tabV
  rw [List.range_succ, List.map_append]; rfl
theorem tab_new {ns : List Str} {g : Nat → V} (nd : ns.Nodup) {n : Nat} (h : n < ns.length) : valV (tabV ns g n) (Sum.inr (ns.getD n noS)) = none := valV_none fun z => by
  obtain ⟨p, hp, e⟩ := List.mem_map.mp z
  obtain ⟨i, hi, rfl⟩ := List.mem_map.mp hp
  have hi' := List.mem_range.mp hi
  have := getD_inj nd (by omega) h (Sum.inr.inj e)
  omega
theorem tab_at {ns : List Str} {g : Nat → V} (nd : ns.Nodup) : ∀ n, n ≤ ns.length → ∀ i, i < n → valV (tabV ns g n) (Sum.inr (ns.getD i noS)) = some (g i)
  | 0, _, i, h => by omega
  | n + 1, hn, i, h => by
    rw [tabV_succ, valV_snoc _ _ _ _ (tab_new nd (by omega))]
    by_cases e : i = n
    · subst e; rw [if_pos rfl]
    · rw [if_neg (fun z => e (getD_inj nd (by omega) (by omega) (Sum.inr.inj z)))]
      exact tab_at nd n (by omega) i (by omega)
theorem tab_get {ns : List Str} {g : Nat → V} (nd : ns.Nodup) {f : Str} (h : f ∈ ns) : valV (tabV ns g ns.length) (Sum.inr f) = some (g (ns.idxOf f)) := by
  have hi := List.idxOf_lt_length_of_mem h
  have e : ns.getD (ns.idxOf f) noS = f := by
    rw [List.getD_eq_getElem?_getD, List.getElem?_eq_getElem hi]
    exact List.getElem_idxOf hi
  have := tab_at (g := g) nd _ (Nat.le_refl _) _ hi
  rw [e] at this
  exact this
/-! ### the table's rows -/
theorem row_mem {ks : List Kd} {i j : Nat} {kd : Kd} {m : Mk} (hk : ks[i]? = some kd) (hm : kd.2[j]? = some m) : mkRow (ks.map (·.1)) i j m ∈ rowsOf ks ks.length := by
  have hi := (List.getElem?_eq_some_iff.mp hk).1
  have e1 : ks.getD i (noS, []) = kd := by rw [List.getD_eq_getElem?_getD, hk]; rfl
  unfold rowsOf
  refine List.mem_flatMap.mpr ⟨i, List.mem_range.mpr hi, ?_⟩
  rw [e1]
  exact List.mem_of_getElem? (kindRows_at hm)
theorem tb_get {K : PySem.W.Frag} {H : Hp} {d : Addr} {ks : List Kd} (tb : TableAt K H d (rowsOf ks ks.length)) (ok : KindsOk ks) {i j : Nat} {kd : Kd} {m : Mk} (hk : ks[i]? = some kd) (hm : kd.2[j]? = some m) : ∃ v, DGet H d (.str m.1) (some v) ∧ Im K H v (rowD (mkRow (ks.map (·.1)) i j m)) := by
  obtain ⟨n, hn⟩ := List.getElem?_of_mem (row_mem hk hm)
  have nd : ((rowsOf ks ks.length).map (·.1)).Nodup := by rw [rows_names]; exact ok.ndm
  obtain ⟨kvs, v, e, hv, iv⟩ := tb.get nd hn
  refine ⟨v, ?_, iv⟩
  have g : DGet H d (kV (Sum.inr m.1)) (valV kvs (Sum.inr m.1)) := .k e
  have hv' : valV kvs (Sum.inr m.1) = some v := hv
  rw [hv'] at g
  exact g
theorem wdI_place {ns : List Str} {dims : List Nat} (f : Str) : wdI dims (placeOf ns f) = wd ns dims f := by
  unfold wdI placeOf wd
  by_cases h : f ∈ ns
  · rw [if_pos h, if_pos h, if_neg (by omega), Int.toNat_natCast]
  · rw [if_neg h, if_neg h, if_pos rfl]
theorem place_in {ns : List Str} (f : Str) : placeOf ns f = -1 ∨ 0 ≤ placeOf ns f ∧ (placeOf ns f).toNat < ns.length := by
  unfold placeOf
  by_cases h : f ∈ ns
  · rw [if_pos h]
    have := List.idxOf_lt_length_of_mem h
    exact .inr ⟨by omega, by rw [Int.toNat_natCast]; exact this⟩
  · rw [if_neg h]; exact .inl rfl
section
variable {P : Program} {w : World} {K : PySem.W.Frag} {mg : Str → Option Value} {base : Heap}
def sp_reads (K : PySem.W.Frag) : Sp := fun vs H Q _ => ∃ v u z rs ks dims, vs = [v, u, z] ∧ Im K H v (rdsD rs) ∧ Im K H u (ksD ks) ∧ Im K H z (nsD dims) ∧ KindsOk ks ∧ dims.length = ks.length ∧ (∀ d ∈ dims, d ≤ 32) ∧ ReadsOk (ks.map (·.1)) dims rs ∧ ∀ H', Same H H' → Q (.bl true) H'
structure MapsOk (ks : List Kd) (dims : List Nat) (most : Nat) (maps : List (List (List Tm))) : Prop where
  lm : maps.length = ks.length
  lr : ∀ (i : Nat) kd row, ks[i]? = some kd → maps[i]? = some row → row.length = kd.2.length
  tm : ∀ (i : Nat) kd row, ks[i]? = some kd → maps[i]? = some row → ∀ (j : Nat) m ts, kd.2[j]? = some m → row[j]? = some ts → TermsOk (dims.getD i 0) (m.2.map (wd (ks.map (·.1)) dims)) most ts
def sp_maps (K : PySem.W.Frag) : Sp := fun vs H Q _ => ∃ v u z maps ks dims most, vs = [v, u, z, .int (most : Nat)] ∧ Im K H v (mpD maps) ∧ Im K H u (ksD ks) ∧ Im K H z (nsD dims) ∧ KindsOk ks ∧ dims.length = ks.length ∧ most ≤ 8000 ∧ MapsOk ks dims most maps ∧ ∀ H', Same H H' → Q (.bl true) H'
end
end K63

set_option Elab.async false
set_option linter.all false
set_option maxRecDepth 100000
set_option exponentiation.threshold 20000
set_option pp.deepTerms false
set_option pp.deepTerms.threshold 8
namespace K63
open PySem PySem.Spec PyProof.Rows L2 Ly Mt
/-! ### judges of odd data -/
def jRow (d : PyData) (lo hi : Int) : Bool := match d with
  | .tuple ds => decide (lo ≤ (ds.length : Int)) && decide ((ds.length : Int) ≤ hi)
  | _ => false
def jWithin (d : PyData) (lo hi : Int) : Bool := match d with
  | .int i => decide (lo ≤ i) && decide (i ≤ hi)
  | _ => false
def nmB (z : Str) : Bool := decide (1 ≤ z.length) && decide (z.length ≤ 10) && !decide (z = "fun" ∨ z = "kind" ∨ z = "number") && !((z.cps[0]?).map digC).getD false && z.cps.toList.all (fun c => lowC c || highC c || digC c)
def jName : PyData → Bool
  | .str z => nmB z
  | _ => false
def hdB (p : Nat → Bool) (z : Str) : Bool := ((z.cps[0]?).map p).getD false
def jLow : PyData → Bool
  | .str z => nmB z && hdB lowC z
  | _ => false
def jHigh : PyData → Bool
  | .str z => nmB z && hdB highC z
  | _ => false
def jVec (d : PyData) (n : Int) : Bool := match d with
  | .tuple ds => jRow d n n && ds.all jRatio
  | _ => false
theorem jRow_no {d : PyData} (h : jTup d = false) (lo hi : Int) : jRow d lo hi = false := by
  cases d <;> first | rfl | cases h
theorem jPair_no {d : PyData} (h : jTup d = false) : jPair d = false := by
  cases d <;> first | rfl | cases h
theorem _root_.Ly.Od.tup_or {K : PySem.W.Frag} {S : Addr → Prop} {H : Hp} {v : V} {d : PyData} (h : Od K S H v d) : (∃ a xs ds, v = .ref a ∧ d = .tuple ds ∧ ITup K H a xs ∧ OdAll K S H xs ds) ∨ jTup d = false := by
  cases h with
  | tup e r => exact .inl ⟨_, _, _, rfl, rfl, e, r⟩
  | _ => exact .inr rfl
theorem _root_.Ly.Od.str_or {K : PySem.W.Frag} {S : Addr → Prop} {H : Hp} {v : V} {d : PyData} (h : Od K S H v d) : (∃ z, v = .str z ∧ d = .str z ∧ z.length ≤ 100000) ∨ jStr d = false := by
  cases h with
  | str z l => exact .inl ⟨_, rfl, rfl, l⟩
  | _ => exact .inr rfl
theorem _root_.Ly.Od.int_or {K : PySem.W.Frag} {S : Addr → Prop} {H : Hp} {v : V} {d : PyData} (h : Od K S H v d) : (∃ i, v = .int i ∧ d = .int i ∧ SmI i) ∨ jInt d = false := by
  cases h with
  | int i l => exact .inl ⟨_, rfl, rfl, l⟩
  | _ => exact .inr rfl
theorem jName_no {d : PyData} (h : jStr d = false) : jName d = false := by cases d <;> first | rfl | cases h
theorem jLow_no {d : PyData} (h : jName d = false) : jLow d = false := by
  cases d <;> first | rfl | (show (nmB _ && _) = false; rw [show nmB _ = false from h]; rfl)
theorem jHigh_no {d : PyData} (h : jName d = false) : jHigh d = false := by
  cases d <;> first | rfl | (show (nmB _ && _) = false; rw [show nmB _ = false from h]; rfl)
theorem jWithin_no {d : PyData} (h : jInt d = false) (lo hi : Int) : jWithin d lo hi = false := by cases d <;> first | rfl | cases h
theorem jRatio_no {d : PyData} (h : jPair d = false) : jRatio d = false := by
  cases d with
  | tuple ds =>
    have h2 : ¬ ds.length = 2 := of_decide_eq_false h
    match ds, h2 with
    | [], _ => rfl
    | [x], _ => cases x <;> rfl
    | [_, _], h => exact absurd rfl h
    | x :: y :: _ :: _, _ => cases x <;> first | rfl | (cases y <;> rfl)
  | _ => rfl
/-- a judge's answers, one by one, in the list at D -/
theorem bools_snoc {D : Addr} {H H2 : Hp} {α : Type} {j : α → Bool} {ds : List α} {i : Nat} {d : α} (sm : Same H H2) (hD : H D = none) (eD : H2 D = some (.lst (((ds.take i).map j).map V.bl))) (hd : ds[i]? = some d) :
    Same H (upd H2 D (.lst ((((ds.take i).map j).map V.bl) ++ [.bl (j d)]))) ∧ (upd H2 D (.lst ((((ds.take i).map j).map V.bl) ++ [.bl (j d)]))) D = some (.lst (((ds.take (i + 1)).map j).map V.bl)) := by
  refine ⟨fun b o e => ?_, ?_⟩
  · rw [upd_ne (ne_of_none e hD)]; exact sm _ _ e
  · rw [upd_same, List.take_add_one, hd, List.map_append, List.map_append]; rfl
theorem all_map {α : Type} (j : α → Bool) (ds : List α) : ((ds.map j).all id) = ds.all j := by
  rw [List.all_map]; rfl
theorem dec_le (i j : Int) : (decide (V.int i = V.int j)) = decide (i = j) := decide_eq_decide.mpr ⟨fun h => V.int.inj h, fun h => by rw [h]⟩
section
variable {P : Program} {w : World} {K : PySem.W.Frag} {mg : Str → Option Value} {base : Heap}
abbrev s_is_int : Stmt := topS 7
theorem sc_is_int : FnScope ["thing"] ["thing"] (defScope s_is_int) := ⟨rfl, rfl, rfl, by decide +kernel, rfl, by decide +kernel, by decide +kernel⟩
def so_is_int (K : PySem.W.Frag) : Sp := fun vs H Q _ => ∃ S v d, vs = [v] ∧ Od K S H v d ∧ Q (.bl (jInt d)) H
theorem ok_is_int {f : Addr} {fd : FuncData} {k : Nat} (F : Fun K "is_int" "is_int" s_is_int f fd) (T : Tx K mg) : FnOk P w K mg base CX0 (k + 1) f fd ["thing"] (so_is_int K) := by
  have nd := sc_is_int.nd
  refine F.ok sc_is_int (fun vs H Q E h => ?_) (fun cdv A outer s H vs Q E hr h => ?_)
  · obtain ⟨_, _, _, rfl, _⟩ := h
    rfl
  · obtain ⟨S, v, d, rfl, hd, q⟩ := h
    refine ⟨_, (pss_one (ps_ret (pe_and (pe_callB (kcall_isi K) (by rfl) T.m_isinstance (by decide +kernel) (pa_cons (pv 0) (pa_cons (pe_bltn (v := .ty "int") (u := .type "int") (by rfl) T.m_int (by decide +kernel) rfl) pa_nil))) (pe_one (pe_not (pe_callB (kcall_isi K) (by rfl) T.m_isinstance (by decide +kernel) (pa_cons (pv 0) (pa_cons (pe_bltn (v := .ty "bool") (u := .type "bool") (by rfl) T.m_bool (by decide +kernel) rfl) pa_nil)))))))), ?_⟩
    refine ⟨v, rfl, v, _, .type (tyName d), _, jIntB d, rfl, .ty _, od_ty hd, kit_ty (kit_int d), jIntB d, rfl, ?_⟩
    rw [jInt_as] at q
    cases h1 : jIntB d with
    | false => rw [h1] at q; exact iteF q
    | true =>
      rw [h1] at q
      exact iteT ⟨v, rfl, v, _, .type (tyName d), _, jBool d, rfl, .ty _, od_ty hd, kit_ty (kit_bool d), jBool d, rfl, q⟩
abbrev s_within : Stmt := topS 8
theorem sc_within : FnScope ["thing", "low", "high"] ["thing", "low", "high"] (defScope s_within) := ⟨rfl, rfl, rfl, by decide +kernel, rfl, by decide +kernel, by decide +kernel⟩
def so_within (K : PySem.W.Frag) : Sp := fun vs H Q _ => ∃ S v d lo hi, vs = [v, .int lo, .int hi] ∧ Od K S H v d ∧ Q (.bl (jWithin d lo hi)) H
theorem ok_within {f : Addr} {fd : FuncData} {k : Nat} (F : Fun K "within" "within" s_within f fd) (T : Tx K mg){ki : Nat} (D_is_int : Def P w K mg base ki "is_int" s_is_int ["thing"] (so_is_int K)) (hk : ki ≤ k) : FnOk P w K mg base CX0 (k + 1) f fd ["thing", "low", "high"] (so_within K) := by
  have nd := sc_within.nd
  refine F.ok sc_within (fun vs H Q E h => ?_) (fun cdv A outer s H vs Q E hr h => ?_)
  · obtain ⟨_, _, _, _, _, rfl, _⟩ := h
    rfl
  · obtain ⟨S, v, d, lo, hi, rfl, hd, q⟩ := h
    refine ⟨_, (pss_one (ps_ret (pe_and (pe_def D_is_int (hr.mono (by omega)) rfl (pa_cons (pv 0) pa_nil)) (pe_one (pe_chain op_le op_le (pv 1) (pv 0) (pv 2)))))), ?_⟩
    refine ⟨v, rfl, S, v, d, rfl, hd, jInt d, rfl, ?_⟩
    rcases hd.int_or with ⟨i, rfl, rfl, _⟩ | n
    · refine iteT ⟨.int lo, rfl, .int i, rfl, _, _, rfl, rfl, _, rfl, ?_⟩
      by_cases h1 : lo ≤ i
      · rw [decide_eq_true h1]
        refine iteT ⟨.int hi, rfl, _, _, rfl, rfl, ?_⟩
        dsimp only
        have e : jWithin (.int i) lo hi = decide (i ≤ hi) := by
          show (decide (lo ≤ i) && _) = _
          rw [decide_eq_true h1]; rfl
        rw [e] at q
        exact q
      · rw [decide_eq_false h1]
        have e : jWithin (.int i) lo hi = false := by
          show (decide (lo ≤ i) && _) = _
          rw [decide_eq_false h1]; rfl
        rw [e] at q
        exact iteF q
    · rw [n]
      rw [jWithin_no n] at q
      exact iteF q
abbrev s_is_pair : Stmt := topS 9
theorem sc_is_pair : FnScope ["thing"] ["thing"] (defScope s_is_pair) := ⟨rfl, rfl, rfl, by decide +kernel, rfl, by decide +kernel, by decide +kernel⟩
def so_is_pair (K : PySem.W.Frag) : Sp := fun vs H Q _ => ∃ S v d, vs = [v] ∧ Od K S H v d ∧ Q (.bl (jPair d)) H
theorem ok_is_pair {f : Addr} {fd : FuncData} {k : Nat} (F : Fun K "is_pair" "is_pair" s_is_pair f fd) (T : Tx K mg) : FnOk P w K mg base CX0 (k + 1) f fd ["thing"] (so_is_pair K) := by
  have nd := sc_is_pair.nd
  refine F.ok sc_is_pair (fun vs H Q E h => ?_) (fun cdv A outer s H vs Q E hr h => ?_)
  · obtain ⟨_, _, _, rfl, _⟩ := h
    rfl
  · obtain ⟨S, v, d, rfl, hd, q⟩ := h
    refine ⟨_, (pss_one (ps_ret (pe_and (pe_callB (kcall_isi K) (by rfl) T.m_isinstance (by decide +kernel) (pa_cons (pv 0) (pa_cons (pe_bltn (v := .ty "tuple") (u := .type "tuple") (by rfl) T.m_tuple (by decide +kernel) rfl) pa_nil))) (pe_one (pe_cmpR op_eq (pe_callB (kcall_len K) (by rfl) T.m_len PySem.boot_len (pa_cons (pv 0) pa_nil)) pe_int (nomark _)))))), ?_⟩
    refine ⟨v, rfl, v, _, .type (tyName d), _, jTup d, rfl, .ty _, od_ty hd, kit_ty (kit_tup d), jTup d, rfl, ?_⟩
    rcases hd.tup_or with ⟨a, xs, ds, rfl, rfl, ha, hx⟩ | n
    · have l := hx.len
      refine iteT ⟨.ref a, rfl, a, xs, rfl, .inr ha.sq, rfl, ?_⟩
      have e : decide (V.int (xs.length : Nat) = V.int 2) = jPair (.tuple ds) := by
        show _ = decide (ds.length = 2)
        rw [dec_le]
        exact decide_eq_decide.mpr ⟨fun h => by omega, fun h => by omega⟩
      rw [e]
      exact q
    · rw [n]
      rw [jPair_no n] at q
      exact iteF q
abbrev s_is_row : Stmt := topS 10
theorem sc_is_row : FnScope ["thing", "low", "high"] ["thing", "low", "high"] (defScope s_is_row) := ⟨rfl, rfl, rfl, by decide +kernel, rfl, by decide +kernel, by decide +kernel⟩
def so_is_row (K : PySem.W.Frag) : Sp := fun vs H Q _ => ∃ S v d lo hi, vs = [v, .int lo, .int hi] ∧ Od K S H v d ∧ Q (.bl (jRow d lo hi)) H
theorem ok_is_row {f : Addr} {fd : FuncData} {k : Nat} (F : Fun K "is_row" "is_row" s_is_row f fd) (T : Tx K mg) : FnOk P w K mg base CX0 (k + 1) f fd ["thing", "low", "high"] (so_is_row K) := by
  have nd := sc_is_row.nd
  refine F.ok sc_is_row (fun vs H Q E h => ?_) (fun cdv A outer s H vs Q E hr h => ?_)
  · obtain ⟨_, _, _, _, _, rfl, _⟩ := h
    rfl
  · obtain ⟨S, v, d, lo, hi, rfl, hd, q⟩ := h
    refine ⟨_, (pss_one (ps_ret (pe_and (pe_callB (kcall_isi K) (by rfl) T.m_isinstance (by decide +kernel) (pa_cons (pv 0) (pa_cons (pe_bltn (v := .ty "tuple") (u := .type "tuple") (by rfl) T.m_tuple (by decide +kernel) rfl) pa_nil))) (pe_one (pe_chain op_le op_le (pv 1) (pe_callB (kcall_len K) (by rfl) T.m_len PySem.boot_len (pa_cons (pv 0) pa_nil)) (pv 2)))))), ?_⟩
    refine ⟨v, rfl, v, _, .type (tyName d), _, jTup d, rfl, .ty _, od_ty hd, kit_ty (kit_tup d), jTup d, rfl, ?_⟩
    rcases hd.tup_or with ⟨a, xs, ds, rfl, rfl, ha, hx⟩ | n
    · have l := hx.len
      refine iteT ⟨.int lo, rfl, .ref a, rfl, a, xs, rfl, .inr ha.sq, _, _, rfl, rfl, _, rfl, ?_⟩
      rw [l]
      by_cases h1 : lo ≤ (ds.length : Int)
      · rw [decide_eq_true h1]
        refine iteT ⟨.int hi, rfl, _, _, rfl, rfl, ?_⟩
        dsimp only
        have e : jRow (.tuple ds) lo hi = decide ((ds.length : Int) ≤ hi) := by
          show (decide _ && _) = _
          rw [decide_eq_true h1]; rfl
        rw [e] at q
        exact q
      · rw [decide_eq_false h1]
        have e : jRow (.tuple ds) lo hi = false := by
          show (decide _ && _) = _
          rw [decide_eq_false h1]; rfl
        rw [e] at q
        exact iteF q
    · rw [n]
      rw [jRow_no n] at q
      exact iteF q
abbrev s_is_ratio : Stmt := topS 17
theorem sc_is_ratio : FnScope ["thing"] ["thing"] (defScope s_is_ratio) := ⟨rfl, rfl, rfl, by decide +kernel, rfl, by decide +kernel, by decide +kernel⟩
def so_is_ratio (K : PySem.W.Frag) : Sp := fun vs H Q _ => ∃ S v d, vs = [v] ∧ Od K S H v d ∧ Q (.bl (jRatio d)) H
theorem ok_is_ratio {f : Addr} {fd : FuncData} {k : Nat} (F : Fun K "is_ratio" "is_ratio" s_is_ratio f fd) (T : Tx K mg){ki : Nat} (D_is_pair : Def P w K mg base ki "is_pair" s_is_pair ["thing"] (so_is_pair K)) (D_is_int : Def P w K mg base ki "is_int" s_is_int ["thing"] (so_is_int K)) (hk : ki ≤ k) : FnOk P w K mg base CX0 (k + 1) f fd ["thing"] (so_is_ratio K) := by
  have nd := sc_is_ratio.nd
  refine F.ok sc_is_ratio (fun vs H Q E h => ?_) (fun cdv A outer s H vs Q E hr h => ?_)
  · obtain ⟨_, _, _, rfl, _⟩ := h
    rfl
  · obtain ⟨S, v, d, rfl, hd, q⟩ := h
    refine ⟨_, (pss_cons (ps_if (PW.pt (pw_or (pt_not (pt_val (pe_def D_is_pair (hr.mono (by omega)) rfl (pa_cons (pv 0) pa_nil)))) (pw_or (pt_not (pt_val (pe_def D_is_int (hr.mono (by omega)) rfl (pa_cons (pe_ix (kix_tup K) (pv 0) pe_int (fun _ _ => rfl)) pa_nil)))) (pw_or (pt_not (pt_val (pe_def D_is_int (hr.mono (by omega)) rfl (pa_cons (pe_ix (kix_tup K) (pv 0) pe_int (fun _ _ => rfl)) pa_nil)))) (pw_or1 (pt_cmpR op_lt (pe_ix (kix_tup K) (pv 0) pe_int (fun _ _ => rfl)) pe_int (nomark _)))))))
        (pss_one (ps_ret pe_bl))
        pss_nil)
      (pss_one (ps_ret (pe_cmpR op_eq (pe_callBfun cr_gcd (by rfl) T.g_gcd (pa_cons (pe_ix (kix_tup K) (pv 0) pe_int (fun _ _ => rfl)) (pa_cons (pe_ix (kix_tup K) (pv 0) pe_int (fun _ _ => rfl)) pa_nil))) pe_int (nomark _))))), ?_⟩
    refine ⟨v, rfl, S, v, d, rfl, hd, jPair d, rfl, ?_⟩
    cases hp : jPair d with
    | false =>
      rw [jRatio_no hp] at q
      exact iteT q
    | true =>
      refine iteF ?_
      rcases hd.tup_or with ⟨a, xs, ds, rfl, rfl, ha, hx⟩ | n
      · have h2 : ds.length = 2 := of_decide_eq_true hp
        obtain ⟨d0, d1, rfl⟩ : ∃ d0 d1, ds = [d0, d1] := by
          match ds, h2 with
          | [x, y], _ => exact ⟨x, y, rfl⟩
        obtain ⟨v0, r, rfl, i0, hr0⟩ := hx.cons_inv
        obtain ⟨v1, r', rfl, i1, hr1⟩ := hr0.cons_inv
        obtain rfl := hr1.nil_inv
        refine ⟨.ref a, rfl, a, _, 0, _, rfl, rfl, ha.sq, atI_nat (j := 0) rfl, S, v0, d0, rfl, i0, jInt d0, rfl, ?_⟩
        rcases i0.int_or with ⟨t, rfl, rfl, _⟩ | n0
        · refine iteF ⟨.ref a, rfl, a, _, 1, _, rfl, rfl, ha.sq, atI_nat (j := 1) rfl, S, v1, d1, rfl, i1, jInt d1, rfl, ?_⟩
          rcases i1.int_or with ⟨b, rfl, rfl, _⟩ | n1
          · refine iteF ⟨.ref a, rfl, a, _, 1, _, rfl, rfl, ha.sq, atI_nat (j := 1) rfl, _, _, rfl, rfl, _, rfl, ?_⟩
            have ej : jRatio (.tuple [.int t, .int b]) = (decide (1 ≤ b) && decide (Nat.gcd t.natAbs b.natAbs = 1)) := rfl
            rw [ej] at q
            by_cases hb : b < 1
            · rw [decide_eq_true hb]
              rw [decide_eq_false (show ¬ 1 ≤ b by omega)] at q
              exact iteT q
            · rw [decide_eq_false hb]
              rw [decide_eq_true (show 1 ≤ b by omega)] at q
              refine iteF ⟨.ref a, rfl, a, _, 0, _, rfl, rfl, ha.sq, atI_nat (j := 0) rfl, .ref a, rfl, a, _, 1, _, rfl, rfl, ha.sq, atI_nat (j := 1) rfl, _, _, rfl, rfl, ?_⟩
              have e2 : decide (V.int ((Nat.gcd t.natAbs b.natAbs : Nat) : Int) = V.int 1) = decide (Nat.gcd t.natAbs b.natAbs = 1) := by
                rw [dec_le]
                exact decide_eq_decide.mpr ⟨fun h => by omega, fun h => by omega⟩
              rw [e2]
              exact q
          · rw [n1]
            have e : jRatio (.tuple [.int t, d1]) = false := by cases d1 <;> first | rfl | cases n1
            rw [e] at q
            exact iteT q
        · rw [n0]
          have e : jRatio (.tuple [d0, d1]) = false := by cases d0 <;> first | rfl | cases n0
          rw [e] at q
          exact iteT q
      · rw [jPair_no n] at hp
        cases hp
abbrev s_is_name : Stmt := topS 11
theorem sc_is_name : FnScope ["thing", "sign"] ["thing"] (defScope s_is_name) := ⟨rfl, rfl, rfl, by decide +kernel, rfl, by decide +kernel, by decide +kernel⟩
def so_is_name (K : PySem.W.Frag) : Sp := fun vs H Q _ => ∃ S v d, vs = [v] ∧ Od K S H v d ∧ ∀ H', Same H H' → Q (.bl (jName d)) H'
theorem ok_is_name {f : Addr} {fd : FuncData} {k : Nat} (F : Fun K "is_name" "is_name" s_is_name f fd) (T : Tx K mg) : FnOk P w K mg base CX0 (k + 1) f fd ["thing"] (so_is_name K) := by
  have nd := sc_is_name.nd
  obtain ⟨akw, g_KEYWORDS0, ikw⟩ := T.kws
  have g_KEYWORDS : ∃ u, mg "KEYWORDS" = some u ∧ L2.RelV (.ref akw) u := ⟨_, g_KEYWORDS0, rfl⟩
  refine F.ok sc_is_name (fun vs H Q E h => ?_) (fun cdv A outer s H vs Q E hr h => ?_)
  · obtain ⟨_, _, _, rfl, _⟩ := h
    rfl
  · obtain ⟨S, v, d, rfl, hd, q⟩ := h
    refine ⟨_, (pss_cons (ps_if (PW.pt (pw_or (pt_not (pt_val (pe_callB (kcall_isi K) (by rfl) T.m_isinstance (by decide +kernel) (pa_cons (pv 0) (pa_cons (pe_bltn (v := .ty "str") (u := .type "str") (by rfl) T.m_str (by decide +kernel) rfl) pa_nil))))) (pw_or1 (pt_not (pt_chain op_le op_le pe_int (pe_callB call_len_str (by rfl) T.m_len PySem.boot_len (pa_cons (pv 0) pa_nil)) (pe_gv rfl T.g_LONGEST))))))
        (pss_one (ps_ret pe_bl))
        pss_nil)
      (pss_cons (ps_if (PW.pt (pw_or (pt_cmpR op_in_seq (pv 0) (pe_gv rfl g_KEYWORDS) (by rfl)) (pw_or1 (pt_cmpR op_in_sign (pe_ix ix_str (pv 0) pe_int (fun _ _ => rfl)) (pe_gv rfl T.g_DIGITS) (by rfl)))))
        (pss_one (ps_ret pe_bl))
        pss_nil)
      (pss_one (ps_ret (pe_callB (kcr_all K) (by rfl) T.m_all (by decide +kernel) (pa_cons (pe_lc (own := [("sign", 1)]) (g := gName 1) (tt := tYes) rfl nd (pi_str (pv 0)) (blkOk_by (by rfl)) (fun _ _ _ _ _ => (pg_name (i := 1) nd rfl (.inl rfl))) (fun _ _ _ _ _ => pts_nil) (fun _ _ _ _ _ => (pe_or (pe_cmpR op_in_sign (pv 1) (pe_gv rfl T.g_LOW) (by rfl)) (pe_or (pe_cmpR op_in_sign (pv 1) (pe_gv rfl T.g_HIGH) (by rfl)) (pe_one (pe_cmpR op_in_sign (pv 1) (pe_gv rfl T.g_DIGITS) (by rfl))))))) pa_nil)))))), ?_⟩
    refine ⟨v, rfl, v, _, .type (tyName d), _, jStr d, rfl, .ty _, od_ty hd, kit_ty (kit_str d), jStr d, rfl, ?_⟩
    rcases hd.str_or with ⟨z, rfl, rfl, lz⟩ | n
    rotate_left
    · rw [n]
      have := q H (Same.refl H)
      rw [jName_no n] at this
      exact iteT this
    have sz : z.length ≤ sizeLine := Nat.le_trans lz (by decide)
    have q0 : nmB z = false → Q (.bl false) H := fun e => by
      have := q H (Same.refl H)
      rw [show jName (.str z) = false from e] at this
      exact this
    refine iteF ⟨.str z, rfl, z, rfl, sz, _, _, rfl, rfl, _, rfl, ?_⟩
    by_cases l1 : 1 ≤ z.length
    rotate_left
    · rw [decide_eq_false (show ¬ (1 : Int) ≤ (z.length : Int) by omega)]
      have q1 := q0 (by unfold nmB; rw [decide_eq_false l1]; rfl)
      exact iteF ⟨false, rfl, iteT q1⟩
    rw [decide_eq_true (show (1 : Int) ≤ (z.length : Int) by omega)]
    refine iteT ⟨_, _, rfl, rfl, _, rfl, ?_⟩
    by_cases l2 : z.length ≤ 10
    rotate_left
    · rw [decide_eq_false (show ¬ (z.length : Int) ≤ 10 by omega)]
      exact iteT (q0 (by unfold nmB; rw [decide_eq_false l2, decide_eq_true l1]; rfl))
    rw [decide_eq_true (show (z.length : Int) ≤ 10 by omega)]
    refine iteF ⟨.str z, rfl, akw, [.str "fun", .str "kind", .str "number"], rfl, .inr (ikw H).sq, rfl, rfl, _, rfl, ?_⟩
    have hk : inV (V.str z) [.str "fun", .str "kind", .str "number"] = decide (z = "fun" ∨ z = "kind" ∨ z = "number") := by
      have e : ∀ x y : Str, eqV (V.str x) (V.str y) = decide (x = y) := fun x y => by
        by_cases h : x = y
        · subst h; simp [eqV]
        · simp [eqV, h]
      show (eqV (V.str "fun") (V.str z) || (eqV (V.str "kind") (V.str z) || (eqV (V.str "number") (V.str z) || false))) = _
      rw [e, e, e, Bool.or_false, ← Bool.decide_or, ← Bool.decide_or]
      exact decide_eq_decide.mpr ⟨fun h => by rcases h with h | h | h; exact .inl h.symm; exact .inr (.inl h.symm); exact .inr (.inr h.symm), fun h => by rcases h with h | h | h; exact .inl h.symm; exact .inr (.inl h.symm); exact .inr (.inr h.symm)⟩
    rw [hk]
    by_cases kw : z = "fun" ∨ z = "kind" ∨ z = "number"
    · rw [decide_eq_true kw]
      exact iteT (q0 (by unfold nmB; rw [decide_eq_true kw, Bool.not_true, Bool.and_false]; rfl))
    rw [decide_eq_false kw]
    obtain ⟨c0, h0⟩ : ∃ c0, z.cps[0]? = some c0 := ⟨z.cps[0]'(show 0 < z.length by omega), Array.getElem?_eq_getElem _⟩
    refine iteF ⟨.str z, rfl, z, 0, c0, rfl, rfl, sz, atI_nat (j := 0) (by rw [Array.getElem?_toList]; exact h0), c0, digs, rfl, rfl, _, rfl, ?_⟩
    have en : nmB z = (!digC c0 && z.cps.toList.all (fun c => lowC c || highC c || digC c)) := by
      unfold nmB
      rw [decide_eq_true l1, decide_eq_true l2, decide_eq_false kw, h0]
      rfl
    cases hdg : digC c0 with
    | true =>
      rw [show decide (c0 ∈ digs.cps.toList) = true from hdg]
      exact iteT (q0 (by rw [en, hdg]; rfl))
    | false =>
      rw [show decide (c0 ∈ digs.cps.toList) = false from hdg]
      rw [hdg] at en
      refine iteF ⟨.str z, rfl, z, rfl, fun D2 hD => ?_⟩
      refine lc_all (walk_str (z := z)) (fun i H2 => Same H H2 ∧ H2 D2 = some (.lst (((z.cps.toList.take i).map fun c => lowC c || highC c || digC c).map V.bl))) ⟨same_new hD, upd_same⟩ (fun _ _ _ _ => trivial) (fun i x H2 H3 hi zz y => ?_) (fun H2 zz => ?_)
      · obtain ⟨sm, eD⟩ := zz
        obtain ⟨rfl, c, hc, rfl⟩ := y
        have hc' : z.cps.toList[i]? = some c := by rw [Array.getElem?_toList]; exact hc
        have fin := bools_snoc sm hD eD hc'
        have la : (((z.cps.toList.take i).map fun c => lowC c || highC c || digC c).map V.bl).length < sizeLine := by
          rw [List.length_map, List.length_map, List.length_take, Array.length_toList]
          exact small1000 (by have h2 : z.length = z.cps.size := rfl; omega)
        refine ⟨rfl, .str ⟨#[c]⟩, rfl, c, lows, rfl, rfl, _, rfl, ?_⟩
        cases h1 : lowC c with
        | true =>
          rw [show decide (c ∈ lows.cps.toList) = true from h1]
          have e : (lowC c || highC c || digC c) = true := by rw [h1]; rfl
          rw [e] at fin
          exact iteT ⟨_, eD, la, fin⟩
        | false =>
          rw [show decide (c ∈ lows.cps.toList) = false from h1]
          refine iteF ⟨.str ⟨#[c]⟩, rfl, c, highs, rfl, rfl, _, rfl, ?_⟩
          cases h2 : highC c with
          | true =>
            rw [show decide (c ∈ highs.cps.toList) = true from h2]
            have e : (lowC c || highC c || digC c) = true := by rw [h1, h2]; rfl
            rw [e] at fin
            exact iteT ⟨_, eD, la, fin⟩
          | false =>
            rw [show decide (c ∈ highs.cps.toList) = false from h2]
            refine iteF ⟨.str ⟨#[c]⟩, rfl, c, digs, rfl, rfl, ?_⟩
            have e : (lowC c || highC c || digC c) = decide (c ∈ digs.cps.toList) := by rw [h1, h2]; rfl
            rw [e] at fin
            exact ⟨_, eD, la, fin⟩
      · obtain ⟨sm, eD⟩ := zz
        rw [List.take_of_length_le (by rw [Array.length_toList]; exact Nat.le_refl _)] at eD
        refine ⟨D2, _, rfl, .of eD, ?_⟩
        rw [all_map]
        have := q _ sm
        rw [show jName (.str z) = nmB z from rfl, en] at this
        exact this
abbrev s_is_low : Stmt := topS 12
theorem sc_is_low : FnScope ["thing"] ["thing"] (defScope s_is_low) := ⟨rfl, rfl, rfl, by decide +kernel, rfl, by decide +kernel, by decide +kernel⟩
def so_is_low (K : PySem.W.Frag) : Sp := fun vs H Q _ => ∃ S v d, vs = [v] ∧ Od K S H v d ∧ ∀ H', Same H H' → Q (.bl (jLow d)) H'
theorem ok_is_low {f : Addr} {fd : FuncData} {k : Nat} (F : Fun K "is_low" "is_low" s_is_low f fd) (T : Tx K mg){ki : Nat} (D_is_name : Def P w K mg base ki "is_name" s_is_name ["thing"] (so_is_name K)) (hk : ki ≤ k) : FnOk P w K mg base CX0 (k + 1) f fd ["thing"] (so_is_low K) := by
  have nd := sc_is_low.nd
  refine F.ok sc_is_low (fun vs H Q E h => ?_) (fun cdv A outer s H vs Q E hr h => ?_)
  · obtain ⟨_, _, _, rfl, _⟩ := h
    rfl
  · obtain ⟨S, v, d, rfl, hd, q⟩ := h
    refine ⟨_, (pss_one (ps_ret (pe_and (pe_def D_is_name (hr.mono (by omega)) rfl (pa_cons (pv 0) pa_nil)) (pe_one (pe_cmpR op_in_sign (pe_ix ix_str (pv 0) pe_int (fun _ _ => rfl)) (pe_gv rfl T.g_LOW) (by rfl)))))), ?_⟩
    refine ⟨v, rfl, S, v, d, rfl, hd, fun H' sm => ⟨jName d, rfl, ?_⟩⟩
    cases hn : jName d with
    | false =>
      have := q H' sm
      rw [jLow_no hn] at this
      exact iteF this
    | true =>
      rcases hd.str_or with ⟨z, rfl, rfl, lz⟩ | n
      · have hz : nmB z = true := hn
        have l1 : 1 ≤ z.length := by
          unfold nmB at hz
          simp only [Bool.and_eq_true, decide_eq_true_eq] at hz
          exact hz.1.1.1.1
        obtain ⟨c0, h0⟩ : ∃ c0, z.cps[0]? = some c0 := ⟨z.cps[0]'(show 0 < z.length by omega), Array.getElem?_eq_getElem _⟩
        refine iteT ⟨.str z, rfl, z, 0, c0, rfl, rfl, Nat.le_trans lz (by decide), atI_nat (j := 0) (by rw [Array.getElem?_toList]; exact h0), c0, lows, rfl, rfl, ?_⟩
        have e : jLow (.str z) = decide (c0 ∈ lows.cps.toList) := by
          show (nmB z && hdB lowC z) = _
          unfold hdB
          rw [hz, h0]; rfl
        have := q H' sm
        rw [e] at this
        exact this
      · rw [jName_no n] at hn
        cases hn
abbrev s_is_high : Stmt := topS 13
theorem sc_is_high : FnScope ["thing"] ["thing"] (defScope s_is_high) := ⟨rfl, rfl, rfl, by decide +kernel, rfl, by decide +kernel, by decide +kernel⟩
def so_is_high (K : PySem.W.Frag) : Sp := fun vs H Q _ => ∃ S v d, vs = [v] ∧ Od K S H v d ∧ ∀ H', Same H H' → Q (.bl (jHigh d)) H'
theorem ok_is_high {f : Addr} {fd : FuncData} {k : Nat} (F : Fun K "is_high" "is_high" s_is_high f fd) (T : Tx K mg){ki : Nat} (D_is_name : Def P w K mg base ki "is_name" s_is_name ["thing"] (so_is_name K)) (hk : ki ≤ k) : FnOk P w K mg base CX0 (k + 1) f fd ["thing"] (so_is_high K) := by
  have nd := sc_is_high.nd
  refine F.ok sc_is_high (fun vs H Q E h => ?_) (fun cdv A outer s H vs Q E hr h => ?_)
  · obtain ⟨_, _, _, rfl, _⟩ := h
    rfl
  · obtain ⟨S, v, d, rfl, hd, q⟩ := h
    refine ⟨_, (pss_one (ps_ret (pe_and (pe_def D_is_name (hr.mono (by omega)) rfl (pa_cons (pv 0) pa_nil)) (pe_one (pe_cmpR op_in_sign (pe_ix ix_str (pv 0) pe_int (fun _ _ => rfl)) (pe_gv rfl T.g_HIGH) (by rfl)))))), ?_⟩
    refine ⟨v, rfl, S, v, d, rfl, hd, fun H' sm => ⟨jName d, rfl, ?_⟩⟩
    cases hn : jName d with
    | false =>
      have := q H' sm
      rw [jHigh_no hn] at this
      exact iteF this
    | true =>
      rcases hd.str_or with ⟨z, rfl, rfl, lz⟩ | n
      · have hz : nmB z = true := hn
        have l1 : 1 ≤ z.length := by
          unfold nmB at hz
          simp only [Bool.and_eq_true, decide_eq_true_eq] at hz
          exact hz.1.1.1.1
        obtain ⟨c0, h0⟩ : ∃ c0, z.cps[0]? = some c0 := ⟨z.cps[0]'(show 0 < z.length by omega), Array.getElem?_eq_getElem _⟩
        refine iteT ⟨.str z, rfl, z, 0, c0, rfl, rfl, Nat.le_trans lz (by decide), atI_nat (j := 0) (by rw [Array.getElem?_toList]; exact h0), c0, highs, rfl, rfl, ?_⟩
        have e : jHigh (.str z) = decide (c0 ∈ highs.cps.toList) := by
          show (nmB z && hdB highC z) = _
          unfold hdB
          rw [hz, h0]; rfl
        have := q H' sm
        rw [e] at this
        exact this
      · rw [jName_no n] at hn
        cases hn
abbrev s_all_unlike : Stmt := topS 14
theorem sc_all_unlike : FnScope ["names"] ["names"] (defScope s_all_unlike) := ⟨rfl, rfl, rfl, by decide +kernel, rfl, by decide +kernel, by decide +kernel⟩
def so_unlike (K : PySem.W.Frag) : Sp := fun vs H Q _ => ∃ (a : Addr) (ys : List Str), vs = [.ref a] ∧ H a = some (.lst (ys.map V.str)) ∧ ys.length ≤ 1000 ∧ Q (.bl (decide ys.Nodup)) H
theorem ok_all_unlike {f : Addr} {fd : FuncData} {k : Nat} (F : Fun K "all_unlike" "all_unlike" s_all_unlike f fd) (T : Tx K mg) : FnOk P w K mg base CX0 (k + 1) f fd ["names"] (so_unlike K) := by
  have nd := sc_all_unlike.nd
  refine F.ok sc_all_unlike (fun vs H Q E h => ?_) (fun cdv A outer s H vs Q E hr h => ?_)
  · obtain ⟨_, _, rfl, _⟩ := h
    rfl
  · obtain ⟨a, ys, rfl, ea, few, q⟩ := h
    refine ⟨_, (pss_one (ps_ret (pe_cmpR op_eq (pe_lenSetG K rfl T.m_len rfl T.m_set (pv 0)) (pe_callB (kcall_len K) (by rfl) T.m_len PySem.boot_len (pa_cons (pv 0) pa_nil)) (nomark _)))), ?_⟩
    refine ⟨.ref a, rfl, a, ys, rfl, .of ea, few, .ref a, rfl, a, _, rfl, .inl (.of ea), rfl, ?_⟩
    rw [List.length_map, dec_le, dist_all]
    exact q
abbrev s_is_vector_of : Stmt := topS 27
theorem sc_is_vector_of : FnScope ["thing", "size", "entry"] ["thing", "size"] (defScope s_is_vector_of) := ⟨rfl, rfl, rfl, by decide +kernel, rfl, by decide +kernel, by decide +kernel⟩
def so_vec (K : PySem.W.Frag) : Sp := fun vs H Q _ => ∃ (S : Addr → Prop) (v : V) (d : PyData) (n : Int), vs = [v, .int n] ∧ n ≤ 1000 ∧ Od K S H v d ∧ ∀ H', Same H H' → Q (.bl (jVec d n)) H'
theorem ok_is_vector_of {f : Addr} {fd : FuncData} {k : Nat} (F : Fun K "is_vector_of" "is_vector_of" s_is_vector_of f fd) (T : Tx K mg){k1 : Nat} (D_is_row : Def P w K mg base k1 "is_row" s_is_row ["thing", "low", "high"] (so_is_row K)) {k2 : Nat} (D_is_ratio : Def P w K mg base k2 "is_ratio" s_is_ratio ["thing"] (so_is_ratio K)) (e1 : k1 ≤ k) (e2 : k2 ≤ k) : FnOk P w K mg base CX0 (k + 1) f fd ["thing", "size"] (so_vec K) := by
  have nd := sc_is_vector_of.nd
  refine F.ok sc_is_vector_of (fun vs H Q E h => ?_) (fun cdv A outer s H vs Q E hr h => ?_)
  · obtain ⟨_, _, _, _, rfl, _⟩ := h
    rfl
  · obtain ⟨S, v, d, n, rfl, n1000, hd, q⟩ := h
    refine ⟨_, (pss_one (ps_ret (pe_and (pe_def D_is_row (hr.mono (by omega)) rfl (pa_cons (pv 0) (pa_cons (pv 1) (pa_cons (pv 1) pa_nil)))) (pe_one (pe_callB (kcr_all K) (by rfl) T.m_all (by decide +kernel) (pa_cons (pe_lc (own := [("entry", 2)]) (g := gName 2) (tt := tYes) rfl nd (kpi_tup K (pv 0)) (blkOk_by (by rfl)) (fun _ _ _ _ _ => (pg_name (i := 2) nd rfl (.inl rfl))) (fun _ _ _ _ _ => pts_nil) (fun _ _ _ _ _ => (pe_def D_is_ratio (hr.mono (by omega)) rfl (pa_cons (pv 2) pa_nil)))) pa_nil)))))), ?_⟩
    refine ⟨v, rfl, .int n, rfl, .int n, rfl, S, v, d, n, n, rfl, hd, jRow d n n, rfl, ?_⟩
    rcases hd.tup_or with ⟨a, xs, ds, rfl, rfl, ha, hx⟩ | no
    · have l := hx.len
      have ev : jVec (.tuple ds) n = (jRow (.tuple ds) n n && ds.all jRatio) := rfl
      rw [ev] at q
      cases hrow : jRow (.tuple ds) n n with
      | false =>
        have := q H (Same.refl H)
        rw [hrow] at this
        exact iteF this
      | true =>
        rw [hrow] at q
        have ln : (ds.length : Int) ≤ n := by
          have := hrow
          unfold jRow at this
          simp only [Bool.and_eq_true, decide_eq_true_eq] at this
          exact this.2
        refine iteT ⟨.ref a, rfl, a, rfl, ⟨_, ha.sq⟩, fun D hD => ?_⟩
        refine lc_all (walk_tup (xs := xs)) (fun i H2 => Same H H2 ∧ H2 D = some (.lst (((ds.take i).map jRatio).map V.bl))) ⟨same_new hD, upd_same⟩ (fun i H2 _ z => (ha.mono (tk_same z.1)).sq) (fun i x H2 H3 hi z y => ?_) (fun H2 z => ?_)
        · obtain ⟨sm, eD⟩ := z
          obtain ⟨rfl, hx1⟩ := y
          obtain ⟨di, hdi, idi⟩ := hx.getV hx1
          exact ⟨rfl, x, rfl, S, x, di, rfl, idi.mono (fo_same sm), _, eD, small1000 (by rw [List.length_map, List.length_map, List.length_take]; omega), bools_snoc sm hD eD hdi⟩
        · obtain ⟨sm, eD⟩ := z
          rw [l, List.take_of_length_le (Nat.le_refl _)] at eD
          refine ⟨D, _, rfl, .of eD, ?_⟩
          rw [all_map]
          exact q _ sm
    · have := q H (Same.refl H)
      have ev : jVec d n = false := by cases d <;> first | rfl | cases no
      rw [ev] at this
      rw [jRow_no no]
      exact iteF this
end
end K63

set_option Elab.async false
set_option linter.all false
set_option maxRecDepth 100000
set_option exponentiation.threshold 20000
set_option pp.deepTerms false
set_option pp.deepTerms.threshold 8
namespace K63
open PySem PySem.Spec PyProof.Rows L2 Ly Mt
/-! ### kinds, judged -/
def its : PyData → List PyData
  | .tuple ds => ds
  | _ => []
def p0 : PyData → PyData
  | .tuple (a :: _) => a
  | _ => .none
def p1 : PyData → PyData
  | .tuple (_ :: b :: _) => b
  | _ => .none
def p2 : PyData → PyData
  | .tuple (_ :: _ :: c :: _) => c
  | _ => .none
def stO : PyData → Str
  | .str z => z
  | _ => Str.empty
def jMk0 (m : PyData) : Bool := jPair m && (jHigh (p0 m) && jRow (p1 m) 0 4)
def jKd1 (k : PyData) : Bool := jPair k && (jHigh (p0 k) && jRow (p1 k) 1 6)
def jKd0 (k : PyData) : Bool := jKd1 k && (its (p1 k)).all jMk0
def nmsD (d : PyData) : List Str := (its d).map fun k => stO (p0 k)
def mksD (d : PyData) : List PyData := (its d).flatMap fun k => its (p1 k)
def jFld (ns : List Str) : PyData → Bool
  | .str z => decide (z = "number") || decide (z ∈ ns)
  | _ => false
def jMk2 (ns : List Str) (m : PyData) : Bool := (its (p1 m)).all (jFld ns)
def jKinds (d : PyData) : Bool := jRow d 1 6 && ((its d).all jKd0 && (decide (nmsD d).Nodup && (decide ((mksD d).map fun m => stO (p0 m)).Nodup && (mksD d).all (jMk2 (nmsD d)))))
theorem all_no {α : Type} {l : List α} {f : α → Bool} {i : Nat} {x : α} (h : l[i]? = some x) (e : f x = false) : l.all f = false := by
  rw [List.all_eq_false]
  exact ⟨x, List.mem_of_getElem? h, by rw [e]; exact Bool.false_ne_true⟩
theorem all_get' {α : Type} {l : List α} {f : α → Bool} (h : l.all f = true) {i : Nat} {x : α} (hx : l[i]? = some x) : f x = true := List.all_eq_true.mp h x (List.mem_of_getElem? hx)
theorem jFld_no {ns : List Str} {d : PyData} (h : jStr d = false) : jFld ns d = false := by cases d <;> first | rfl | cases h
theorem jHigh_str {d : PyData} (h : jHigh d = true) : ∃ z, d = .str z := by
  cases d <;> first | exact ⟨_, rfl⟩ | cases h
theorem jRow_tup {d : PyData} {lo hi : Int} (h : jRow d lo hi = true) : ∃ ds, d = .tuple ds ∧ lo ≤ (ds.length : Int) ∧ (ds.length : Int) ≤ hi := by
  cases d with
  | tuple ds =>
    refine ⟨ds, rfl, ?_⟩
    unfold jRow at h
    simpa only [Bool.and_eq_true, decide_eq_true_eq] using h
  | _ => cases h
theorem _root_.Ly.Od.pair {K : PySem.W.Frag} {S : Addr → Prop} {H : Hp} {v : V} {d : PyData} (h : Od K S H v d) (j : jPair d = true) : ∃ a x y, v = .ref a ∧ d = .tuple [p0 d, p1 d] ∧ ITup K H a [x, y] ∧ Od K S H x (p0 d) ∧ Od K S H y (p1 d) := by
  rcases h.tup_or with ⟨a, xs, ds, rfl, rfl, ha, hx⟩ | n
  · have h2 : ds.length = 2 := of_decide_eq_true j
    obtain ⟨d0, d1, rfl⟩ : ∃ d0 d1, ds = [d0, d1] := by
      match ds, h2 with
      | [x, y], _ => exact ⟨x, y, rfl⟩
    obtain ⟨v0, r, rfl, i0, hr0⟩ := hx.cons_inv
    obtain ⟨v1, r', rfl, i1, hr1⟩ := hr0.cons_inv
    obtain rfl := hr1.nil_inv
    exact ⟨a, v0, v1, rfl, rfl, ha, i0, i1⟩
  · rw [jPair_no n] at j
    cases j
mutual
theorem _root_.Ly.Od.here {K : PySem.W.Frag} {S : Addr → Prop} {H : Hp} : ∀ {v : V} {d : PyData}, Od K S H v d → Od K (fun a => S a ∧ H a ≠ none) H v d
  | _, _, .non => .non
  | _, _, .bl b => .bl b
  | _, _, .int i l => .int i l
  | _, _, .str x l => .str x l
  | _, _, .tup e r => .tup e (Ly.OdAll.here r)
  | _, _, .lst s b e r => .lst ⟨s, by rw [e]; exact Option.some_ne_none _⟩ b e (Ly.OdAll.here r)
  | _, _, .dic s e => .dic ⟨s, by rw [e]; exact Option.some_ne_none _⟩ e
theorem _root_.Ly.OdAll.here {K : PySem.W.Frag} {S : Addr → Prop} {H : Hp} : ∀ {vs : List V} {ds : List PyData}, OdAll K S H vs ds → OdAll K (fun a => S a ∧ H a ≠ none) H vs ds
  | _, _, .nil => .nil
  | _, _, .cons a r => .cons (Ly.Od.here a) (Ly.OdAll.here r)
end
theorem fo_lst {S : Addr → Prop} {H : Hp} {p : Addr} {xs : List V} {o : HO} (h : H p = some (.lst xs)) (n : ∀ a, S a → a ≠ p) : Fo S H (upd H p o) := ⟨tk_lst h, fun a u s e => by rw [upd_ne (n a s)]; exact e⟩
theorem mks_few {l : List PyData} (h : l.all jKd0 = true) : (l.flatMap fun k => its (p1 k)).length ≤ 6 * l.length := by
  induction l with
  | nil => exact Nat.le_refl _
  | cons k l ih =>
    rw [List.all_cons, Bool.and_eq_true] at h
    have := ih h.2
    have h1 := h.1
    unfold jKd0 jKd1 at h1
    simp only [Bool.and_eq_true] at h1
    obtain ⟨ds, e, _, l6⟩ := jRow_tup h1.1.2.2
    rw [List.flatMap_cons, List.length_append, List.length_cons, e]
    show ds.length + _ ≤ _
    omega
section
variable {P : Program} {w : World} {K : PySem.W.Frag} {mg : Str → Option Value} {base : Heap}
abbrev s_is_kinds : Stmt := topS 20
theorem sc_is_kinds : FnScope ["thing", "names", "makers", "kind", "maker", "_", "fields", "name", "field"] ["thing"] (defScope s_is_kinds) := ⟨rfl, rfl, rfl, by decide +kernel, rfl, by decide +kernel, by decide +kernel⟩
def so_is_kinds (K : PySem.W.Frag) : Sp := fun vs H Q _ => ∃ S v d, vs = [v] ∧ Od K S H v d ∧ ∀ H', Same H H' → Q (.bl (jKinds d)) H'
set_option maxHeartbeats 2000000 in
theorem ok_is_kinds {f : Addr} {fd : FuncData} {k : Nat} (F : Fun K "is_kinds" "is_kinds" s_is_kinds f fd) (T : Tx K mg){k1 : Nat} (D_is_row : Def P w K mg base k1 "is_row" s_is_row ["thing", "low", "high"] (so_is_row K)) {k2 : Nat} (D_is_pair : Def P w K mg base k2 "is_pair" s_is_pair ["thing"] (so_is_pair K)) {k3 : Nat} (D_is_high : Def P w K mg base k3 "is_high" s_is_high ["thing"] (so_is_high K)) {k4 : Nat} (D_all_unlike : Def P w K mg base k4 "all_unlike" s_all_unlike ["names"] (so_unlike K)) (e1 : k1 ≤ k) (e2 : k2 ≤ k) (e3 : k3 ≤ k) (e4 : k4 ≤ k) : FnOk P w K mg base CX0 (k + 1) f fd ["thing"] (so_is_kinds K) := by
  have nd := sc_is_kinds.nd
  refine F.ok sc_is_kinds (fun vs H Q E h => ?_) (fun cdv A outer s H vs Q E hr h => ?_)
  · obtain ⟨_, _, _, rfl, _⟩ := h
    rfl
  · obtain ⟨S0, v, d, rfl, hd0, q⟩ := h
    obtain ⟨S, hd, hS⟩ : ∃ S, Od K S H v d ∧ ∀ a, S a → H a ≠ none := ⟨_, hd0.here, fun a z => z.2⟩
    have no : jKinds d = false → ∀ H', Same H H' → Q (.bl false) H' := fun e H' s => by
      have := q H' s
      rwa [e] at this
    refine ⟨_, (pss_cons (ps_if (pt_not (pt_val (pe_def D_is_row (hr.mono (by omega)) rfl (pa_cons (pv 0) (pa_cons pe_int (pa_cons pe_int pa_nil))))))
        (pss_one (ps_ret pe_bl))
        pss_nil)
      (pss_cons (ps_asg (pe_tup (pa_cons (pe_lst pa_nil) (pa_cons (pe_lst pa_nil) pa_nil))) (kpg_tup K (n := 2) rfl (pgs_cons (pg_name (i := 1) nd rfl (.inr rfl)) (pgs_cons (pg_name (i := 2) nd rfl (.inl rfl)) pgs_nil))))
      (pss_cons (ps_for PassesOwn.never rfl (kpi_tup K (pv 0)) (pg_name (i := 3) nd rfl (.inl rfl))
        (pss_cons (ps_if (PW.pt (pw_or (pt_not (pt_val (pe_def D_is_pair (hr.mono (by omega)) rfl (pa_cons (pv 3) pa_nil)))) (pw_or (pt_not (pt_val (pe_def D_is_high (hr.mono (by omega)) rfl (pa_cons (pe_ix (kix_tup K) (pv 3) pe_int (fun _ _ => rfl)) pa_nil)))) (pw_or1 (pt_not (pt_val (pe_def D_is_row (hr.mono (by omega)) rfl (pa_cons (pe_ix (kix_tup K) (pv 3) pe_int (fun _ _ => rfl)) (pa_cons pe_int (pa_cons pe_int pa_nil))))))))))
          (pss_one (ps_ret pe_bl))
          pss_nil)
        (pss_cons (ps_expr (pe_bm PySem.F.plainAttrs_list PySem.F.slot_list_append PySem.F.type_list_append mt_append (pv 1) (pa_cons (pe_ix (kix_tup K) (pv 3) pe_int (fun _ _ => rfl)) pa_nil)))
        (pss_one (ps_for PassesOwn.never rfl (kpi_tup K (pe_ix (kix_tup K) (pv 3) pe_int (fun _ _ => rfl))) (pg_name (i := 4) nd rfl (.inl rfl))
          (pss_cons (ps_if (PW.pt (pw_or (pt_not (pt_val (pe_def D_is_pair (hr.mono (by omega)) rfl (pa_cons (pv 4) pa_nil)))) (pw_or (pt_not (pt_val (pe_def D_is_high (hr.mono (by omega)) rfl (pa_cons (pe_ix (kix_tup K) (pv 4) pe_int (fun _ _ => rfl)) pa_nil)))) (pw_or1 (pt_not (pt_val (pe_def D_is_row (hr.mono (by omega)) rfl (pa_cons (pe_ix (kix_tup K) (pv 4) pe_int (fun _ _ => rfl)) (pa_cons pe_int (pa_cons pe_int pa_nil))))))))))
            (pss_one (ps_ret pe_bl))
            pss_nil)
          (pss_one (ps_expr (pe_bm PySem.F.plainAttrs_list PySem.F.slot_list_append PySem.F.type_list_append mt_append (pv 2) (pa_cons (pv 4) pa_nil))))))))))
      (pss_cons (ps_if (PW.pt (pw_or (pt_not (pt_val (pe_def D_all_unlike (hr.mono (by omega)) rfl (pa_cons (pv 1) pa_nil)))) (pw_or1 (pt_not (pt_val (pe_def D_all_unlike (hr.mono (by omega)) rfl (pa_cons (pe_lc (own := [("name", 7), ("_", 5)]) (g := _) (tt := tYes) rfl nd (kpi_list K (pv 2)) (blkOk_by (by rfl)) (fun _ _ _ _ _ => (kpg_tup K (n := 2) rfl (pgs_cons (pg_name (i := 7) nd rfl (.inl rfl)) (pgs_cons (pg_name (i := 5) nd rfl (.inl rfl)) pgs_nil)))) (fun _ _ _ _ _ => pts_nil) (fun _ _ _ _ _ => (pv 7))) pa_nil)))))))
        (pss_one (ps_ret pe_bl))
        pss_nil)
      (pss_cons (ps_for PassesOwn.never rfl (kpi_list K (pv 2)) (kpg_tup K (n := 2) rfl (pgs_cons (pg_name (i := 5) nd rfl (.inl rfl)) (pgs_cons (pg_name (i := 6) nd rfl (.inl rfl)) pgs_nil)))
        (pss_one (ps_if (pt_not (pt_val (pe_callB (kcr_all K) (by rfl) T.m_all (by decide +kernel) (pa_cons (pe_lc (own := [("field", 8)]) (g := gName 8) (tt := tYes) rfl nd (kpi_tup K (pv 6)) (blkOk_by (by rfl)) (fun _ _ _ _ _ => (pg_name (i := 8) nd rfl (.inl rfl))) (fun _ _ _ _ _ => pts_nil) (fun _ _ _ _ _ => (pe_and (pe_callB (kcall_isi K) (by rfl) T.m_isinstance (by decide +kernel) (pa_cons (pv 8) (pa_cons (pe_bltn (v := .ty "str") (u := .type "str") (by rfl) T.m_str (by decide +kernel) rfl) pa_nil))) (pe_one (pe_or (pe_cmpR op_eq (pv 8) pe_str (nomark _)) (pe_one (pe_cmpR (kop_inS K) (pv 8) (pv 1) (by rfl)))))))) pa_nil))))
          (pss_one (ps_ret pe_bl))
          pss_nil)))
      (pss_one (ps_ret pe_bl))))))), ?_⟩
    refine ⟨v, rfl, S, v, d, 1, 6, rfl, hd, jRow d 1 6, rfl, ?_⟩
    cases hrow : jRow d 1 6 with
    | false => exact iteT (no (by unfold jKinds; rw [hrow]; rfl) H (Same.refl H))
    | true =>
    obtain ⟨ds, rfl, _, l6⟩ := jRow_tup hrow
    obtain ⟨a, xs, rfl, ha, hx⟩ := hd.tuple_inv
    have lx : xs.length = ds.length := hx.len
    have noA : ds.all jKd0 = false → ∀ H', Same H H' → Q (.bl false) H' := fun e => no (by
      show (jRow _ 1 6 && (ds.all jKd0 && _)) = false
      rw [e, Bool.false_and, Bool.and_false])
    refine iteF ?_
    refine ⟨by show 0 ≤ sizeLine; decide, fun e1 he1 => ⟨by show 0 ≤ sizeLine; decide, fun e2 he2 => ⟨by show 2 ≤ sizeLine; decide, fun T hT => ?_⟩⟩⟩
    have s1 : Same H (upd H e1 (.lst [])) := same_new he1
    have ee1 : (upd H e1 (.lst [])) e1 = some (.lst []) := upd_same
    generalize upd H e1 (.lst []) = H1 at *
    have s2 : Same H1 (upd H1 e2 (.lst [])) := same_new he2
    have ee2 : (upd H1 e2 (.lst [])) e2 = some (.lst []) := upd_same
    have ee12 := s2 _ _ ee1
    have n12 : e1 ≠ e2 := ne_of_none ee1 he2
    have he20 : H e2 = none := s1.free he2
    generalize upd H1 e2 (.lst []) = H2 at *
    have s3 : Same H2 (upd H2 T (.tup [.ref e1, .ref e2])) := same_new hT
    have ee13 := s3 _ _ ee12
    have ee23 := s3 _ _ ee2
    have sH3 := (s1.trans s2).trans s3
    refine ⟨T, _, rfl, .of upd_same, rfl, .ref e1, _, rfl, .ref e2, _, rfl, rfl, ?_⟩
    generalize upd H2 T (.tup [.ref e1, .ref e2]) = H3 at *
    refine ⟨.ref a, rfl, a, rfl, ⟨_, (ha.mono (tk_same sH3)).sq⟩, ?_⟩
    -- heaps that differ at the two lists alone
    refine for_it (walk_tup (xs := xs)) (fun i σ Ha => ∃ (y3 y4 : Option V) (ws : List V), σ = [some (.ref a), some (.ref e1), some (.ref e2), y3, y4, none, none, none, none] ∧ Same H Ha ∧ Ha e1 = some (.lst (((ds.take i).map fun k => stO (p0 k)).map V.str)) ∧ Ha e2 = some (.lst ws) ∧ OdAll K S Ha ws ((ds.take i).flatMap fun k => its (p1 k)) ∧ (ds.take i).all jKd0 = true) ⟨_, _, [], rfl, sH3, ee13, ee23, .nil, rfl⟩ (fun i σ Ha _ z => ?_) ?_ ?_
    · obtain ⟨_, _, _, _, sm, _⟩ := z
      exact (ha.mono (tk_same sm)).sq
    · rintro i x σ Ha Hb hi ⟨y3, y4, ws, rfl, sm, m1, m2, om, al⟩ ⟨rfl, hxi⟩
      obtain ⟨kd, hkd, okd⟩ := (hx.mono (fo_same sm)).getV hxi
      have lk : (ds.take i).length = i := by rw [List.length_take]; omega
      have take1 : ds.take (i + 1) = ds.take i ++ [kd] := by rw [List.take_add_one, hkd]; rfl
      have no1 : jKd0 kd = false → ∀ H', Same Hb H' → Q (.bl false) H' := fun e H' s => noA (all_no hkd e) H' (sm.trans s)
      refine ⟨x, rfl, S, x, kd, rfl, okd, jPair kd, rfl, ?_⟩
      cases hp : jPair kd with
      | false => exact iteT (no1 (by unfold jKd0 jKd1; rw [hp]; rfl) _ (Same.refl _))
      | true =>
      obtain ⟨pk, u1, u2, rfl, ekd, hpk, ou1, ou2⟩ := okd.pair hp
      refine iteF ⟨.ref pk, rfl, pk, _, 0, _, rfl, rfl, hpk.sq, atI_nat (j := 0) rfl, S, u1, p0 kd, rfl, ou1, fun H4 s4 => ⟨jHigh (p0 kd), rfl, ?_⟩⟩
      cases hh : jHigh (p0 kd) with
      | false => exact iteT (no1 (by unfold jKd0 jKd1; rw [hp, hh]; rfl) _ s4)
      | true =>
      have hpk4 := hpk.mono (tk_same s4)
      refine iteF ⟨.ref pk, rfl, pk, _, 1, _, rfl, rfl, hpk4.sq, atI_nat (j := 1) rfl, S, u2, p1 kd, 1, 6, rfl, ou2.mono (fo_same s4), jRow (p1 kd) 1 6, rfl, ?_⟩
      cases hr2 : jRow (p1 kd) 1 6 with
      | false => exact iteT (no1 (by unfold jKd0 jKd1; rw [hp, hh, hr2]; rfl) _ s4)
      | true =>
      obtain ⟨ms, ems, _, m6⟩ := jRow_tup hr2
      obtain ⟨zk, ezk⟩ := jHigh_str hh
      rw [ems] at ou2
      rw [ezk] at ou1
      obtain rfl := ou1.str_inv
      obtain ⟨pm, us, rfl, hpm, hus⟩ := ou2.tuple_inv
      have lus : us.length = ms.length := hus.len
      have sm4 := sm.trans s4
      have m14 := s4 _ _ m1
      have m24 := s4 _ _ m2
      have om4 := om.mono (fo_same s4)
      have hus4 := hus.mono (fo_same s4)
      have hpm4 := hpm.mono (tk_same s4)
      have no2 : ms.all jMk0 = false → ∀ H', Same H H' → Q (.bl false) H' := fun e H' s => noA (all_no hkd (by unfold jKd0; rw [ems]; show (_ && ms.all jMk0) = false; rw [e, Bool.and_false])) H' s
      refine iteF ?_
      refine ⟨.ref e1, rfl, .inl ⟨rfl, _, .of m14⟩, .ref pk, rfl, pk, _, 0, _, rfl, rfl, hpk4.sq, atI_nat (j := 0) rfl, e1, _, _, rfl, rfl, m14, small1000 (by rw [List.length_map, List.length_map, lk]; omega), ?_⟩
      have hS1 : ∀ a, S a → a ≠ e1 := fun a z e => hS a z (by rw [e]; exact he1)
      have hS2 : ∀ a, S a → a ≠ e2 := fun a z e => hS a z (by rw [e]; exact he20)
      have m15 : (upd H4 e1 (.lst (((ds.take i).map fun k => stO (p0 k)).map V.str ++ [.str zk]))) e1 = some (.lst (((ds.take (i + 1)).map fun k => stO (p0 k)).map V.str)) := by
        rw [upd_same, take1, List.map_append, List.map_append]
        show _ = some (HO.lst (_ ++ [V.str (stO (p0 kd))]))
        rw [ezk]; rfl
      have fo5 : Fo S H4 (upd H4 e1 (.lst (((ds.take i).map fun k => stO (p0 k)).map V.str ++ [.str zk]))) := fo_lst m14 hS1
      have br5 : Bar' e1 H4 (upd H4 e1 (.lst (((ds.take i).map fun k => stO (p0 k)).map V.str ++ [.str zk]))) := fun b o n e => by rw [upd_ne n]; exact e
      have sm5 : Same H (upd H4 e1 (.lst (((ds.take i).map fun k => stO (p0 k)).map V.str ++ [.str zk]))) := fun b o e => br5 _ _ (ne_of_none e he1) (sm4 _ _ e)
      have m25 := br5 _ _ n12.symm m24
      have om5 := om4.mono fo5
      have hus5 := hus4.mono fo5
      have hpk5 := hpk4.mono fo5.1
      have hpm5 := hpm4.mono fo5.1
      generalize upd H4 e1 (.lst (((ds.take i).map fun k => stO (p0 k)).map V.str ++ [.str zk])) = H5 at *
      refine ⟨.ref pk, rfl, pk, _, 1, _, rfl, rfl, hpk5.sq, atI_nat (j := 1) rfl, pm, rfl, ⟨_, hpm5.sq⟩, ?_⟩
      have la := mks_few al
      rw [lk] at la
      refine for_it (walk_tup (xs := us)) (fun j σ Ha => ∃ (y4 : Option V) (ws : List V), σ = [some (.ref a), some (.ref e1), some (.ref e2), some (.ref pk), y4, none, none, none, none] ∧ Same H Ha ∧ ITup K Ha pm us ∧ OdAll K S Ha us ms ∧ Ha e1 = some (.lst (((ds.take (i + 1)).map fun k => stO (p0 k)).map V.str)) ∧ Ha e2 = some (.lst ws) ∧ OdAll K S Ha ws (((ds.take i).flatMap fun k => its (p1 k)) ++ ms.take j) ∧ (ms.take j).all jMk0 = true) ⟨y4, ws, rfl, sm5, hpm5, hus5, m15, m25, by rw [List.take_zero, List.append_nil]; exact om5, rfl⟩ (fun j σ Ha _ z => ?_) ?_ ?_
      · obtain ⟨_, _, _, _, hp, _⟩ := z
        exact hp.sq
      · rintro j x σ Hc Hd hj ⟨y4, ws, rfl, sm, hpm, ou, m1, m2, om, al2⟩ ⟨rfl, hxj⟩
        obtain ⟨m, hm, omm⟩ := ou.getV hxj
        have no3 : jMk0 m = false → ∀ H', Same Hd H' → Q (.bl false) H' := fun e H' s => no2 (all_no hm e) H' (sm.trans s)
        refine ⟨x, rfl, S, x, m, rfl, omm, jPair m, rfl, ?_⟩
        cases hp2 : jPair m with
        | false => exact iteT (no3 (by unfold jMk0; rw [hp2]; rfl) _ (Same.refl _))
        | true =>
        obtain ⟨pp, w1, w2, rfl, em, hpp, ow1, ow2⟩ := omm.pair hp2
        refine iteF ⟨.ref pp, rfl, pp, _, 0, _, rfl, rfl, hpp.sq, atI_nat (j := 0) rfl, S, w1, p0 m, rfl, ow1, fun H6 s6 => ⟨jHigh (p0 m), rfl, ?_⟩⟩
        cases hh2 : jHigh (p0 m) with
        | false => exact iteT (no3 (by unfold jMk0; rw [hp2, hh2]; rfl) _ s6)
        | true =>
        refine iteF ⟨.ref pp, rfl, pp, _, 1, _, rfl, rfl, (hpp.mono (tk_same s6)).sq, atI_nat (j := 1) rfl, S, w2, p1 m, 0, 4, rfl, ow2.mono (fo_same s6), jRow (p1 m) 0 4, rfl, ?_⟩
        cases hr3 : jRow (p1 m) 0 4 with
        | false => exact iteT (no3 (by unfold jMk0; rw [hp2, hh2, hr3]; rfl) _ s6)
        | true =>
        refine iteF ?_
        have m16 := s6 _ _ m1
        have m26 := s6 _ _ m2
        have lw : ws.length ≤ 42 := by
          rw [om.len, List.length_append, List.length_take]
          omega
        have fo7 : Fo S H6 (upd H6 e2 (.lst (ws ++ [.ref pp]))) := fo_lst m26 hS2
        have fo67 := (fo_same (S := S) s6).trans fo7
        refine ⟨.ref e2, rfl, .inl ⟨rfl, _, .of m26⟩, .ref pp, rfl, e2, ws, .ref pp, rfl, rfl, m26, small1000 (by omega), _, ws ++ [.ref pp], rfl, fun b o e => ?_, (hpm.mono (tk_same s6)).mono fo7.1, ou.mono fo67, ?_, upd_same, ?_, ?_⟩
        · rw [upd_ne (ne_of_none e he20)]
          exact s6 _ _ (sm _ _ e)
        · rw [upd_ne n12]; exact m16
        · rw [List.take_add_one, hm, ← List.append_assoc]
          exact (om.mono fo67).snoc (omm.mono fo67)
        · rw [List.take_add_one, hm, List.all_append, al2]
          show (true && (jMk0 m && true)) = true
          unfold jMk0
          rw [hp2, hh2, hr3]; rfl
      · rintro σ Hc ⟨y4, ws, rfl, sm, hpm, ou, m1, m2, om, al2⟩
        rw [lus, List.take_of_length_le (Nat.le_refl _)] at om al2
        refine ⟨_, y4, ws, rfl, sm, m1, m2, ?_, ?_⟩
        · rw [take1, List.flatMap_append, List.flatMap_cons, List.flatMap_nil, List.append_nil, ems]
          exact om
        · rw [take1, List.all_append, al]
          show (true && (jKd0 kd && true)) = true
          unfold jKd0 jKd1
          rw [hp, hh, hr2, ems]
          show ((true && (true && true)) && ms.all jMk0 && true) = true
          rw [al2]; rfl
    · rintro σ Ha ⟨y3, y4, ws, rfl, sm, m1, m2, om, al⟩
      rw [lx, List.take_of_length_le (Nat.le_refl _)] at m1 om al
      have la := mks_few al
      have lws := om.len
      have enm : (ds.map fun k => stO (p0 k)) = nmsD (.tuple ds) := rfl
      have emk : (ds.flatMap fun k => its (p1 k)) = mksD (.tuple ds) := rfl
      have ej : jKinds (.tuple ds) = (decide (nmsD (.tuple ds)).Nodup && (decide ((mksD (.tuple ds)).map fun m => stO (p0 m)).Nodup && (mksD (.tuple ds)).all (jMk2 (nmsD (.tuple ds))))) := by
        show (jRow _ 1 6 && (ds.all jKd0 && _)) = _
        rw [hrow, al]; rfl
      rw [enm] at m1
      rw [emk] at om la lws
      rw [ej] at q no
      have mk0 : ∀ (j : Nat) m, (mksD (.tuple ds))[j]? = some m → jMk0 m = true := fun j m h => by
        have hm := List.mem_of_getElem? h
        obtain ⟨k, hk, hmk⟩ := List.mem_flatMap.mp (show m ∈ ds.flatMap fun k => its (p1 k) from hm)
        have := List.all_eq_true.mp al k hk
        unfold jKd0 at this
        rw [Bool.and_eq_true] at this
        exact List.all_eq_true.mp this.2 m hmk
      have lns : (nmsD (.tuple ds)).length ≤ 6 := by
        show (ds.map _).length ≤ 6
        rw [List.length_map]; omega
      generalize nmsD (.tuple ds) = ns at *
      generalize mksD (.tuple ds) = mds at *
      refine ⟨.ref e1, rfl, e1, ns, rfl, m1, by omega, decide ns.Nodup, rfl, ?_⟩
      cases hn : decide ns.Nodup with
      | false => exact iteT (no (by rw [hn]; rfl) _ sm)
      | true =>
      rw [hn] at q no
      refine iteF ?_
      refine ⟨.ref e2, rfl, e2, rfl, ⟨_, .of m2⟩, fun D hD => ?_⟩
      refine lc_all (walk_list (xs := ws)) (fun j Hx => Same Ha Hx ∧ Hx D = some (.lst (((mds.take j).map fun m => stO (p0 m)).map V.str))) ⟨same_new hD, upd_same⟩ (fun j Hx _ z => .of (z.1 _ _ m2)) (fun j x Hx Hy hj z y => ?_) (fun Hx z => ?_)
      · obtain ⟨s5, eD⟩ := z
        obtain ⟨rfl, hxj⟩ := y
        obtain ⟨m, hm, omm⟩ := (om.mono (fo_same s5)).getV hxj
        have mk := mk0 j m hm
        unfold jMk0 at mk
        simp only [Bool.and_eq_true] at mk
        obtain ⟨pp, w1, w2, rfl, em, hpp, ow1, ow2⟩ := omm.pair mk.1
        obtain ⟨z1, ez⟩ := jHigh_str mk.2.1
        rw [ez] at ow1
        obtain rfl := ow1.str_inv
        refine ⟨pp, _, rfl, hpp.sq, rfl, .str z1, _, rfl, w2, _, rfl, rfl, rfl, .str z1, rfl, _, eD, small1000 (by rw [List.length_map, List.length_map, List.length_take]; omega), fun b o e => ?_, ?_⟩
        · rw [upd_ne (ne_of_none e hD)]; exact s5 _ _ e
        · rw [upd_same, List.take_add_one, hm, List.map_append, List.map_append]
          show _ = some (HO.lst (_ ++ [V.str (stO (p0 m))]))
          rw [ez]; rfl
      · obtain ⟨s5, eD⟩ := z
        rw [lws, List.take_of_length_le (Nat.le_refl _)] at eD
        refine ⟨D, _, rfl, eD, by rw [List.length_map]; omega, _, rfl, ?_⟩
        cases hn2 : decide (mds.map fun m => stO (p0 m)).Nodup with
        | false => exact iteT (no (by rw [hn2]; rfl) _ (sm.trans s5))
        | true =>
        rw [hn2] at q no
        refine iteF ?_
        have m1x := s5 _ _ m1
        have m2x := s5 _ _ m2
        have omx := om.mono (fo_same s5)
        have sx := sm.trans s5
        refine ⟨.ref e2, rfl, e2, rfl, ⟨_, .of m2x⟩, ?_⟩
        refine for_it (walk_list (xs := ws)) (fun j σ Hb => ∃ (y5 y6 : Option V), σ = [some (.ref a), some (.ref e1), some (.ref e2), y3, y4, y5, y6, none, none] ∧ Same Hx Hb ∧ (mds.take j).all (jMk2 ns) = true) ⟨_, _, rfl, Same.refl _, rfl⟩ (fun j σ Hb _ z => ?_) ?_ ?_
        · obtain ⟨_, _, _, s6, _⟩ := z
          exact .of (s6 _ _ m2x)
        · rintro j x σ Hb Hc hj ⟨y5, y6, rfl, s6, al2⟩ ⟨rfl, hxj⟩
          obtain ⟨m, hm, omm⟩ := (omx.mono (fo_same s6)).getV hxj
          have mk := mk0 j m hm
          unfold jMk0 at mk
          simp only [Bool.and_eq_true] at mk
          obtain ⟨pp, w1, w2, rfl, em, hpp, ow1, ow2⟩ := omm.pair mk.1
          obtain ⟨fs, efs, _, f4⟩ := jRow_tup mk.2.2
          rw [efs] at ow2
          obtain ⟨pf, us, rfl, hpf, hus⟩ := ow2.tuple_inv
          have lus := hus.len
          have m16 := s6 _ _ m1x
          refine ⟨pp, _, rfl, hpp.sq, rfl, w1, _, rfl, .ref pf, _, rfl, rfl, ?_⟩
          refine ⟨.ref pf, rfl, pf, rfl, ⟨_, hpf.sq⟩, fun D3 hD3 => ?_⟩
          refine lc_all (walk_tup (xs := us)) (fun i H2 => Same Hc H2 ∧ H2 D3 = some (.lst (((fs.take i).map (jFld ns)).map V.bl))) ⟨same_new hD3, upd_same⟩ (fun i H2 _ z => (hpf.mono (tk_same z.1)).sq) (fun i x H2 H3 hi zz y => ?_) (fun H2 zz => ?_)
          · obtain ⟨s7, eD3⟩ := zz
            obtain ⟨rfl, hxi⟩ := y
            obtain ⟨f, hf, of⟩ := (hus.mono (fo_same s7)).getV hxi
            have fin := bools_snoc s7 hD3 eD3 hf
            have la : (((fs.take i).map (jFld ns)).map V.bl).length < sizeLine := small1000 (by rw [List.length_map, List.length_map, List.length_take]; omega)
            refine ⟨rfl, x, rfl, x, _, .type (tyName f), _, jStr f, rfl, .ty _, od_ty of, kit_ty (kit_str f), jStr f, rfl, ?_⟩
            rcases of.str_or with ⟨z, rfl, rfl, lz⟩ | n
            · refine iteT ⟨.str z, rfl, rfl, _, rfl, ?_⟩
              rw [dec_str]
              have ez : jFld ns (.str z) = (decide (z = "number") || decide (z ∈ ns)) := rfl
              rw [ez] at fin
              by_cases hnum : z = "number"
              · rw [decide_eq_true hnum] at fin ⊢
                exact iteT ⟨_, eD3, la, fin⟩
              · rw [decide_eq_false hnum] at fin ⊢
                refine iteF ⟨.str z, rfl, .ref e1, rfl, e1, _, rfl, .inl (.of (s7 _ _ m16)), rfl, flat_strs' _, ?_⟩
                rw [if_neg Bool.false_ne_true, inV_strs]
                exact ⟨_, eD3, la, fin⟩
            · rw [n]
              rw [jFld_no n] at fin
              exact iteF ⟨_, eD3, la, fin⟩
          · obtain ⟨s7, eD3⟩ := zz
            rw [lus, List.take_of_length_le (Nat.le_refl _)] at eD3
            refine ⟨D3, _, rfl, .of eD3, _, rfl, ?_⟩
            rw [all_map]
            have ej2 : jMk2 ns m = fs.all (jFld ns) := by unfold jMk2; rw [efs]; rfl
            rw [← ej2]
            cases hj2 : jMk2 ns m with
            | false => exact iteT (no (by rw [all_no hm hj2]; rfl) _ ((sx.trans s6).trans s7))
            | true =>
              refine iteF ⟨_, _, rfl, s6.trans s7, ?_⟩
              rw [List.take_add_one, hm, List.all_append, al2]
              show (true && (jMk2 ns m && true)) = true
              rw [hj2]; rfl
        · rintro σ Hb ⟨y5, y6, rfl, s6, al2⟩
          rw [lws, List.take_of_length_le (Nat.le_refl _)] at al2
          rw [al2] at q
          exact q Hb (sx.trans s6)
end
end K63

set_option Elab.async false
set_option linter.all false
set_option maxRecDepth 100000
set_option exponentiation.threshold 20000
set_option pp.deepTerms false
set_option pp.deepTerms.threshold 8
namespace K63
open PySem PySem.Spec PyProof.Rows L2 Ly Mt
/-! ### dims and terms, judged -/
def intO : PyData → Int
  | .int i => i
  | _ => 0
def jDims (d : PyData) (n : Int) (wide : Nat) : Bool := jRow d n n && ((its d).all (fun x => jWithin x 0 (16 * wide)) && decide (((its d).map intO).sum ≤ 32 * wide))
def jCols (cs : List PyData) (ws : List Nat) : Bool := (cs.zip ws).all fun p => jWithin p.1 0 ((p.2 : Int) - 1)
def jRat0 (r : PyData) : Bool := jRatio r && !decide (intO (p0 r) = 0)
def jTerm (t : PyData) (dim : Int) (ws : List Nat) : Bool := jRow t 3 3 && (jWithin (p0 t) 0 (dim - 1) && (jRow (p1 t) ws.length ws.length && (jCols (its (p1 t)) ws && jRat0 (p2 t))))
def kyD (t : PyData) : PyData := .tuple [p0 t, p1 t]
def jTerms (d : PyData) (dim : Int) (ws : List Nat) (most : Int) : Bool := jRow d 0 most && ((its d).all (fun t => jTerm t dim ws) && (List.range ((its d).length - 1)).all fun i => PySem.W.dataLt (kyD ((its d).getD i .none)) (kyD ((its d).getD (i + 1) .none)))
theorem jWithin_int {d : PyData} {lo hi : Int} (h : jWithin d lo hi = true) : ∃ i, d = .int i ∧ lo ≤ i ∧ i ≤ hi := by
  cases d with
  | int i =>
    refine ⟨i, rfl, ?_⟩
    unfold jWithin at h
    simpa only [Bool.and_eq_true, decide_eq_true_eq] using h
  | _ => cases h
theorem jRatio_rat {d : PyData} (h : jRatio d = true) : ∃ q : Rat, d = rD q := by
  cases d with
  | tuple ds =>
    match ds, h with
    | [.int t, .int b], h =>
      have h' : (decide (1 ≤ b) && decide (Nat.gcd t.natAbs b.natAbs = 1)) = true := h
      rw [Bool.and_eq_true, decide_eq_true_iff, decide_eq_true_iff] at h'
      obtain ⟨h1, h2⟩ := h'
      refine ⟨⟨t, b.natAbs, by omega, h2⟩, ?_⟩
      show PyData.tuple [.int t, .int b] = .tuple [.int t, .int ((b.natAbs : Nat) : Int)]
      rw [show ((b.natAbs : Nat) : Int) = b by omega]
    | [], h => cases h
    | [x], h => cases x <;> cases h
    | x :: y :: z :: r, h => cases x <;> first | cases h | (cases y <;> cases h)
  | _ => cases h
theorem tup3 {d : PyData} (h : jRow d 3 3 = true) : d = .tuple [p0 d, p1 d, p2 d] := by
  obtain ⟨ds, rfl, h1, h2⟩ := jRow_tup h
  match ds, h1, h2 with
  | [a, b, c], _, _ => rfl
  | [], h1, _ => simp at h1
  | [_], h1, _ => simp at h1
  | [_, _], h1, _ => simp at h1
  | _ :: _ :: _ :: _ :: _, _, h2 => simp at h2; omega
theorem cols_nats : ∀ {cs : List PyData} {ws : List Nat}, cs.length = ws.length → jCols cs ws = true → ∃ ns : List Nat, cs = ns.map nD ∧ ∀ (i c w : Nat), ns[i]? = some c → ws[i]? = some w → c < w
  | [], _, _, _ => ⟨[], rfl, fun i c w h => by simp at h⟩
  | c :: cs, [], h, _ => by simp at h
  | c :: cs, w :: ws, h, j => by
    have j' : (jWithin c 0 ((w : Int) - 1) && jCols cs ws) = true := j
    rw [Bool.and_eq_true] at j'
    obtain ⟨i, rfl, i0, i1⟩ := jWithin_int j'.1
    obtain ⟨ns, rfl, hns⟩ := cols_nats (by simpa using h) j'.2
    obtain ⟨n, rfl⟩ : ∃ n : Nat, i = n := ⟨i.toNat, by omega⟩
    refine ⟨n :: ns, rfl, fun k c w' h1 h2 => ?_⟩
    cases k with
    | zero =>
      simp only [List.getElem?_cons_zero, Option.some.injEq] at h1 h2
      omega
    | succ k =>
      simp only [List.getElem?_cons_succ] at h1 h2
      exact hns k c w' h1 h2
theorem rat0_ne {q : Rat} (h : jRat0 (rD q) = true) : q ≠ 0 := fun z => by
  subst z
  unfold jRat0 at h
  rw [Bool.and_eq_true] at h
  have : (!decide ((0 : Int) = 0)) = true := h.2
  simp at this
theorem term_of {t : PyData} {dim : Nat} {ws : List Nat} (h : jTerm t (dim : Nat) ws = true) : ∃ t' : Tm, t = tmD t' ∧ TermOk dim ws t' := by
  unfold jTerm at h
  simp only [Bool.and_eq_true] at h
  obtain ⟨h1, h2, h3, h4, h5⟩ := h
  have e := tup3 h1
  obtain ⟨i, e0, i0, i1⟩ := jWithin_int h2
  obtain ⟨cs, e1, c1, c2⟩ := jRow_tup h3
  rw [e1] at h4
  obtain ⟨ns, en, hns⟩ := cols_nats (cs := cs) (by omega) h4
  have h5' := h5
  unfold jRat0 at h5'
  rw [Bool.and_eq_true] at h5'
  obtain ⟨q, e2⟩ := jRatio_rat h5'.1
  obtain ⟨n, rfl⟩ : ∃ n : Nat, i = n := ⟨i.toNat, by omega⟩
  refine ⟨(n, ns, q), ?_, by show n < dim; omega, ?_, hns, by rw [e2] at h5; exact rat0_ne h5⟩
  · rw [e, e0, e1, e2, en]; rfl
  · show ns.length = ws.length
    rw [en, List.length_map] at c1 c2
    omega
theorem terms_of : ∀ {ds : List PyData} {dim : Nat} {ws : List Nat}, ds.all (fun t => jTerm t (dim : Nat) ws) = true → ∃ ts : List Tm, ds = ts.map tmD ∧ ∀ t ∈ ts, TermOk dim ws t
  | [], _, _, _ => ⟨[], rfl, fun t h => nomatch h⟩
  | d :: ds, dim, ws, h => by
    rw [List.all_cons, Bool.and_eq_true] at h
    obtain ⟨t, rfl, ht⟩ := term_of h.1
    obtain ⟨ts, rfl, hts⟩ := terms_of h.2
    exact ⟨t :: ts, rfl, fun x hx => by rcases List.mem_cons.mp hx with rfl | hx; exact ht; exact hts x hx⟩
theorem noL_rD (q : Rat) : noL (rD q) = true := rfl
theorem noLs_nats : ∀ ns : List Nat, noLs (ns.map nD) = true
  | [] => rfl
  | n :: ns => by
    show (noL (nD n) && noLs (ns.map nD)) = true
    rw [noLs_nats ns]; rfl
theorem noL_tm (t : Tm) : noL (tmD t) = true := by
  show (noL (nD t.1) && (noL (nsD t.2.1) && (noL (rD t.2.2) && true))) = true
  rw [show noL (nsD t.2.1) = noLs (t.2.1.map nD) from rfl, noLs_nats]; rfl
theorem noLs_tms : ∀ ts : List Tm, noLs (ts.map tmD) = true
  | [] => rfl
  | t :: ts => by
    show (noL (tmD t) && noLs (ts.map tmD)) = true
    rw [noL_tm, noLs_tms ts]; rfl
section
variable {P : Program} {w : World} {K : PySem.W.Frag} {mg : Str → Option Value} {base : Heap}
abbrev s_are_dims : Stmt := topS 28
theorem sc_are_dims : FnScope ["thing", "size", "wide", "dim"] ["thing", "size", "wide"] (defScope s_are_dims) := ⟨rfl, rfl, rfl, by decide +kernel, rfl, by decide +kernel, by decide +kernel⟩
def so_dims (K : PySem.W.Frag) : Sp := fun vs H Q _ => ∃ (S : Addr → Prop) (v : V) (d : PyData) (n : Int) (wide : Nat), vs = [v, .int n, .int (wide : Nat)] ∧ Od K S H v d ∧ n ≤ 1000 ∧ wide ≤ 2 ∧ ∀ H', Same H H' → Q (.bl (jDims d n wide)) H'
theorem ok_are_dims {f : Addr} {fd : FuncData} {k : Nat} (F : Fun K "are_dims" "are_dims" s_are_dims f fd) (T : Tx K mg){k1 : Nat} (D_is_row : Def P w K mg base k1 "is_row" s_is_row ["thing", "low", "high"] (so_is_row K)) {k2 : Nat} (D_within : Def P w K mg base k2 "within" s_within ["thing", "low", "high"] (so_within K)) (e1 : k1 ≤ k) (e2 : k2 ≤ k) : FnOk P w K mg base CX0 (k + 1) f fd ["thing", "size", "wide"] (so_dims K) := by
  have nd := sc_are_dims.nd
  refine F.ok sc_are_dims (fun vs H Q E h => ?_) (fun cdv A outer s H vs Q E hr h => ?_)
  · obtain ⟨_, _, _, _, _, rfl, _⟩ := h
    rfl
  · obtain ⟨S, v, d, n, wide, rfl, hd, n1000, wid, q⟩ := h
    have wm : ∀ x : Int, x.natAbs < 2 ^ 6 → CMulW x ((wide : Nat) : Int) := fun x hx => wide_mul hx (show ((wide : Nat) : Int).natAbs < 2 ^ 2 by omega) (by decide) (by decide) (by decide)
    have no : jDims d n wide = false → ∀ H', Same H H' → Q (.bl false) H' := fun e H' s => by
      have := q H' s
      rwa [e] at this
    refine ⟨_, (pss_cons (ps_if (PW.pt (pw_or (pt_not (pt_val (pe_def D_is_row (hr.mono (by omega)) rfl (pa_cons (pv 0) (pa_cons (pv 1) (pa_cons (pv 1) pa_nil)))))) (pw_or1 (pt_not (pt_val (pe_callB (kcr_all K) (by rfl) T.m_all (by decide +kernel) (pa_cons (pe_lc (own := [("dim", 3)]) (g := gName 3) (tt := tYes) rfl nd (kpi_tup K (pv 0)) (blkOk_by (by rfl)) (fun _ _ _ _ _ => (pg_name (i := 3) nd rfl (.inl rfl))) (fun _ _ _ _ _ => pts_nil) (fun _ _ _ _ _ => (pe_def D_within (hr.mono (by omega)) rfl (pa_cons (pv 3) (pa_cons pe_int (pa_cons (pe_op op_mulW (pe_gv rfl T.g_MOST_DIM) (pv 2)) pa_nil)))))) pa_nil)))))))
        (pss_one (ps_ret pe_bl))
        pss_nil)
      (pss_one (ps_ret (pe_cmpR op_le (pe_callB (cr_sumT K) (by rfl) T.m_sum (by decide +kernel) (pa_cons (pv 0) pa_nil)) (pe_op op_mulW (pe_gv rfl T.g_MOST_DIMS) (pv 2)) (nomark _))))), ?_⟩
    refine ⟨v, rfl, .int _, rfl, .int _, rfl, S, v, d, n, n, rfl, hd, jRow d n n, rfl, ?_⟩
    cases hrow : jRow d n n with
    | false => exact iteT (no (by unfold jDims; rw [hrow]; rfl) H (Same.refl H))
    | true =>
    obtain ⟨ds, rfl, _, ln⟩ := jRow_tup hrow
    obtain ⟨a, xs, rfl, ha, hx⟩ := hd.tuple_inv
    have lx := hx.len
    refine iteF ⟨.ref a, rfl, a, rfl, ⟨_, ha.sq⟩, fun D hD => ?_⟩
    refine lc_all (walk_tup (xs := xs)) (fun i H2 => Same H H2 ∧ H2 D = some (.lst (((ds.take i).map fun x => jWithin x 0 (16 * wide)).map V.bl))) ⟨same_new hD, upd_same⟩ (fun i H2 _ z => (ha.mono (tk_same z.1)).sq) (fun i x H2 H3 hi z y => ?_) (fun H2 z => ?_)
    · obtain ⟨sm, eD⟩ := z
      obtain ⟨rfl, hxi⟩ := y
      obtain ⟨x1, hx1, ox⟩ := (hx.mono (fo_same sm)).getV hxi
      exact ⟨rfl, x, rfl, .int wide, rfl, _, _, rfl, rfl, wm _ (by decide), S, x, x1, 0, _, rfl, ox, _, eD, small1000 (by rw [List.length_map, List.length_map, List.length_take]; omega), bools_snoc sm hD eD hx1⟩
    · obtain ⟨sm, eD⟩ := z
      rw [lx, List.take_of_length_le (Nat.le_refl _)] at eD
      refine ⟨D, _, rfl, .of eD, _, rfl, ?_⟩
      rw [all_map]
      have ej : jDims (.tuple ds) n wide = (ds.all (fun x => jWithin x 0 (16 * wide)) && decide ((ds.map intO).sum ≤ 32 * wide)) := by
        show (jRow _ n n && _) = _
        rw [hrow]; rfl
      rw [ej] at q no
      cases hal : ds.all (fun x => jWithin x 0 (16 * wide)) with
      | false => exact iteT (no (by rw [hal]; rfl) _ sm)
      | true =>
      have hints : ∃ is : List Int, ds = is.map .int ∧ xs = is.map V.int := by
        have h1 : ∃ is : List Int, ds = is.map .int := by
          refine ⟨ds.map intO, ?_⟩
          rw [List.map_map]
          conv => lhs; rw [← List.map_id ds]
          refine List.map_congr_left fun x hx => ?_
          obtain ⟨i, rfl, _⟩ := jWithin_int (List.all_eq_true.mp hal x hx)
          rfl
        obtain ⟨is, rfl⟩ := h1
        refine ⟨is, rfl, ?_⟩
        clear hal ej q no eD hrow ln lx
        have go : ∀ {is : List Int} {xs : List V}, OdAll K S H xs (is.map .int) → xs = is.map V.int := by
          intro is
          induction is with
          | nil => intro xs h; exact h.nil_inv
          | cons i is ih =>
            intro xs h
            obtain ⟨v, r, rfl, h1, h2⟩ := h.cons_inv
            rw [h1.int_inv, ih h2]; rfl
        exact go hx
      obtain ⟨is, rfl, rfl⟩ := hints
      refine iteF ⟨.ref a, rfl, a, is, rfl, (ha.mono (tk_same sm)).sq, .int wide, rfl, _, _, rfl, rfl, wm _ (by decide), _, _, rfl, rfl, ?_⟩
      dsimp only
      have := q _ sm
      rw [hal] at this
      have e2 : ((is.map PyData.int).map intO) = is := by
        rw [List.map_map]
        exact List.map_id' is
      rw [e2] at this
      exact this
abbrev s_is_term : Stmt := topS 29
theorem sc_is_term : FnScope ["thing", "dim", "widths", "col", "width"] ["thing", "dim", "widths"] (defScope s_is_term) := ⟨rfl, rfl, rfl, by decide +kernel, rfl, by decide +kernel, by decide +kernel⟩
def so_term (K : PySem.W.Frag) : Sp := fun vs H Q _ => ∃ (S : Addr → Prop) (v : V) (l : Addr) (t : PyData) (dim : Nat) (ws : List Nat), vs = [v, .int (dim : Nat), .ref l] ∧ Od K S H v t ∧ H l = some (.lst (ws.map (fun n : Nat => V.int (n : Nat)))) ∧ ws.length ≤ 1000 ∧ ∀ H', Same H H' → Q (.bl (jTerm t (dim : Nat) ws)) H'
set_option maxHeartbeats 1000000 in
theorem ok_is_term {f : Addr} {fd : FuncData} {k : Nat} (F : Fun K "is_term" "is_term" s_is_term f fd) (T : Tx K mg){k1 : Nat} (D_is_row : Def P w K mg base k1 "is_row" s_is_row ["thing", "low", "high"] (so_is_row K)) {k2 : Nat} (D_within : Def P w K mg base k2 "within" s_within ["thing", "low", "high"] (so_within K)) {k3 : Nat} (D_is_ratio : Def P w K mg base k3 "is_ratio" s_is_ratio ["thing"] (so_is_ratio K)) (e1 : k1 ≤ k) (e2 : k2 ≤ k) (e3 : k3 ≤ k) : FnOk P w K mg base CX0 (k + 1) f fd ["thing", "dim", "widths"] (so_term K) := by
  have nd := sc_is_term.nd
  obtain ⟨az, g_ZERO0, iz⟩ := T.zero
  have g_ZERO : ∃ u, mg "ZERO" = some u ∧ L2.RelV (.ref az) u := ⟨_, g_ZERO0, rfl⟩
  refine F.ok sc_is_term (fun vs H Q E h => ?_) (fun cdv A outer s H vs Q E hr h => ?_)
  · obtain ⟨_, _, _, _, _, _, rfl, _⟩ := h
    rfl
  · obtain ⟨S, v, l, t, dim, ws, rfl, hd, hl, few, q⟩ := h
    have no : jTerm t (dim : Nat) ws = false → ∀ H', Same H H' → Q (.bl false) H' := fun e H' s => by
      have := q H' s
      rwa [e] at this
    refine ⟨_, (pss_cons (ps_if (PW.pt (pw_or (pt_not (pt_val (pe_def D_is_row (hr.mono (by omega)) rfl (pa_cons (pv 0) (pa_cons pe_int (pa_cons pe_int pa_nil)))))) (pw_or (pt_not (pt_val (pe_def D_within (hr.mono (by omega)) rfl (pa_cons (pe_ix (kix_tup K) (pv 0) pe_int (fun _ _ => rfl)) (pa_cons pe_int (pa_cons (pe_op op_sub (pv 1) pe_int) pa_nil)))))) (pw_or1 (pt_not (pt_val (pe_def D_is_row (hr.mono (by omega)) rfl (pa_cons (pe_ix (kix_tup K) (pv 0) pe_int (fun _ _ => rfl)) (pa_cons (pe_callB (kcall_len K) (by rfl) T.m_len PySem.boot_len (pa_cons (pv 2) pa_nil)) (pa_cons (pe_callB (kcall_len K) (by rfl) T.m_len PySem.boot_len (pa_cons (pv 2) pa_nil)) pa_nil))))))))))
        (pss_one (ps_ret pe_bl))
        pss_nil)
      (pss_cons (ps_if (pt_not (pt_val (pe_callB (kcr_all K) (by rfl) T.m_all (by decide +kernel) (pa_cons (pe_lc (own := [("col", 3), ("width", 4)]) (g := _) (tt := tYes) rfl nd (kpi_zipN K (by rfl) T.m_zip (pa_cons (pe_ix (kix_tup K) (pv 0) pe_int (fun _ _ => rfl)) (pa_cons (pv 2) pa_nil))) (blkOk_by (by rfl)) (fun _ _ _ _ _ => (kpg_tup K (n := 2) rfl (pgs_cons (pg_name (i := 3) nd rfl (.inl rfl)) (pgs_cons (pg_name (i := 4) nd rfl (.inl rfl)) pgs_nil)))) (fun _ _ _ _ _ => pts_nil) (fun _ _ _ _ _ => (pe_def D_within (hr.mono (by omega)) rfl (pa_cons (pv 3) (pa_cons pe_int (pa_cons (pe_op op_sub (pv 4) pe_int) pa_nil)))))) pa_nil))))
        (pss_one (ps_ret pe_bl))
        pss_nil)
      (pss_one (ps_ret (pe_and (pe_def D_is_ratio (hr.mono (by omega)) rfl (pa_cons (pe_ix (kix_tup K) (pv 0) pe_int (fun _ _ => rfl)) pa_nil)) (pe_one (pe_cmpR (kop_neD K hr.units) (pe_ix (kix_tup K) (pv 0) pe_int (fun _ _ => rfl)) (pe_gv rfl g_ZERO) (nomark _)))))))), ?_⟩
    refine ⟨v, rfl, S, v, t, 3, 3, rfl, hd, jRow t 3 3, rfl, ?_⟩
    cases h1 : jRow t 3 3 with
    | false => exact iteT (no (by unfold jTerm; rw [h1]; rfl) H (Same.refl H))
    | true =>
    have et := tup3 h1
    rw [et] at hd
    obtain ⟨a, xs, rfl, ha, hx⟩ := hd.tuple_inv
    obtain ⟨x, r, rfl, ox, hr1⟩ := hx.cons_inv
    obtain ⟨y, r, rfl, oy, hr2⟩ := hr1.cons_inv
    obtain ⟨z, r, rfl, oz, hr3⟩ := hr2.cons_inv
    obtain rfl := hr3.nil_inv
    refine iteF ⟨.ref a, rfl, a, _, 0, _, rfl, rfl, ha.sq, atI_nat (j := 0) rfl, .int dim, rfl, _, _, rfl, rfl, S, x, p0 t, 0, _, rfl, ox, jWithin (p0 t) 0 ((dim : Nat) - 1), rfl, ?_⟩
    cases h2 : jWithin (p0 t) 0 ((dim : Nat) - 1) with
    | false => exact iteT (no (by unfold jTerm; rw [h1, h2]; rfl) H (Same.refl H))
    | true =>
    refine iteF ⟨.ref a, rfl, a, _, 1, _, rfl, rfl, ha.sq, atI_nat (j := 1) rfl, .ref l, rfl, l, _, rfl, .inl (.of hl), .ref l, rfl, l, _, rfl, .inl (.of hl), ?_⟩
    rw [List.length_map]
    refine ⟨S, y, p1 t, _, _, rfl, oy, jRow (p1 t) (ws.length : Nat) (ws.length : Nat), rfl, ?_⟩
    cases h3 : jRow (p1 t) (ws.length : Nat) (ws.length : Nat) with
    | false => exact iteT (no (by unfold jTerm; rw [h1, h2, h3]; rfl) H (Same.refl H))
    | true =>
    obtain ⟨cs, ecs, c1, c2⟩ := jRow_tup h3
    rw [ecs] at oy
    obtain ⟨b, ys, rfl, hb, hy⟩ := oy.tuple_inv
    have ly := hy.len
    have lc : cs.length = ws.length := by omega
    refine iteF ⟨.ref a, rfl, a, _, 1, _, rfl, rfl, ha.sq, atI_nat (j := 1) rfl, .ref l, rfl, b, l, _, _, rfl, hb.sq, .of hl, fun D hD => ?_⟩
    refine lc_all (walk_zipN (xs := ys) (ys := ws.map (fun n : Nat => V.int (n : Nat))) (by rw [List.length_map]; omega)) (fun i H2 => Same H H2 ∧ H2 D = some (.lst ((((cs.zip ws).take i).map fun p => jWithin p.1 0 ((p.2 : Int) - 1)).map V.bl))) ⟨same_new hD, upd_same⟩ (fun i H2 _ z => ⟨(hb.mono (tk_same z.1)).sq, .of (z.1 _ _ hl)⟩) (fun i x H2 H3 hi z y => ?_) (fun H2 z => ?_)
    · obtain ⟨sm, eD⟩ := z
      obtain ⟨T, x1, x2, rfl, hT, rfl, f1, f2⟩ := y
      simp only [List.getElem?_map] at f2
      obtain ⟨w', hw, rfl⟩ := Option.map_eq_some_iff.mp f2
      obtain ⟨c, hc, oc⟩ := (hy.mono (fo_same sm)).getV f1
      have sT := same_new (o := .tup [x1, .int (w' : Nat)]) hT
      have hz : (cs.zip ws)[i]? = some (c, w') := by
        rw [List.getElem?_zip_eq_some]
        exact ⟨hc, hw⟩
      exact ⟨T, _, rfl, .of upd_same, rfl, x1, _, rfl, .int w', _, rfl, rfl, rfl, x1, rfl, .int w', rfl, _, _, rfl, rfl, S, x1, c, 0, _, rfl, oc.mono (fo_same sT), _, sT _ _ eD, small1000 (by rw [List.length_map, List.length_map, List.length_take, List.length_zip]; omega), bools_snoc (sm.trans sT) hD (sT _ _ eD) hz⟩
    · obtain ⟨sm, eD⟩ := z
      rw [List.take_of_length_le (by rw [List.length_zip]; omega)] at eD
      refine ⟨D, _, rfl, .of eD, _, rfl, ?_⟩
      rw [all_map]
      have e4 : ((cs.zip ws).all fun p => jWithin p.1 0 ((p.2 : Int) - 1)) = jCols (its (p1 t)) ws := by rw [ecs]; rfl
      rw [e4]
      cases h4 : jCols (its (p1 t)) ws with
      | false => exact iteT (no (by unfold jTerm; rw [h1, h2, h3, h4]; rfl) _ sm)
      | true =>
      have ha2 := ha.mono (tk_same sm)
      have ej : jTerm t (dim : Nat) ws = jRat0 (p2 t) := by unfold jTerm; rw [h1, h2, h3, h4]; rfl
      rw [ej] at q no
      have oz2 := oz.mono (fo_same sm)
      refine iteF ⟨.ref a, rfl, a, _, 2, _, rfl, rfl, ha2.sq, atI_nat (j := 2) rfl, S, z, p2 t, rfl, oz2, jRatio (p2 t), rfl, ?_⟩
      cases h5 : jRatio (p2 t) with
      | false => exact iteF (no (by unfold jRat0; rw [h5]; rfl) _ sm)
      | true =>
      obtain ⟨r, er⟩ := jRatio_rat h5
      rw [er] at oz2
      have iz2 := Od.im _ (noL_rD r) oz2
      refine iteT ⟨.ref a, rfl, a, _, 2, _, rfl, rfl, ha2.sq, atI_nat (j := 2) rfl, rD r, .tuple [.int 0, .int 1], Im.dp _ iz2, .tup (iz H2).sq (.cons (.int 0) (.cons (.int 1) .nil)), rfl, rfl, ?_⟩
      have e : PyData.eqv (rD r) (.tuple [.int 0, .int 1]) = decide (r = 0) := by
        show ((r.num == 0) && (((r.den : Int) == 1) && true)) = _
        by_cases h : r = 0
        · subst h; rfl
        · have : ¬ r.num = 0 := fun z => h (num_zero z)
          rw [beq_eq_false_iff_ne.mpr this, decide_eq_false h]; rfl
      rw [e]
      have e6 : jRat0 (p2 t) = !decide (r = 0) := by
        unfold jRat0
        rw [h5, er]
        show (true && !decide (r.num = 0)) = _
        rw [Bool.true_and]
        congr 1
        exact decide_eq_decide.mpr ⟨num_zero, fun h => by rw [h]; rfl⟩
      have := q _ sm
      rw [e6] at this
      exact this
end
end K63

set_option Elab.async false
set_option linter.all false
set_option maxRecDepth 100000
set_option exponentiation.threshold 20000
set_option pp.deepTerms false
set_option pp.deepTerms.threshold 8
namespace K63
open PySem PySem.Spec PyProof.Rows L2 Ly Mt
theorem kyD_tm (t : Tm) : kyD (tmD t) = keyT t := rfl
section
variable {P : Program} {w : World} {K : PySem.W.Frag} {mg : Str → Option Value} {base : Heap}
abbrev s_are_terms : Stmt := topS 30
theorem sc_are_terms : FnScope ["thing", "dim", "widths", "most", "term", "at"] ["thing", "dim", "widths", "most"] (defScope s_are_terms) := ⟨rfl, rfl, rfl, by decide +kernel, rfl, by decide +kernel, by decide +kernel⟩
def so_terms (K : PySem.W.Frag) : Sp := fun vs H Q _ => ∃ (S : Addr → Prop) (v : V) (l : Addr) (d : PyData) (dim : Nat) (ws : List Nat) (most : Nat), vs = [v, .int (dim : Nat), .ref l, .int (most : Nat)] ∧ Od K S H v d ∧ H l = some (.lst (ws.map (fun n : Nat => V.int (n : Nat)))) ∧ ws.length ≤ 1000 ∧ most ≤ 8000 ∧ ∀ H', Same H H' → Q (.bl (jTerms d (dim : Nat) ws (most : Nat))) H'
set_option maxHeartbeats 1000000 in
theorem ok_are_terms {f : Addr} {fd : FuncData} {k : Nat} (F : Fun K "are_terms" "are_terms" s_are_terms f fd) (T : Tx K mg){k1 : Nat} (D_is_row : Def P w K mg base k1 "is_row" s_is_row ["thing", "low", "high"] (so_is_row K)) {k2 : Nat} (D_is_term : Def P w K mg base k2 "is_term" s_is_term ["thing", "dim", "widths"] (so_term K)) (e1 : k1 ≤ k) (e2 : k2 ≤ k) : FnOk P w K mg base CX0 (k + 1) f fd ["thing", "dim", "widths", "most"] (so_terms K) := by
  have nd := sc_are_terms.nd
  refine F.ok sc_are_terms (fun vs H Q E h => ?_) (fun cdv A outer s H vs Q E hr h => ?_)
  · obtain ⟨_, _, _, _, _, _, _, rfl, _⟩ := h
    rfl
  · obtain ⟨S, v, l, d, dim, ws, most, rfl, hd, hl, few, hmost, q⟩ := h
    have no : jTerms d (dim : Nat) ws (most : Nat) = false → ∀ H', Same H H' → Q (.bl false) H' := fun e H' s => by
      have := q H' s
      rwa [e] at this
    refine ⟨_, (pss_cons (ps_if (PW.pt (pw_or (pt_not (pt_val (pe_def D_is_row (hr.mono (by omega)) rfl (pa_cons (pv 0) (pa_cons pe_int (pa_cons (pv 3) pa_nil)))))) (pw_or1 (pt_not (pt_val (pe_callB (kcr_all K) (by rfl) T.m_all (by decide +kernel) (pa_cons (pe_lc (own := [("term", 4)]) (g := gName 4) (tt := tYes) rfl nd (kpi_tup K (pv 0)) (blkOk_by (by rfl)) (fun _ _ _ _ _ => (pg_name (i := 4) nd rfl (.inl rfl))) (fun _ _ _ _ _ => pts_nil) (fun _ _ _ _ _ => (pe_def D_is_term (hr.mono (by omega)) rfl (pa_cons (pv 4) (pa_cons (pv 1) (pa_cons (pv 2) pa_nil)))))) pa_nil)))))))
        (pss_one (ps_ret pe_bl))
        pss_nil)
      (pss_one (ps_ret (pe_callB (kcr_all K) (by rfl) T.m_all (by decide +kernel) (pa_cons (pe_lc (own := [("at", 5)]) (g := gName 5) (tt := tYes) rfl nd (pi_range2 rfl T.m_range (pa_cons pe_int (pa_cons (pe_callB (kcall_len K) (by rfl) T.m_len PySem.boot_len (pa_cons (pv 0) pa_nil)) pa_nil))) (blkOk_by (by rfl)) (fun _ _ _ _ _ => (pg_name (i := 5) nd rfl (.inl rfl))) (fun _ _ _ _ _ => pts_nil) (fun _ _ _ _ _ => (pe_cmpR (op_ltD K hr.units) (pe_slice (ksl_tupA K) (pe_ix (kix_tup K) (pv 0) (pe_op op_sub (pv 5) pe_int) (fun _ _ => rfl)) po_none (po_some pe_int)) (pe_slice (ksl_tupA K) (pe_ix (kix_tup K) (pv 0) (pv 5) (fun _ _ => rfl)) po_none (po_some pe_int)) (nomark _)))) pa_nil))))), ?_⟩
    refine ⟨v, rfl, .int most, rfl, S, v, d, 0, _, rfl, hd, jRow d 0 (most : Nat), rfl, ?_⟩
    cases h1 : jRow d 0 (most : Nat) with
    | false => exact iteT (no (by unfold jTerms; rw [h1]; rfl) H (Same.refl H))
    | true =>
    obtain ⟨ds, rfl, _, ln⟩ := jRow_tup h1
    obtain ⟨a, xs, rfl, ha, hx⟩ := hd.tuple_inv
    have lx := hx.len
    have sz : ds.length < sizeLine := Nat.lt_of_le_of_lt (show ds.length ≤ 8000 by omega) (by decide)
    refine iteF ⟨.ref a, rfl, a, rfl, ⟨_, ha.sq⟩, fun D hD => ?_⟩
    refine lc_all (walk_tup (xs := xs)) (fun i H2 => Same H H2 ∧ H2 D = some (.lst (((ds.take i).map fun t => jTerm t (dim : Nat) ws).map V.bl))) ⟨same_new hD, upd_same⟩ (fun i H2 _ z => (ha.mono (tk_same z.1)).sq) (fun i x H2 H3 hi z y => ?_) (fun H2 z => ?_)
    · obtain ⟨sm, eD⟩ := z
      obtain ⟨rfl, hxi⟩ := y
      obtain ⟨t, ht, ot⟩ := (hx.mono (fo_same sm)).getV hxi
      exact ⟨rfl, x, rfl, .int dim, rfl, .ref l, rfl, S, x, l, t, dim, ws, rfl, ot, sm _ _ hl, few, fun H5 s5 => ⟨_, s5 _ _ eD, by rw [List.length_map, List.length_map, List.length_take]; omega, bools_snoc (sm.trans s5) hD (s5 _ _ eD) ht⟩⟩
    · obtain ⟨sm, eD⟩ := z
      rw [lx, List.take_of_length_le (Nat.le_refl _)] at eD
      refine ⟨D, _, rfl, .of eD, _, rfl, ?_⟩
      rw [all_map]
      have ej : jTerms (.tuple ds) (dim : Nat) ws (most : Nat) = (ds.all (fun t => jTerm t (dim : Nat) ws) && (List.range (ds.length - 1)).all fun i => PySem.W.dataLt (kyD (ds.getD i .none)) (kyD (ds.getD (i + 1) .none))) := by
        show (jRow _ 0 _ && _) = _
        rw [h1]; rfl
      rw [ej] at q no
      cases hal : ds.all (fun t => jTerm t (dim : Nat) ws) with
      | false => exact iteT (no (by rw [hal]; rfl) _ sm)
      | true =>
      rw [hal] at q no
      obtain ⟨ts, rfl, _⟩ := terms_of hal
      have ha2 := ha.mono (tk_same sm)
      have hx2 := OdAll.im _ (noLs_tms ts) (hx.mono (fo_same sm))
      have lts : (ts.map tmD).length = ts.length := List.length_map ..
      rw [lts] at lx sz q no
      refine iteF ?_
      refine ⟨.ref a, rfl, a, xs, rfl, .inr ha2.sq, 1, (xs.length : Nat), rfl, ⟨by omega, by omega, by omega, by omega⟩, fun D2 hD2 => ?_⟩
      refine lc_all (walk_range (lo := 1) (n := ((xs.length : Nat) - (1 : Int)).toNat)) (fun i H3 => Same H2 H3 ∧ H3 D2 = some (.lst ((((List.range (ts.length - 1)).take i).map fun i => PySem.W.dataLt (kyD ((ts.map tmD).getD i .none)) (kyD ((ts.map tmD).getD (i + 1) .none))).map V.bl))) ⟨same_new hD2, upd_same⟩ (fun _ _ _ _ => trivial) (fun i x H3 H4 hi z y => ?_) (fun H3 z => ?_)
      · obtain ⟨s3, eD2⟩ := z
        obtain ⟨rfl, rfl⟩ := y
        have ha3 := ha2.mono (tk_same s3)
        have hx3 := ImAll.mono (tk_same s3) _ hx2
        have i1 : i < ts.length := by omega
        have i2 : i + 1 < ts.length := by omega
        obtain ⟨x, ex, ix⟩ := all_at hx3 (List.getElem?_eq_getElem i1)
        obtain ⟨y, ey, iy⟩ := all_at hx3 (List.getElem?_eq_getElem i2)
        have g1 : (ts.map tmD).getD i .none = tmD ts[i] := by rw [List.getD_eq_getElem?_getD, List.getElem?_map, List.getElem?_eq_getElem i1]; rfl
        have g2 : (ts.map tmD).getD (i + 1) .none = tmD ts[i + 1] := by rw [List.getD_eq_getElem?_getD, List.getElem?_map, List.getElem?_eq_getElem i2]; rfl
        have hri : (List.range (ts.length - 1))[i]? = some i := List.getElem?_range (by omega)
        generalize ts[i] = t1 at *
        generalize ts[i + 1] = t2 at *
        obtain ⟨pa, a1, a2, a3, rfl, hpa, ja1, ja2, ja3⟩ := im_trip ix
        obtain ⟨pb, b1, b2, b3, rfl, hpb, jb1, jb2, jb3⟩ := im_trip iy
        refine ⟨rfl, .ref a, rfl, .int (1 + (i : Int)), rfl, _, _, rfl, rfl, a, _, (1 + (i : Int)) - 1, .ref pa, rfl, rfl, ha3.sq, (by rw [show (1 + (i : Int)) - 1 = (i : Nat) by omega]; exact atI_nat ex), 2, rfl, sl_any hpa fun p1 H5 s5 hp1 => ?_⟩
        refine ⟨.ref a, rfl, .int (1 + (i : Int)), rfl, a, _, (1 + (i : Int)), .ref pb, rfl, rfl, (ha3.mono (tk_same s5)).sq, (by rw [show (1 + (i : Int)) = ((i + 1 : Nat) : Int) by omega]; exact atI_nat ey), 2, rfl, sl_any (hpb.mono (tk_same s5)) fun p2 H6 s6 hp2 => ?_⟩
        have c1 : cutV [a1, a2, a3] none (some 2) = [a1, a2] := cut_take (n := 2) (by show 2 ≤ 3; decide)
        have c2 : cutV [b1, b2, b3] none (some 2) = [b1, b2] := cut_take (n := 2) (by show 2 ≤ 3; decide)
        rw [c1] at hp1
        rw [c2] at hp2
        have t56 := (tk_same s5).trans (tk_same s6)
        refine ⟨keyT t1, keyT t2, ?_, ?_, alike_keyT _ _, by simp [keyT], keyT_depth _, ?_⟩
        · exact .tup (hp1.mono (tk_same s6)).sq (.cons (Im.dp _ (Im.mono t56 _ ja1)) (.cons (Im.dp _ (Im.mono t56 _ ja2)) .nil))
        · exact .tup hp2.sq (.cons (Im.dp _ (Im.mono t56 _ jb1)) (.cons (Im.dp _ (Im.mono t56 _ jb2)) .nil))
        · have s56 := s5.trans s6
          have bs := bools_snoc (j := fun i => PySem.W.dataLt (kyD ((ts.map tmD).getD i .none)) (kyD ((ts.map tmD).getD (i + 1) .none))) (s3.trans s56) hD2 (s56 _ _ eD2) hri
          have eb : PySem.W.dataLt (kyD ((ts.map tmD).getD i .none)) (kyD ((ts.map tmD).getD (i + 1) .none)) = PySem.W.dataLt (keyT t1) (keyT t2) := by rw [g1, g2, kyD_tm, kyD_tm]
          rw [eb] at bs
          exact ⟨_, s56 _ _ eD2, by rw [List.length_map, List.length_map, List.length_take, List.length_range]; omega, bs⟩
      · obtain ⟨s3, eD2⟩ := z
        rw [List.take_of_length_le (by rw [List.length_range]; omega)] at eD2
        refine ⟨D2, _, rfl, .of eD2, ?_⟩
        rw [all_map]
        exact q _ (sm.trans s3)
end
end K63

set_option Elab.async false
set_option linter.all false
set_option maxRecDepth 100000
set_option exponentiation.threshold 20000
set_option pp.deepTerms false
set_option pp.deepTerms.threshold 8
namespace K63
open PySem PySem.Spec PyProof.Rows L2 Ly Mt
/-! ### reads and maps, judged -/
def jRd0 (r : PyData) : Bool := jRow r 3 3 && jLow (p0 r)
def jRd1 (ks : List Kd) (dims : List Nat) (r : PyData) : Bool := match p1 r with
  | .str z => decide (z ∈ ks.map (·.1)) && jVec (p2 r) ((dims.getD ((ks.map (·.1)).idxOf z) 0 : Nat) : Int)
  | _ => false
def jReads (d : PyData) (ks : List Kd) (dims : List Nat) : Bool := jRow d 0 60 && ((its d).all jRd0 && ((its d).all (jRd1 ks dims) && decide ((its d).map fun r => stO (p0 r)).Nodup))
def jCell (ks : List Kd) (dims : List Nat) (most : Nat) (i : Nat) (kd : Kd) (row : PyData) (j : Nat) : Bool := jTerms ((its row).getD j .none) ((dims.getD i 0 : Nat) : Int) ((kd.2.getD j (noS, [])).2.map (wd (ks.map (·.1)) dims)) (most : Nat)
def jRowM (ks : List Kd) (dims : List Nat) (most : Nat) (i : Nat) (kd : Kd) (row : PyData) : Bool := jRow row (kd.2.length : Nat) (kd.2.length : Nat) && (List.range kd.2.length).all (jCell ks dims most i kd row)
def jMaps (d : PyData) (ks : List Kd) (dims : List Nat) (most : Nat) : Bool := jRow d (ks.length : Nat) (ks.length : Nat) && (List.range ks.length).all fun i => jRowM ks dims most i (ks.getD i (noS, [])) ((its d).getD i .none)
theorem jRd1_no {ks : List Kd} {dims : List Nat} {r : PyData} (h : jStr (p1 r) = false) : jRd1 ks dims r = false := by
  unfold jRd1
  cases e : p1 r <;> first | rfl | (rw [e] at h; cases h)
theorem range_all_succ {n : Nat} {f : Nat → Bool} (h : (List.range n).all f = true) (e : f n = true) : (List.range (n + 1)).all f = true := by
  rw [List.range_succ, List.all_append, h]
  show (true && (f n && true)) = true
  rw [e]; rfl
theorem range_all_no {n i : Nat} {f : Nat → Bool} (h : i < n) (e : f i = false) : (List.range n).all f = false := all_no (List.getElem?_range h) e
section
variable {P : Program} {w : World} {K : PySem.W.Frag} {mg : Str → Option Value} {base : Heap}
abbrev s_are_reads : Stmt := topS 31
theorem sc_are_reads : FnScope ["thing", "kinds", "dims", "sizes", "_", "kind", "vector", "read", "dim"] ["thing", "kinds", "dims"] (defScope s_are_reads) := ⟨rfl, rfl, rfl, by decide +kernel, rfl, by decide +kernel, by decide +kernel⟩
def so_reads (K : PySem.W.Frag) : Sp := fun vs H Q _ => ∃ (S : Addr → Prop) (v u z : V) (d : PyData) (ks : List Kd) (dims : List Nat), vs = [v, u, z] ∧ Od K S H v d ∧ Im K H u (ksD ks) ∧ Im K H z (nsD dims) ∧ KindsOk ks ∧ dims.length = ks.length ∧ (∀ d ∈ dims, d ≤ 32) ∧ ∀ H', Same H H' → Q (.bl (jReads d ks dims)) H'
set_option maxHeartbeats 1000000 in
theorem ok_are_reads {f : Addr} {fd : FuncData} {k : Nat} (F : Fun K "are_reads" "are_reads" s_are_reads f fd) (T : Tx K mg){k1 : Nat} (D_is_row : Def P w K mg base k1 "is_row" s_is_row ["thing", "low", "high"] (so_is_row K)) {k2 : Nat} (D_is_vector_of : Def P w K mg base k2 "is_vector_of" s_is_vector_of ["thing", "size"] (so_vec K)) {k3 : Nat} (D_is_low : Def P w K mg base k3 "is_low" s_is_low ["thing"] (so_is_low K)) {k4 : Nat} (D_all_unlike : Def P w K mg base k4 "all_unlike" s_all_unlike ["names"] (so_unlike K)) (e1 : k1 ≤ k) (e2 : k2 ≤ k) (e3 : k3 ≤ k) (e4 : k4 ≤ k) : FnOk P w K mg base CX0 (k + 1) f fd ["thing", "kinds", "dims"] (so_reads K) := by
  have nd := sc_are_reads.nd
  refine F.ok sc_are_reads (fun vs H Q E h => ?_) (fun cdv A outer s H vs Q E hr h => ?_)
  · obtain ⟨_, _, _, _, _, _, _, rfl, _⟩ := h
    rfl
  · obtain ⟨S, v, u, z, d, ks, dims, rfl, hd, iu, iz, ok, ld, d32, q⟩ := h
    have no : jReads d ks dims = false → ∀ H', Same H H' → Q (.bl false) H' := fun e H' s => by
      have := q H' s
      rwa [e] at this
    obtain ⟨b, ys, rfl, hb, hy⟩ := iu.tuple_inv
    obtain ⟨c, zs, rfl, hc, hz⟩ := iz.tuple_inv
    obtain rfl := im_nats hz
    have ly := all_len hy
    have kf := ok.few
    refine ⟨_, (pss_cons (ps_if (PW.pt (pw_or (pt_not (pt_val (pe_def D_is_row (hr.mono (by omega)) rfl (pa_cons (pv 0) (pa_cons pe_int (pa_cons (pe_gv rfl T.g_MOST_READS) pa_nil)))))) (pw_or1 (pt_not (pt_val (pe_callB (kcr_all K) (by rfl) T.m_all (by decide +kernel) (pa_cons (pe_lc (own := [("read", 7)]) (g := gName 7) (tt := tYes) rfl nd (kpi_tup K (pv 0)) (blkOk_by (by rfl)) (fun _ _ _ _ _ => (pg_name (i := 7) nd rfl (.inl rfl))) (fun _ _ _ _ _ => pts_nil) (fun _ _ _ _ _ => (pe_and (pe_def D_is_row (hr.mono (by omega)) rfl (pa_cons (pv 7) (pa_cons pe_int (pa_cons pe_int pa_nil)))) (pe_one (pe_def D_is_low (hr.mono (by omega)) rfl (pa_cons (pe_ix (kix_tup K) (pv 7) pe_int (fun _ _ => rfl)) pa_nil)))))) pa_nil)))))))
        (pss_one (ps_ret pe_bl))
        pss_nil)
      (pss_cons (ps_setDc (i := 3) (own := [("kind", 5), ("dim", 8)]) (g := _) (tt := tYes) rfl nd rfl rfl (sw_trueD rfl rfl rfl (by decide +kernel)) (kpi_zip K (by rfl) T.m_zip (pa_cons (pv 1) (pa_cons (pv 2) pa_nil))) (blkOk_by (by rfl)) (fun _ _ _ _ _ => (kpg_tup K (n := 2) rfl (pgs_cons (pg_name (i := 5) nd rfl (.inl rfl)) (pgs_cons (pg_name (i := 8) nd rfl (.inl rfl)) pgs_nil)))) (fun _ _ _ _ _ => pts_nil) (fun _ _ _ _ _ => (pe_ix (kix_tup K) (pv 5) pe_int (fun _ _ => rfl))) (fun _ _ _ _ _ => (pv 8)))
      (pss_cons (ps_for PassesOwn.never rfl (kpi_tup K (pv 0)) (kpg_tup K (n := 3) rfl (pgs_cons (pg_name (i := 4) nd rfl (.inl rfl)) (pgs_cons (pg_name (i := 5) nd rfl (.inl rfl)) (pgs_cons (pg_name (i := 6) nd rfl (.inl rfl)) pgs_nil))))
        (pss_one (ps_if (PW.pt (pw_or (pt_not (pt_val (pe_callB (kcall_isi K) (by rfl) T.m_isinstance (by decide +kernel) (pa_cons (pv 5) (pa_cons (pe_bltn (v := .ty "str") (u := .type "str") (by rfl) T.m_str (by decide +kernel) rfl) pa_nil))))) (pw_or (pt_cmp (pc_dnotin (hu_of hr) (pv 5) (pv 3))) (pw_or1 (pt_not (pt_val (pe_def D_is_vector_of (hr.mono (by omega)) rfl (pa_cons (pv 6) (pa_cons (pe_dget (hu_of hr) (pv 3) (pv 5) (fun _ _ => rfl)) pa_nil)))))))))
          (pss_one (ps_ret pe_bl))
          pss_nil)))
      (pss_one (ps_ret (pe_def D_all_unlike (hr.mono (by omega)) rfl (pa_cons (pe_lc (own := [("read", 7)]) (g := gName 7) (tt := tYes) rfl nd (kpi_tup K (pv 0)) (blkOk_by (by rfl)) (fun _ _ _ _ _ => (pg_name (i := 7) nd rfl (.inl rfl))) (fun _ _ _ _ _ => pts_nil) (fun _ _ _ _ _ => (pe_ix (kix_tup K) (pv 7) pe_int (fun _ _ => rfl)))) pa_nil))))))), ?_⟩
    refine ⟨v, rfl, S, v, d, 0, 60, rfl, hd, jRow d 0 60, rfl, ?_⟩
    cases h1 : jRow d 0 60 with
    | false => exact iteT (no (by unfold jReads; rw [h1]; rfl) H (Same.refl H))
    | true =>
    obtain ⟨ds, rfl, _, few⟩ := jRow_tup h1
    obtain ⟨a, xs, rfl, ha, hx⟩ := hd.tuple_inv
    have lx := hx.len
    refine iteF ⟨.ref a, rfl, a, rfl, ⟨_, ha.sq⟩, fun D hD => ?_⟩
    refine lc_all (walk_tup (xs := xs)) (fun i H2 => Same H H2 ∧ H2 D = some (.lst (((ds.take i).map jRd0).map V.bl))) ⟨same_new hD, upd_same⟩ (fun i H2 _ z => (ha.mono (tk_same z.1)).sq) (fun i x H2 H3 hi z y => ?_) (fun H2 z => ?_)
    · obtain ⟨sm, eD⟩ := z
      obtain ⟨rfl, hxi⟩ := y
      obtain ⟨r, hr', or⟩ := (hx.mono (fo_same sm)).getV hxi
      have la : (((ds.take i).map jRd0).map V.bl).length < sizeLine := small1000 (by rw [List.length_map, List.length_map, List.length_take]; omega)
      refine ⟨rfl, x, rfl, S, x, r, 3, 3, rfl, or, jRow r 3 3, rfl, ?_⟩
      cases h3 : jRow r 3 3 with
      | false =>
        have bs := bools_snoc (j := jRd0) sm hD eD hr'
        rw [show jRd0 r = false by unfold jRd0; rw [h3]; rfl] at bs
        exact iteF ⟨_, eD, la, bs⟩
      | true =>
        have et := tup3 h3
        rw [et] at or
        obtain ⟨p, rs, rfl, hp, hrs⟩ := or.tuple_inv
        obtain ⟨x1, r1, rfl, o1, hr1⟩ := hrs.cons_inv
        refine iteT ⟨.ref p, rfl, p, _, 0, _, rfl, rfl, hp.sq, atI_nat (j := 0) rfl, S, x1, p0 r, rfl, o1, fun H5 s5 => ⟨_, s5 _ _ eD, la, ?_⟩⟩
        have bs := bools_snoc (j := jRd0) (sm.trans s5) hD (s5 _ _ eD) hr'
        rw [show jRd0 r = jLow (p0 r) by unfold jRd0; rw [h3]; rfl] at bs
        exact bs
    · obtain ⟨s2, eD⟩ := z
      rw [lx, List.take_of_length_le (Nat.le_refl _)] at eD
      refine ⟨D, _, rfl, .of eD, _, rfl, ?_⟩
      rw [all_map]
      have ej : jReads (.tuple ds) ks dims = (ds.all jRd0 && (ds.all (jRd1 ks dims) && decide (ds.map fun r => stO (p0 r)).Nodup)) := by
        show (jRow _ 0 60 && _) = _
        rw [h1]; rfl
      rw [ej] at q no
      cases hal : ds.all jRd0 with
      | false => exact iteT (no (by rw [hal]; rfl) _ s2)
      | true =>
      rw [hal] at q no
      have rd0 : ∀ {i : Nat} {r : PyData}, ds[i]? = some r → r = .tuple [p0 r, p1 r, p2 r] ∧ jLow (p0 r) = true := fun {i r} h => by
        have := all_get' hal h
        unfold jRd0 at this
        rw [Bool.and_eq_true] at this
        exact ⟨tup3 this.1, this.2⟩
      refine iteF ?_
      refine ⟨.ref b, rfl, .ref c, rfl, b, c, _, _, rfl, .inr ⟨(hb.mono (tk_same s2)).sq, (hc.mono (tk_same s2)).sq, fun d0 hd0 => ?_⟩⟩
      have lz : ys.length = (dims.map fun n : Nat => V.int (n : Nat)).length := by rw [List.length_map, ly]; exact ld.symm
      refine dc_all (walk_zipT (xs := ys) (ys := dims.map fun n : Nat => V.int (n : Nat)) lz) (fun i Hx => Same H2 Hx ∧ Hx d0 = some (.dK (tabV (ks.map (·.1)) (fun t => V.int ((dims.getD t 0 : Nat) : Int)) i))) ⟨same_new hd0, upd_same⟩ (fun i Hx _ z => ⟨(hb.mono (tk_same (s2.trans z.1))).sq, (hc.mono (tk_same (s2.trans z.1))).sq⟩) (fun i x Hx Hy hi z y => ?_) (fun H3 z => ?_)
      · obtain ⟨sm, eD⟩ := z
        obtain ⟨T, x1, x2, rfl, hT, rfl, e1, e2⟩ := y
        simp only [List.getElem?_map] at e2
        obtain ⟨dm, hdm, rfl⟩ := Option.map_eq_some_iff.mp e2
        obtain ⟨kd, hkd, ikd⟩ := all_get (ImAll.mono (tk_same (s2.trans sm)) _ hy) e1
        obtain ⟨pk, u1, u2, rfl, hpk, iu1, iu2⟩ := im_pair ikd
        obtain rfl := iu1.str_inv
        have sT := same_new (o := .tup [.ref pk, .int (dm : Nat)]) hT
        have en : (ks.map (·.1)).getD i noS = kd.1 := by
          rw [List.getD_eq_getElem?_getD, List.getElem?_map, hkd]; rfl
        have ed : dims.getD i 0 = dm := by rw [List.getD_eq_getElem?_getD, hdm]; rfl
        refine ⟨T, _, rfl, .of upd_same, rfl, .ref pk, _, rfl, .int (dm : Nat), _, rfl, rfl, rfl, .ref pk, rfl, pk, _, 0, _, rfl, rfl, (hpk.mono (tk_same sT)).sq, atI_nat (j := 0) rfl, .int (dm : Nat), rfl, _, Sum.inr kd.1, rfl, sT _ _ eD, small1000 (by unfold tabV; rw [List.length_map, List.length_range]; omega), fun b' o e => ?_, ?_⟩
        · rw [upd_ne (ne_of_none e hd0)]; exact sT _ _ (sm _ _ e)
        · rw [upd_same, tabV_succ, en, ed]
          congr 2
          exact putK_new _ (by rw [← en]; exact tab_new ok.nd (by rw [List.length_map]; omega))
      · obtain ⟨sm, eD⟩ := z
        rw [ly] at eD
        have s3 := s2.trans sm
        refine ⟨.ref a, rfl, a, rfl, ⟨_, (ha.mono (tk_same s3)).sq⟩, ?_⟩
        refine for_it (walk_tup (xs := xs)) (fun j σ Hb => ∃ (y4 y5 y6 : Option V), σ = [some (.ref a), some (.ref b), some (.ref c), some (.ref d0), y4, y5, y6, none, none] ∧ Same H3 Hb ∧ (ds.take j).all (jRd1 ks dims) = true) ⟨_, _, _, rfl, Same.refl _, rfl⟩ (fun j σ Hb _ z => ?_) ?_ ?_
        · obtain ⟨_, _, _, _, s6, _⟩ := z
          exact (ha.mono (tk_same (s3.trans s6))).sq
        · rintro j x σ Hb Hc hj ⟨y4, y5, y6, rfl, s6, al⟩ ⟨rfl, hxj⟩
          have s7 := s3.trans s6
          obtain ⟨r, hr', or⟩ := (hx.mono (fo_same s7)).getV hxj
          obtain ⟨et, lo⟩ := rd0 hr'
          rw [et] at or
          obtain ⟨p, rs, rfl, hp, hrs⟩ := or.tuple_inv
          obtain ⟨x1, r1, rfl, o1, hr1⟩ := hrs.cons_inv
          obtain ⟨x2, r2, rfl, o2, hr2⟩ := hr1.cons_inv
          obtain ⟨x3, r3, rfl, o3, hr3⟩ := hr2.cons_inv
          obtain rfl := hr3.nil_inv
          have noR : jRd1 ks dims r = false → ∀ H', Same Hc H' → Q (.bl false) H' := fun e H' s => no (by rw [all_no hr' e]; rfl) H' (s7.trans s)
          refine ⟨p, _, rfl, hp.sq, rfl, x1, _, rfl, x2, _, rfl, x3, _, rfl, rfl, ?_⟩
          refine ⟨x2, rfl, x2, _, .type (tyName (p1 r)), _, jStr (p1 r), rfl, .ty _, od_ty o2, kit_ty (kit_str (p1 r)), jStr (p1 r), rfl, ?_⟩
          rcases o2.str_or with ⟨zz, rfl, ezz, lz2⟩ | n
          · rw [ezz]
            have g : DGet Hc d0 (kV (Sum.inr zz)) (valV (tabV (ks.map (·.1)) (fun t => V.int ((dims.getD t 0 : Nat) : Int)) ks.length) (Sum.inr zz)) := .k (s6 _ _ eD)
            have er : jRd1 ks dims r = (decide (zz ∈ ks.map (·.1)) && jVec (p2 r) ((dims.getD ((ks.map (·.1)).idxOf zz) 0 : Nat) : Int)) := by unfold jRd1; rw [ezz]
            by_cases hk : zz ∈ ks.map (·.1)
            · have tg := tab_get (g := fun t => V.int ((dims.getD t 0 : Nat) : Int)) ok.nd hk
              rw [List.length_map] at tg
              rw [tg] at g
              have g2 : DGet Hc d0 (.str zz) (some (.int (dims.getD ((ks.map (·.1)).idxOf zz) 0 : Nat))) := g
              rw [decide_eq_true hk, Bool.true_and] at er
              have l32 : dims.getD ((ks.map (·.1)).idxOf zz) 0 ≤ 32 := by
                rw [List.getD_eq_getElem?_getD]
                by_cases hh : (ks.map (·.1)).idxOf zz < dims.length
                · rw [List.getElem?_eq_getElem hh]
                  exact d32 _ (List.getElem_mem hh)
                · rw [List.getElem?_eq_none (by omega)]; decide
              refine iteF ⟨.str zz, rfl, .ref d0, rfl, d0, _, rfl, g2, false, rfl, iteF ?_⟩
              refine ⟨x3, rfl, .ref d0, rfl, .str zz, rfl, d0, _, rfl, g2, S, x3, p2 r, _, rfl, by omega, o3, fun H5 s5 => ⟨_, rfl, ?_⟩⟩
              cases hv : jVec (p2 r) ((dims.getD ((ks.map (·.1)).idxOf zz) 0 : Nat) : Int) with
              | false => exact iteT (noR (by rw [er, hv]) _ s5)
              | true =>
                refine iteF ⟨_, _, _, rfl, s6.trans s5, ?_⟩
                rw [List.take_add_one, hr', List.all_append, al]
                show (true && (jRd1 ks dims r && true)) = true
                rw [er, hv]; rfl
            · have nv : valV (tabV (ks.map (·.1)) (fun t => V.int ((dims.getD t 0 : Nat) : Int)) ks.length) (Sum.inr zz) = none := valV_none fun z => by
                obtain ⟨p', hp', e'⟩ := List.mem_map.mp z
                unfold tabV at hp'
                obtain ⟨i', hi', rfl⟩ := List.mem_map.mp hp'
                have hi'' := List.mem_range.mp hi'
                have e2 : (ks.map (·.1)).getD i' noS = zz := Sum.inr.inj e'
                refine hk ?_
                rw [← e2, List.getD_eq_getElem?_getD, List.getElem?_eq_getElem (by rw [List.length_map]; exact hi'')]
                exact List.getElem_mem _
              rw [nv] at g
              have g2 : DGet Hc d0 (.str zz) none := g
              rw [decide_eq_false hk] at er
              exact iteF ⟨.str zz, rfl, .ref d0, rfl, d0, _, rfl, g2, true, rfl, iteT (noR (by rw [er]; rfl) _ (Same.refl _))⟩
          · rw [n]
            exact iteT (noR (jRd1_no n) _ (Same.refl _))
        · rintro σ Hb ⟨y4, y5, y6, rfl, s6, al⟩
          rw [lx, List.take_of_length_le (Nat.le_refl _)] at al
          rw [al] at q
          have s7 := s3.trans s6
          have ha7 := ha.mono (tk_same s7)
          refine ⟨.ref a, rfl, a, rfl, ⟨_, ha7.sq⟩, fun D3 hD3 => ?_⟩
          refine lc_all (walk_tup (xs := xs)) (fun i Hx => Same Hb Hx ∧ Hx D3 = some (.lst (((ds.take i).map fun r => stO (p0 r)).map V.str))) ⟨same_new hD3, upd_same⟩ (fun i Hx _ z => (ha7.mono (tk_same z.1)).sq) (fun i x Hx Hy hi z y => ?_) (fun Hx z => ?_)
          · obtain ⟨s8, eD3⟩ := z
            obtain ⟨rfl, hxi⟩ := y
            obtain ⟨r, hr', or⟩ := (hx.mono (fo_same (s7.trans s8))).getV hxi
            obtain ⟨et, lo⟩ := rd0 hr'
            rw [et] at or
            obtain ⟨p, rs, rfl, hp, hrs⟩ := or.tuple_inv
            obtain ⟨x1, r1, rfl, o1, hr1⟩ := hrs.cons_inv
            have ⟨zz, ezz⟩ : ∃ z, p0 r = .str z := by
              cases hh : p0 r <;> first | exact ⟨_, rfl⟩ | (rw [hh] at lo; cases lo)
            rw [ezz] at o1
            obtain rfl := o1.str_inv
            refine ⟨rfl, .ref p, rfl, p, _, 0, _, rfl, rfl, hp.sq, atI_nat (j := 0) rfl, _, eD3, small1000 (by rw [List.length_map, List.length_map, List.length_take]; omega), fun b o e => ?_, ?_⟩
            · rw [upd_ne (ne_of_none e hD3)]; exact s8 _ _ e
            · rw [upd_same, List.take_add_one, hr', List.map_append, List.map_append]
              show _ = some (HO.lst (_ ++ [V.str (stO (p0 r))]))
              rw [ezz]; rfl
          · obtain ⟨s8, eD3⟩ := z
            rw [lx, List.take_of_length_le (Nat.le_refl _)] at eD3
            exact ⟨D3, _, rfl, eD3, by rw [List.length_map]; omega, q _ (s7.trans s8)⟩
end
end K63

set_option Elab.async false
set_option linter.all false
set_option maxRecDepth 100000
set_option exponentiation.threshold 20000
set_option pp.deepTerms false
set_option pp.deepTerms.threshold 8
namespace K63
open PySem PySem.Spec PyProof.Rows L2 Ly Mt
section
variable {P : Program} {w : World} {K : PySem.W.Frag} {mg : Str → Option Value} {base : Heap}
abbrev s_are_maps : Stmt := topS 32
theorem sc_are_maps : FnScope ["thing", "kinds", "dims", "most", "table", "_", "makers", "dim", "row", "maker", "terms"] ["thing", "kinds", "dims", "most"] (defScope s_are_maps) := ⟨rfl, rfl, rfl, by decide +kernel, rfl, by decide +kernel, by decide +kernel⟩
def so_maps (K : PySem.W.Frag) : Sp := fun vs H Q _ => ∃ (S : Addr → Prop) (v u z : V) (d : PyData) (ks : List Kd) (dims : List Nat) (most : Nat), vs = [v, u, z, .int (most : Nat)] ∧ Od K S H v d ∧ Im K H u (ksD ks) ∧ Im K H z (nsD dims) ∧ KindsOk ks ∧ dims.length = ks.length ∧ most ≤ 8000 ∧ ∀ H', Same H H' → Q (.bl (jMaps d ks dims most)) H'
set_option maxHeartbeats 1000000 in
theorem ok_are_maps {f : Addr} {fd : FuncData} {k : Nat} (F : Fun K "are_maps" "are_maps" s_are_maps f fd) (T : Tx K mg){k1 : Nat} (D_is_row : Def P w K mg base k1 "is_row" s_is_row ["thing", "low", "high"] (so_is_row K)) {k2 : Nat} (D_maker_table : Def P w K mg base k2 "maker_table" s_maker_table ["kinds"] (sp_maker_table K)) {k3 : Nat} (D_are_terms : Def P w K mg base k3 "are_terms" s_are_terms ["thing", "dim", "widths", "most"] (so_terms K)) {k4 : Nat} (D_widths_of : Def P w K mg base k4 "widths_of" s_widths_of ["fields", "dims"] (sp_widths K)) (e1 : k1 ≤ k) (e2 : k2 ≤ k) (e3 : k3 ≤ k) (e4 : k4 ≤ k) : FnOk P w K mg base CX0 (k + 1) f fd ["thing", "kinds", "dims", "most"] (so_maps K) := by
  have nd := sc_are_maps.nd
  refine F.ok sc_are_maps (fun vs H Q E h => ?_) (fun cdv A outer s H vs Q E hr h => ?_)
  · obtain ⟨_, _, _, _, _, _, _, _, rfl, _⟩ := h
    rfl
  · obtain ⟨S, v, u, z, d0, ks, dims, most, rfl, hd, iu, iz, ok, ld, m8, q⟩ := h
    have no : jMaps d0 ks dims most = false → ∀ H', Same H H' → Q (.bl false) H' := fun e H' s => by
      have := q H' s
      rwa [e] at this
    obtain ⟨b, ys, rfl, hb, hy⟩ := iu.tuple_inv
    obtain ⟨c, zs, rfl, hc, hz⟩ := iz.tuple_inv
    obtain rfl := im_nats hz
    have ly : ys.length = ks.length := all_len hy
    have kf := ok.few
    refine ⟨_, (pss_cons (ps_if (pt_not (pt_val (pe_def D_is_row (hr.mono (by omega)) rfl (pa_cons (pv 0) (pa_cons (pe_callB (kcall_len K) (by rfl) T.m_len PySem.boot_len (pa_cons (pv 1) pa_nil)) (pa_cons (pe_callB (kcall_len K) (by rfl) T.m_len PySem.boot_len (pa_cons (pv 1) pa_nil)) pa_nil))))))
        (pss_one (ps_ret pe_bl))
        pss_nil)
      (pss_cons (ps_set (i := 4) nd rfl (.inl rfl) (pe_def D_maker_table (hr.mono (by omega)) rfl (pa_cons (pv 1) pa_nil)))
      (pss_cons (ps_for PassesOwn.never rfl (kpi_zipT3 K (by rfl) T.m_zip (pa_cons (pv 1) (pa_cons (pv 2) (pa_cons (pv 0) pa_nil)))) (kpg_tup K (n := 3) rfl (pgs_cons (kpg_tup K (n := 2) rfl (pgs_cons (pg_name (i := 5) nd rfl (.inl rfl)) (pgs_cons (pg_name (i := 6) nd rfl (.inl rfl)) pgs_nil))) (pgs_cons (pg_name (i := 7) nd rfl (.inl rfl)) (pgs_cons (pg_name (i := 8) nd rfl (.inl rfl)) pgs_nil))))
        (pss_cons (ps_if (pt_not (pt_val (pe_def D_is_row (hr.mono (by omega)) rfl (pa_cons (pv 8) (pa_cons (pe_callB (kcall_len K) (by rfl) T.m_len PySem.boot_len (pa_cons (pv 6) pa_nil)) (pa_cons (pe_callB (kcall_len K) (by rfl) T.m_len PySem.boot_len (pa_cons (pv 6) pa_nil)) pa_nil))))))
          (pss_one (ps_ret pe_bl))
          pss_nil)
        (pss_one (ps_for PassesOwn.never rfl (kpi_zip K (by rfl) T.m_zip (pa_cons (pv 6) (pa_cons (pv 8) pa_nil))) (kpg_tup K (n := 2) rfl (pgs_cons (kpg_tup K (n := 2) rfl (pgs_cons (pg_name (i := 9) nd rfl (.inl rfl)) (pgs_cons (pg_name (i := 5) nd rfl (.inl rfl)) pgs_nil))) (pgs_cons (pg_name (i := 10) nd rfl (.inl rfl)) pgs_nil)))
          (pss_one (ps_if (pt_not (pt_val (pe_def D_are_terms (hr.mono (by omega)) rfl (pa_cons (pv 10) (pa_cons (pv 7) (pa_cons (pe_def D_widths_of (hr.mono (by omega)) rfl (pa_cons (pe_ix (kix_tup K) (pe_dget (hu_of hr) (pv 4) (pv 9) (fun _ _ => rfl)) pe_int (fun _ _ => rfl)) (pa_cons (pv 2) pa_nil))) (pa_cons (pv 3) pa_nil)))))))
            (pss_one (ps_ret pe_bl))
            pss_nil))))))
      (pss_one (ps_ret pe_bl))))), ?_⟩
    refine ⟨v, rfl, .ref b, rfl, b, ys, rfl, .inr hb.sq, .ref b, rfl, b, ys, rfl, .inr hb.sq, ?_⟩
    rw [ly]
    refine ⟨S, v, d0, _, _, rfl, hd, jRow d0 (ks.length : Nat) (ks.length : Nat), rfl, ?_⟩
    cases h1 : jRow d0 (ks.length : Nat) (ks.length : Nat) with
    | false => exact iteT (no (by unfold jMaps; rw [h1]; rfl) H (Same.refl H))
    | true =>
    obtain ⟨ds, rfl, l1, l2⟩ := jRow_tup h1
    obtain ⟨a, xs, rfl, ha, hx⟩ := hd.tuple_inv
    have lx := hx.len
    have ej : jMaps (.tuple ds) ks dims most = (List.range ks.length).all fun i => jRowM ks dims most i (ks.getD i (noS, [])) (ds.getD i .none) := by
      show (jRow _ _ _ && _) = _
      rw [h1]; rfl
    rw [ej] at q no
    refine iteF ?_
    refine ⟨.ref b, rfl, .ref b, ks, rfl, .tup hb hy, ok, fun d H1 s1 hd1 tb => ?_⟩
    have hb1 := hb.mono (tk_same s1)
    have hc1 := hc.mono (tk_same s1)
    have ha1 := ha.mono (tk_same s1)
    refine ⟨.ref b, rfl, .ref c, rfl, .ref a, rfl, b, c, a, _, _, _, rfl, hb1.sq, hc1.sq, ha1.sq, ?_⟩
    have lz : ys.length = (dims.map fun n : Nat => V.int (n : Nat)).length := by rw [List.length_map, ly]; exact ld.symm
    refine for_it (walk_zipT3 (xs := ys) (ys := dims.map fun n : Nat => V.int (n : Nat)) (zs := xs) lz (by omega)) (fun j σ Hb => ∃ (y5 y6 y7 y8 y9 y10 : Option V), σ = [some (.ref a), some (.ref b), some (.ref c), some (.int (most : Nat)), some (.ref d), y5, y6, y7, y8, y9, y10] ∧ Same H1 Hb ∧ ((List.range j).all fun i => jRowM ks dims most i (ks.getD i (noS, [])) (ds.getD i .none)) = true) ⟨_, _, _, _, _, _, rfl, Same.refl _, rfl⟩ (fun j σ Hb _ z => ?_) ?_ ?_
    · obtain ⟨_, _, _, _, _, _, _, s6, _⟩ := z
      exact ⟨(hb1.mono (tk_same s6)).sq, (hc1.mono (tk_same s6)).sq, (ha1.mono (tk_same s6)).sq⟩
    · rintro i x σ Hb Hc hi ⟨y5, y6, y7, y8, y9, y10, rfl, s6, al⟩ ⟨T, x1, x2, x3, rfl, hT, rfl, e1, e2, e3⟩
      simp only [List.getElem?_map] at e2
      obtain ⟨dm, hdm, rfl⟩ := Option.map_eq_some_iff.mp e2
      have sH := s1.trans s6
      obtain ⟨kd, hkd, ikd⟩ := all_get (ImAll.mono (tk_same sH) _ hy) e1
      obtain ⟨row, hrow, orow⟩ := (hx.mono (fo_same sH)).getV e3
      obtain ⟨pk, u1, u2, rfl, hpk, iu1, iu2⟩ := im_pair ikd
      obtain rfl := iu1.str_inv
      obtain ⟨pm, us, rfl, hpm, ius⟩ := iu2.tuple_inv
      have kmem := List.mem_of_getElem? hkd
      have lki := (List.getElem?_eq_some_iff.mp hkd).1
      have lus : us.length = kd.2.length := all_len ius
      have mk6 := ok.mks kd kmem
      have ek : ks.getD i (noS, []) = kd := by rw [List.getD_eq_getElem?_getD, hkd]; rfl
      have er : ds.getD i .none = row := by rw [List.getD_eq_getElem?_getD, hrow]; rfl
      have noR : jRowM ks dims most i kd row = false → ∀ H', Same H H' → Q (.bl false) H' := fun e => no (range_all_no lki (by rw [ek, er]; exact e))
      have sT := same_new (o := .tup [.ref pk, .int (dm : Nat), x3]) hT
      refine ⟨T, _, rfl, .of upd_same, rfl, .ref pk, _, rfl, pk, _, rfl, (hpk.mono (tk_same sT)).sq, rfl, .str kd.1, _, rfl, .ref pm, _, rfl, rfl, .int (dm : Nat), _, rfl, x3, _, rfl, rfl, ?_⟩
      have hpm2 := hpm.mono (tk_same sT)
      have orow2 := orow.mono (fo_same sT)
      have ius2 := ImAll.mono (tk_same sT) _ ius
      have s7 := s6.trans sT
      generalize upd Hb T (.tup [.ref pk, .int (dm : Nat), x3]) = H2 at *
      refine ⟨x3, rfl, .ref pm, rfl, pm, us, rfl, .inr hpm2.sq, .ref pm, rfl, pm, us, rfl, .inr hpm2.sq, ?_⟩
      rw [lus]
      refine ⟨S, x3, row, _, _, rfl, orow2, jRow row (kd.2.length : Nat) (kd.2.length : Nat), rfl, ?_⟩
      cases h2 : jRow row (kd.2.length : Nat) (kd.2.length : Nat) with
      | false => exact iteT (noR (by unfold jRowM; rw [h2]; rfl) _ (s1.trans s7))
      | true =>
      obtain ⟨cs, rfl, c1, c2⟩ := jRow_tup h2
      obtain ⟨pr, ws, rfl, hpr2, ows2⟩ := orow2.tuple_inv
      have lws := ows2.len
      have ejR : jRowM ks dims most i kd (.tuple cs) = (List.range kd.2.length).all (jCell ks dims most i kd (.tuple cs)) := by
        unfold jRowM
        rw [h2]; rfl
      rw [ejR] at noR
      refine iteF ?_
      refine ⟨.ref pm, rfl, .ref pr, rfl, pm, pr, _, _, rfl, .inr ⟨hpm2.sq, hpr2.sq, ?_⟩⟩
      refine for_it (walk_zipT (xs := us) (ys := ws) (by omega)) (fun j σ Hd => ∃ (y5 y9 y10 : Option V), σ = [some (.ref a), some (.ref b), some (.ref c), some (.int (most : Nat)), some (.ref d), y5, some (.ref pm), some (.int (dm : Nat)), some (.ref pr), y9, y10] ∧ Same H2 Hd ∧ (List.range j).all (jCell ks dims most i kd (.tuple cs)) = true) ⟨_, _, _, rfl, Same.refl _, rfl⟩ (fun j σ Hd _ z => ?_) ?_ ?_
      · obtain ⟨_, _, _, _, s8, _⟩ := z
        exact ⟨(hpm2.mono (tk_same s8)).sq, (hpr2.mono (tk_same s8)).sq⟩
      · rintro j x σ Hd He hj ⟨y5, y9, y10, rfl, s8, al2⟩ ⟨T2, x1, x2, rfl, hT2, rfl, f1, f2⟩
        obtain ⟨m, hm, im⟩ := all_get (ImAll.mono (tk_same s8) _ ius2) f1
        obtain ⟨ts, hts, ots⟩ := (ows2.mono (fo_same s8)).getV f2
        obtain ⟨pp, w1, w2, rfl, hpp, iw1, iw2⟩ := im_pair im
        obtain rfl := iw1.str_inv
        have lj := (List.getElem?_eq_some_iff.mp hm).1
        have em : kd.2.getD j (noS, []) = m := by rw [List.getD_eq_getElem?_getD, hm]; rfl
        have ets : (its (.tuple cs)).getD j .none = ts := by rw [List.getD_eq_getElem?_getD, show (its (.tuple cs))[j]? = some ts from hts]; rfl
        have edm : dims.getD i 0 = dm := by rw [List.getD_eq_getElem?_getD, hdm]; rfl
        have ec : jCell ks dims most i kd (.tuple cs) j = jTerms ts (dm : Nat) (m.2.map (wd (ks.map (·.1)) dims)) (most : Nat) := by
          unfold jCell
          rw [em, ets, edm]
        have sT2 := same_new (o := .tup [.ref pp, x2]) hT2
        refine ⟨T2, _, rfl, .of upd_same, rfl, .ref pp, _, rfl, pp, _, rfl, (hpp.mono (tk_same sT2)).sq, rfl, .str m.1, _, rfl, w2, _, rfl, rfl, x2, _, rfl, rfl, ?_⟩
        have s9 := (s7.trans s8).trans sT2
        have tb9 := tb.same s9
        obtain ⟨vr, gr, ir⟩ := tb_get tb9 ok hkd hm
        obtain ⟨qr, r1, r2, r3, rfl, hqr, ir1, ir2, ir3⟩ := im_trip ir
        have ots9 := ots.mono (fo_same sT2)
        have iz9 : Im K (upd Hd T2 (.tup [.ref pp, x2])) (.ref c) (nsD dims) := Im.mono (tk_same (s1.trans s9)) _ (.tup hc hz)
        generalize upd Hd T2 (.tup [.ref pp, x2]) = H9 at *
        have l4 := (ok.mkk _ kmem _ (List.mem_of_getElem? hm)).2
        have ir3' : Im K H9 r3 (.tuple ((m.2.map (placeOf (ks.map (·.1)))).map .int)) := ir3
        refine ⟨x2, rfl, .int (dm : Nat), rfl, .ref d, rfl, .str m.1, rfl, d, _, rfl, gr, qr, _, 2, r3, rfl, rfl, hqr.sq, atI_nat (j := 2) rfl, .ref c, rfl, r3, .ref c, _, dims, rfl, ir3', iz9, by rw [List.length_map]; omega, fun f hf => ?_, fun Dw H10 s10 hDw eDw => ?_⟩
        · obtain ⟨f', _, rfl⟩ := List.mem_map.mp hf
          have := place_in (ns := ks.map (·.1)) f'
          rw [List.length_map] at this
          rw [ld]; exact this
        · have ewd : (m.2.map (placeOf (ks.map (·.1)))).map (wdI dims) = m.2.map (wd (ks.map (·.1)) dims) := by
            rw [List.map_map]
            exact List.map_congr_left fun f _ => wdI_place f
          rw [ewd] at eDw
          refine ⟨.int (most : Nat), rfl, S, x2, Dw, ts, dm, _, most, rfl, ots9.mono (fo_same s10), eDw, by rw [List.length_map]; omega, m8, fun H11 s11 => ⟨_, rfl, ?_⟩⟩
          have sEnd := (s9.trans s10).trans s11
          cases hj2 : jTerms ts (dm : Nat) (m.2.map (wd (ks.map (·.1)) dims)) (most : Nat) with
          | false => exact iteT (noR (range_all_no lj (by rw [ec, hj2])) _ (s1.trans sEnd))
          | true => exact iteF ⟨_, _, _, rfl, ((s8.trans sT2).trans s10).trans s11, range_all_succ al2 (by rw [ec, hj2])⟩
      · rintro σ Hd ⟨y5, y9, y10, rfl, s8, al2⟩
        rw [lus] at al2
        exact ⟨_, _, _, _, _, _, rfl, s7.trans s8, range_all_succ al (by rw [ek, er, ejR]; exact al2)⟩
    · rintro σ Hb ⟨y5, y6, y7, y8, y9, y10, rfl, s6, al⟩
      rw [ly] at al
      rw [al] at q
      exact q _ (s1.trans s6)
end
end K63

set_option Elab.async false
set_option linter.all false
set_option maxRecDepth 100000
set_option exponentiation.threshold 20000
set_option pp.deepTerms false
set_option pp.deepTerms.threshold 8
namespace K63
open PySem PySem.Spec PyProof.Rows L2 Ly Mt
/-! ### forms, judged -/
def p3 : PyData → PyData
  | .tuple (_ :: _ :: _ :: c :: _) => c
  | _ => .none
def toMk (m : PyData) : Mk := (stO (p0 m), (its (p1 m)).map stO)
def toKd (k : PyData) : Kd := (stO (p0 k), (its (p1 k)).map toMk)
def toKs (d : PyData) : List Kd := (its d).map toKd
def toDs (d : PyData) : List Nat := (its d).map fun x => (intO x).toNat
def jForm (d : PyData) (wide : Nat) : Bool := jRow d 4 4 && (jKinds (p0 d) && (jDims (p1 d) ((its (p0 d)).length : Nat) wide && (jMaps (p2 d) (toKs (p0 d)) (toDs (p1 d)) (4000 * wide) && jReads (p3 d) (toKs (p0 d)) (toDs (p1 d)))))
theorem tup4 {d : PyData} (h : jRow d 4 4 = true) : d = .tuple [p0 d, p1 d, p2 d, p3 d] := by
  obtain ⟨ds, rfl, h1, h2⟩ := jRow_tup h
  match ds, h1, h2 with
  | [a, b, c, e], _, _ => rfl
  | [], h1, _ => simp at h1
  | [_], h1, _ => simp at h1
  | [_, _], h1, _ => simp at h1
  | [_, _, _], h1, _ => simp at h1
  | _ :: _ :: _ :: _ :: _ :: _, _, h2 => simp at h2; omega
theorem tup2 {d : PyData} (h : jPair d = true) : d = .tuple [p0 d, p1 d] := by
  cases d with
  | tuple ds =>
    have h2 : ds.length = 2 := of_decide_eq_true h
    match ds, h2 with
    | [a, b], _ => rfl
  | _ => cases h
theorem nmB_ok {z : Str} (h : nmB z = true) : NameOk z := by
  unfold nmB at h
  simp only [Bool.and_eq_true, decide_eq_true_eq, Bool.not_eq_true', decide_eq_false_iff_not, not_or] at h
  obtain ⟨⟨⟨⟨h1, h2⟩, h3⟩, h4⟩, h5⟩ := h
  refine ⟨⟨h1, h2⟩, h3, ?_, fun c hc => List.all_eq_true.mp h5 c hc⟩
  cases e : z.cps[0]? with
  | none =>
    have := Array.getElem?_eq_none_iff.mp e
    have : z.length = z.cps.size := rfl
    omega
  | some c =>
    rw [e] at h4
    exact ⟨c, rfl, h4⟩
theorem high_ok {d : PyData} (h : jHigh d = true) : d = .str (stO d) ∧ High (stO d) := by
  obtain ⟨z, rfl⟩ := jHigh_str h
  have h' : (nmB z && hdB highC z) = true := h
  rw [Bool.and_eq_true] at h'
  refine ⟨rfl, nmB_ok h'.1, ?_⟩
  have h2 := h'.2
  unfold hdB at h2
  show ∃ c, z.cps[0]? = some c ∧ highC c = true
  cases e : z.cps[0]? with
  | none => rw [e] at h2; cases h2
  | some c => rw [e] at h2; exact ⟨c, rfl, h2⟩
theorem fld_ok {ns : List Str} {d : PyData} (h : jFld ns d = true) : d = .str (stO d) ∧ (stO d = "number" ∨ stO d ∈ ns) := by
  cases d with
  | str z =>
    refine ⟨rfl, ?_⟩
    have h' : (decide (z = "number") || decide (z ∈ ns)) = true := h
    rw [Bool.or_eq_true, decide_eq_true_iff, decide_eq_true_iff] at h'
    exact h'
  | _ => cases h
theorem map_self {α : Type} {l : List α} {f : α → α} (h : ∀ x ∈ l, f x = x) : l.map f = l := by
  conv => rhs; rw [← List.map_id l]
  exact List.map_congr_left h
theorem its_eq {d : PyData} (h : jTup d = true) : d = .tuple (its d) := by cases d <;> first | rfl | cases h
theorem row_eq {d : PyData} {lo hi : Int} (h : jRow d lo hi = true) : d = .tuple (its d) ∧ lo ≤ ((its d).length : Int) ∧ ((its d).length : Int) ≤ hi := by
  obtain ⟨ds, rfl, h1, h2⟩ := jRow_tup h
  exact ⟨rfl, h1, h2⟩
theorem kinds_of {d : PyData} (h : jKinds d = true) : d = ksD (toKs d) ∧ KindsOk (toKs d) := by
  unfold jKinds at h
  simp only [Bool.and_eq_true, decide_eq_true_eq] at h
  obtain ⟨h1, h2, h3, h4, h5⟩ := h
  obtain ⟨ed, l1, l6⟩ := row_eq h1
  have kd : ∀ k ∈ its d, k = .tuple [p0 k, p1 k] ∧ (p0 k = .str (stO (p0 k)) ∧ High (stO (p0 k))) ∧ (p1 k = .tuple (its (p1 k)) ∧ 1 ≤ (its (p1 k)).length ∧ (its (p1 k)).length ≤ 6) ∧ ∀ m ∈ its (p1 k), jMk0 m = true := fun k hk => by
    have := List.all_eq_true.mp h2 k hk
    unfold jKd0 jKd1 at this
    simp only [Bool.and_eq_true] at this
    obtain ⟨⟨a1, a2, a3⟩, a4⟩ := this
    obtain ⟨b1, b2, b3⟩ := row_eq a3
    exact ⟨tup2 a1, high_ok a2, ⟨b1, by omega, by omega⟩, fun m hm => List.all_eq_true.mp a4 m hm⟩
  have mkOk : ∀ m ∈ mksD d, m = .tuple [p0 m, p1 m] ∧ (p0 m = .str (stO (p0 m)) ∧ High (stO (p0 m))) ∧ (p1 m = .tuple (its (p1 m)) ∧ (its (p1 m)).length ≤ 4) ∧ ∀ f ∈ its (p1 m), f = .str (stO f) ∧ (stO f = "number" ∨ stO f ∈ nmsD d) := fun m hm => by
    obtain ⟨k, hk, hmk⟩ := List.mem_flatMap.mp hm
    have := (kd k hk).2.2.2 m hmk
    unfold jMk0 at this
    simp only [Bool.and_eq_true] at this
    obtain ⟨a1, a2, a3⟩ := this
    obtain ⟨b1, b2, b3⟩ := row_eq a3
    have := List.all_eq_true.mp h5 m hm
    exact ⟨tup2 a1, high_ok a2, ⟨b1, by omega⟩, fun f hf => fld_ok (List.all_eq_true.mp this f hf)⟩
  have em : ∀ m ∈ mksD d, mkD (toMk m) = m := fun m hm => by
    obtain ⟨a1, a2, a3, a4⟩ := mkOk m hm
    have e : ((its (p1 m)).map stO).map PyData.str = its (p1 m) := by
      rw [List.map_map]
      exact map_self fun f hf => (a4 f hf).1.symm
    show PyData.tuple [.str (stO (p0 m)), .tuple (((its (p1 m)).map stO).map .str)] = m
    rw [e, ← a2.1, ← a3.1, ← a1]
  have inM : ∀ k ∈ its d, ∀ m ∈ its (p1 k), m ∈ mksD d := fun k hk m hm => List.mem_flatMap.mpr ⟨k, hk, hm⟩
  have ek : ∀ k ∈ its d, kdD (toKd k) = k := fun k hk => by
    obtain ⟨a1, a2, a3, a4⟩ := kd k hk
    have e : ((its (p1 k)).map toMk).map mkD = its (p1 k) := by
      rw [List.map_map]
      exact map_self fun m hm => em m (inM k hk m hm)
    show PyData.tuple [.str (stO (p0 k)), .tuple (((its (p1 k)).map toMk).map mkD)] = k
    rw [e, ← a2.1, ← a3.1, ← a1]
  have enm : (toKs d).map (·.1) = nmsD d := by
    unfold toKs nmsD
    rw [List.map_map]; rfl
  have eall : allMk (toKs d) = (mksD d).map toMk := by
    unfold allMk toKs mksD
    rw [List.flatMap_map, List.map_flatMap]
    rfl
  refine ⟨?_, ⟨by unfold toKs; rw [List.length_map]; omega, fun k hk => ?_, fun k hk => ?_, fun k hk m hm => ?_, by rw [enm]; exact h3, ?_, fun k hk m hm f hf => ?_⟩⟩
  · have e : ((its d).map toKd).map kdD = its d := by
      rw [List.map_map]
      exact map_self ek
    show d = PyData.tuple (((its d).map toKd).map kdD)
    rw [e]; exact ed
  · obtain ⟨x, hx, rfl⟩ := List.mem_map.mp hk
    exact (kd x hx).2.1.2
  · obtain ⟨x, hx, rfl⟩ := List.mem_map.mp hk
    have := (kd x hx).2.2.1.2
    show 1 ≤ ((its (p1 x)).map toMk).length ∧ ((its (p1 x)).map toMk).length ≤ 6
    rw [List.length_map]; exact this
  · obtain ⟨x, hx, rfl⟩ := List.mem_map.mp hk
    obtain ⟨y, hy, rfl⟩ := List.mem_map.mp (show m ∈ (its (p1 x)).map toMk from hm)
    obtain ⟨a1, a2, a3, a4⟩ := mkOk y (inM x hx y hy)
    refine ⟨a2.2, ?_⟩
    show ((its (p1 y)).map stO).length ≤ 4
    rw [List.length_map]; exact a3.2
  · rw [eall, List.map_map]
    exact h4
  · obtain ⟨x, hx, rfl⟩ := List.mem_map.mp hk
    obtain ⟨y, hy, rfl⟩ := List.mem_map.mp (show m ∈ (its (p1 x)).map toMk from hm)
    obtain ⟨z, hz, rfl⟩ := List.mem_map.mp (show f ∈ (its (p1 y)).map stO from hf)
    obtain ⟨a1, a2, a3, a4⟩ := mkOk y (inM x hx y hy)
    rw [enm]
    exact (a4 z hz).2
theorem dims_of {d : PyData} {n : Int} {wide : Nat} (h : jDims d n wide = true) : d = nsD (toDs d) ∧ ((toDs d).length : Int) = n ∧ ∀ x ∈ toDs d, x ≤ 16 * wide := by
  unfold jDims at h
  simp only [Bool.and_eq_true, decide_eq_true_eq] at h
  obtain ⟨h1, h2, h3⟩ := h
  obtain ⟨ed, l1, l2⟩ := row_eq h1
  have e : ∀ x ∈ its d, nD (intO x).toNat = x ∧ (intO x).toNat ≤ 16 * wide := fun x hx => by
    obtain ⟨i, rfl, i0, i1⟩ := jWithin_int (List.all_eq_true.mp h2 x hx)
    show PyData.int ((i.toNat : Nat) : Int) = .int i ∧ i.toNat ≤ 16 * wide
    rw [show ((i.toNat : Nat) : Int) = i by omega]
    exact ⟨rfl, by omega⟩
  refine ⟨?_, by unfold toDs; rw [List.length_map]; omega, fun x hx => ?_⟩
  · have e2 : (toDs d).map nD = its d := by
      unfold toDs
      rw [List.map_map]
      exact map_self fun x hx => (e x hx).1
    show d = PyData.tuple ((toDs d).map nD)
    rw [e2]; exact ed
  · obtain ⟨y, hy, rfl⟩ := List.mem_map.mp hx
    exact (e y hy).2
theorem noLs_strs : ∀ ns : List Str, noLs (ns.map .str) = true
  | [] => rfl
  | n :: ns => by
    show (noL (.str n) && noLs (ns.map .str)) = true
    rw [noLs_strs ns]; rfl
theorem noLs_map {α : Type} {f : α → PyData} (h : ∀ x, noL (f x) = true) : ∀ l : List α, noLs (l.map f) = true
  | [] => rfl
  | x :: l => by
    show (noL (f x) && noLs (l.map f)) = true
    rw [h, noLs_map h l]; rfl
theorem noL_mk (m : Mk) : noL (mkD m) = true := by
  show (noL (.str m.1) && (noL (sD m.2) && true)) = true
  rw [show noL (sD m.2) = noLs (m.2.map .str) from rfl, noLs_strs]; rfl
theorem noL_ks (ks : List Kd) : noL (ksD ks) = true := noLs_map (fun k => by
  show (noL (.str k.1) && (noLs (k.2.map mkD) && true)) = true
  rw [noLs_map noL_mk]; rfl) ks
theorem noL_ns (ns : List Nat) : noL (nsD ns) = true := noLs_nats ns
section
variable {P : Program} {w : World} {K : PySem.W.Frag} {mg : Str → Option Value} {base : Heap}
abbrev s_has_form : Stmt := topS 33
theorem sc_has_form : FnScope ["thing", "wide", "kinds", "dims", "maps", "reads"] ["thing", "wide"] (defScope s_has_form) := ⟨rfl, rfl, rfl, by decide +kernel, rfl, by decide +kernel, by decide +kernel⟩
def so_has_form (K : PySem.W.Frag) : Sp := fun vs H Q _ => ∃ (S : Addr → Prop) (v : V) (d : PyData) (wide : Nat), vs = [v, .int (wide : Nat)] ∧ Od K S H v d ∧ wide ≤ 2 ∧ ∀ H', Same H H' → Q (.bl (jForm d wide)) H'
set_option maxHeartbeats 1000000 in
theorem ok_has_form {f : Addr} {fd : FuncData} {k : Nat} (F : Fun K "has_form" "has_form" s_has_form f fd) (T : Tx K mg){k1 : Nat} (D_is_row : Def P w K mg base k1 "is_row" s_is_row ["thing", "low", "high"] (so_is_row K)) {k2 : Nat} (D_is_kinds : Def P w K mg base k2 "is_kinds" s_is_kinds ["thing"] (so_is_kinds K)) {k3 : Nat} (D_are_dims : Def P w K mg base k3 "are_dims" s_are_dims ["thing", "size", "wide"] (so_dims K)) {k4 : Nat} (D_are_maps : Def P w K mg base k4 "are_maps" s_are_maps ["thing", "kinds", "dims", "most"] (so_maps K)) {k5 : Nat} (D_are_reads : Def P w K mg base k5 "are_reads" s_are_reads ["thing", "kinds", "dims"] (so_reads K)) (e1 : k1 ≤ k) (e2 : k2 ≤ k) (e3 : k3 ≤ k) (e4 : k4 ≤ k) (e5 : k5 ≤ k) : FnOk P w K mg base CX0 (k + 1) f fd ["thing", "wide"] (so_has_form K) := by
  have nd := sc_has_form.nd
  refine F.ok sc_has_form (fun vs H Q E h => ?_) (fun cdv A outer s H vs Q E hr h => ?_)
  · obtain ⟨_, _, _, _, rfl, _⟩ := h
    rfl
  · obtain ⟨S, v, d, wide, rfl, hd, wid, q⟩ := h
    have no : jForm d wide = false → ∀ H', Same H H' → Q (.bl false) H' := fun e H' s => by
      have := q H' s
      rwa [e] at this
    refine ⟨_, (pss_cons (ps_if (PW.pt (pw_or (pt_not (pt_val (pe_def D_is_row (hr.mono (by omega)) rfl (pa_cons (pv 0) (pa_cons pe_int (pa_cons pe_int pa_nil)))))) (pw_or (pt_not (pt_val (pe_def D_is_kinds (hr.mono (by omega)) rfl (pa_cons (pe_ix (kix_tup K) (pv 0) pe_int (fun _ _ => rfl)) pa_nil)))) (pw_or1 (pt_not (pt_val (pe_def D_are_dims (hr.mono (by omega)) rfl (pa_cons (pe_ix (kix_tup K) (pv 0) pe_int (fun _ _ => rfl)) (pa_cons (pe_callB (kcall_len K) (by rfl) T.m_len PySem.boot_len (pa_cons (pe_ix (kix_tup K) (pv 0) pe_int (fun _ _ => rfl)) pa_nil)) (pa_cons (pv 1) pa_nil))))))))))
        (pss_one (ps_ret pe_bl))
        pss_nil)
      (pss_cons (ps_asg (pv 0) (kpg_tup K (n := 4) rfl (pgs_cons (pg_name (i := 2) nd rfl (.inl rfl)) (pgs_cons (pg_name (i := 3) nd rfl (.inl rfl)) (pgs_cons (pg_name (i := 4) nd rfl (.inl rfl)) (pgs_cons (pg_name (i := 5) nd rfl (.inl rfl)) pgs_nil))))))
      (pss_one (ps_ret (pe_and (pe_def D_are_maps (hr.mono (by omega)) rfl (pa_cons (pv 4) (pa_cons (pv 2) (pa_cons (pv 3) (pa_cons (pe_op op_mulW (pe_gv rfl T.g_MOST_TERMS) (pv 1)) pa_nil))))) (pe_one (pe_def D_are_reads (hr.mono (by omega)) rfl (pa_cons (pv 5) (pa_cons (pv 2) (pa_cons (pv 3) pa_nil)))))))))), ?_⟩
    refine ⟨v, rfl, S, v, d, 4, 4, rfl, hd, jRow d 4 4, rfl, ?_⟩
    cases h1 : jRow d 4 4 with
    | false => exact iteT (no (by unfold jForm; rw [h1]; rfl) H (Same.refl H))
    | true =>
    have ed := tup4 h1
    rw [ed] at hd
    obtain ⟨a, xs, rfl, ha, hx⟩ := hd.tuple_inv
    obtain ⟨v0, r, rfl, o0, hr0⟩ := hx.cons_inv
    obtain ⟨v1, r, rfl, o1, hr1⟩ := hr0.cons_inv
    obtain ⟨v2, r, rfl, o2, hr2⟩ := hr1.cons_inv
    obtain ⟨v3, r, rfl, o3, hr3⟩ := hr2.cons_inv
    obtain rfl := hr3.nil_inv
    refine iteF ⟨.ref a, rfl, a, _, 0, _, rfl, rfl, ha.sq, atI_nat (j := 0) rfl, S, v0, p0 d, rfl, o0, fun H1 s1 => ⟨jKinds (p0 d), rfl, ?_⟩⟩
    cases h2 : jKinds (p0 d) with
    | false => exact iteT (no (by unfold jForm; rw [h1, h2]; rfl) _ s1)
    | true =>
    obtain ⟨ek, ok⟩ := kinds_of h2
    have ha1 := ha.mono (tk_same s1)
    have o01 := o0.mono (fo_same s1)
    rw [ek] at o01
    have i0 := Od.im _ (noL_ks _) o01
    obtain ⟨b, ys, rfl, hb, hy⟩ := i0.tuple_inv
    have ly : ys.length = (toKs (p0 d)).length := all_len hy
    have lit : (its (p0 d)).length = (toKs (p0 d)).length := by unfold toKs; rw [List.length_map]
    have kf := ok.few
    refine iteF ⟨.ref a, rfl, a, _, 1, _, rfl, rfl, ha1.sq, atI_nat (j := 1) rfl, .ref a, rfl, a, _, 0, _, rfl, rfl, ha1.sq, atI_nat (j := 0) rfl, b, ys, rfl, .inr hb.sq, .int (wide : Nat), rfl, S, v1, p1 d, _, wide, rfl, o1.mono (fo_same s1), by omega, wid, fun H2 s2 => ⟨_, rfl, ?_⟩⟩
    rw [ly, ← lit]
    have s12 := s1.trans s2
    cases h3 : jDims (p1 d) ((its (p0 d)).length : Nat) wide with
    | false => exact iteT (no (by unfold jForm; rw [h1, h2, h3]; rfl) _ s12)
    | true =>
    obtain ⟨e1, ld, d32⟩ := dims_of h3
    have ha2 := ha.mono (tk_same s12)
    have o12 := o1.mono (fo_same s12)
    rw [e1] at o12
    have i1 := Od.im _ (noL_ns _) o12
    have i02 := Im.mono (tk_same s2) _ i0
    have o22 := o2.mono (fo_same s12)
    have o32 := o3.mono (fo_same s12)
    have ej : jForm d wide = (jMaps (p2 d) (toKs (p0 d)) (toDs (p1 d)) (4000 * wide) && jReads (p3 d) (toKs (p0 d)) (toDs (p1 d))) := by unfold jForm; rw [h1, h2, h3]; rfl
    rw [ej] at q no
    refine iteF ⟨.ref a, rfl, a, _, rfl, ha2.sq, rfl, .ref b, _, rfl, v1, _, rfl, v2, _, rfl, v3, _, rfl, rfl, ?_⟩
    have wm : CMulW 4000 ((wide : Nat) : Int) := wide_mul (show (4000 : Int).natAbs < 2 ^ 12 by decide) (show ((wide : Nat) : Int).natAbs < 2 ^ 2 by omega) (by decide) (by decide) (by decide)
    refine ⟨v2, rfl, .ref b, rfl, v1, rfl, .int (wide : Nat), rfl, _, _, rfl, rfl, wm, S, v2, .ref b, v1, p2 d, toKs (p0 d), toDs (p1 d), 4000 * wide, ?_, o22, i02, i1, ok, by omega, by omega, fun H3 s3 => ⟨_, rfl, ?_⟩⟩
    · show [v2, .ref b, v1, V.int ((4000 : Int) * (wide : Nat))] = _
      rw [show (4000 : Int) * (wide : Nat) = ((4000 * wide : Nat) : Int) by omega]
    · have s13 := s12.trans s3
      cases h4 : jMaps (p2 d) (toKs (p0 d)) (toDs (p1 d)) (4000 * wide) with
      | false => exact iteF (no (by rw [h4]; rfl) _ s13)
      | true =>
      rw [h4, Bool.true_and] at q
      refine iteT ⟨v3, rfl, .ref b, rfl, v1, rfl, S, v3, .ref b, v1, p3 d, toKs (p0 d), toDs (p1 d), rfl, o32.mono (fo_same s3), Im.mono (tk_same s3) _ i02, Im.mono (tk_same s3) _ i1, ok, by omega, fun x hx => by have := d32 x hx; omega, fun H4 s4 => q _ (s13.trans s4)⟩
abbrev s_is_form : Stmt := topS 35
theorem sc_is_form : FnScope ["thing"] ["thing"] (defScope s_is_form) := ⟨rfl, rfl, rfl, by decide +kernel, rfl, by decide +kernel, by decide +kernel⟩
def so_is_form (K : PySem.W.Frag) : Sp := fun vs H Q _ => ∃ (S : Addr → Prop) (v : V) (d : PyData), vs = [v] ∧ Od K S H v d ∧ ∀ H', Same H H' → Q (.bl (jForm d 1)) H'
theorem ok_is_form {f : Addr} {fd : FuncData} {k : Nat} (F : Fun K "is_form" "is_form" s_is_form f fd) (T : Tx K mg){k1 : Nat} (D_has_form : Def P w K mg base k1 "has_form" s_has_form ["thing", "wide"] (so_has_form K)) (e1 : k1 ≤ k) : FnOk P w K mg base CX0 (k + 1) f fd ["thing"] (so_is_form K) := by
  have nd := sc_is_form.nd
  refine F.ok sc_is_form (fun vs H Q E h => ?_) (fun cdv A outer s H vs Q E hr h => ?_)
  · obtain ⟨_, _, _, rfl, _⟩ := h
    rfl
  · obtain ⟨S, v, d, rfl, hd, q⟩ := h
    refine ⟨_, (pss_one (ps_ret (pe_def D_has_form (hr.mono (by omega)) rfl (pa_cons (pv 0) (pa_cons pe_int pa_nil))))), ?_⟩
    exact ⟨v, rfl, S, v, d, 1, rfl, hd, by decide, q⟩
end
end K63

set_option Elab.async false
set_option linter.all false
set_option maxRecDepth 100000
namespace K63
open PySem PySem.Spec PyProof.Rows L2 Ly Mt
/-! what the texts on stores want, where a law has no rows of trees -/
theorem ixN_nat {n j : Nat} (hj : j < n) : ixN n (j : Int) = some j := by
  unfold ixN
  rw [if_pos (by omega), if_pos (by omega)]; rfl
end K63

set_option Elab.async false
set_option linter.all false
set_option maxRecDepth 100000
/-! list of a dict with nested keys; xs[a::n] of a list -/
namespace Ly
open PySem PySem.Spec PyProof.Rows L2
def rListN (P : Program) (w : World) (K : PySem.W.Frag) : List V → Hp → VK → Prop := fun vs H Q => ∃ a xs, vs = [.ref a] ∧ H a = some (dN P w a xs) ∧ KeysIm K H xs ∧ ∀ p, H p = none → Q (.ref p) (upd H p (.lst (xs.map fun x => V.ref x.2.1)))
theorem call_listN {X : Cx} (hcalm : X.calm = true := by rfl) : CallR X (.type "list") (rListN X.prog X.w X.K) := by
  intro pins s σ H vs us Q I r q
  obtain ⟨a, xs, ex, e, ks, q⟩ := q
  subst ex
  obtain ⟨u, eu, rx⟩ := vals1 r
  subst eu
  cases rx
  obtain ⟨z, lo, dd⟩ := dN_of I e ks
  obtain ⟨es, ep, hr, hsz, he⟩ := dd.raw
  rw [List.length_map] at hsz
  refine PySem.W.kdl_call (PySem.KdlSrc.rawDict (es := es) (ep := ep) lo) (I.ok.hd hcalm) hr (by rw [hsz]; exact z) fun h' tk acc' c' kp e' it => ?_
  have hal : acc'.toList.length = xs.length := by rw [Array.length_toList, it.1, hsz]
  have rv : Vals (xs.map fun x => V.ref x.2.1) acc'.toList := by
    refine vals_of_at (by rw [List.length_map, hal]) fun j x u h1 h2 => ?_
    rw [Array.getElem?_toList] at h2
    obtain ⟨hi, e1⟩ := it.2 j u h2
    obtain ⟨y, hy, h3, _⟩ := he j hi
    rw [List.getElem?_map] at h1 hy
    obtain ⟨b, hb, rfl⟩ := Option.map_eq_some_iff.mp h1
    rw [hb] at hy
    obtain rfl := Option.some.inj hy
    rw [e1, h3]
    exact rfl
  have hz : (xs.map fun x => V.ref x.2.1).length ≤ sizeLine := by rw [List.length_map]; exact z
  refine ⟨.ref s.heap.objs.size, _, I.laid (t' := tk) (o := .lst (xs.map fun x => V.ref x.2.1)) kp (Nat.le_refl _) ?_, rfl, q _ (I.hok.fresh (Nat.le_refl _))⟩
  exact ⟨hz, acc'.toList, c', rv, by rw [Array.toArray_toList]; exact e'⟩
theorem kcall_listN {X : Cx} (P : Program) (w : World) (K : PySem.W.Frag) (hcalm : X.calm = true := by rfl) (e1 : X.prog = P := by rfl) (e2 : X.w = w := by rfl) (e3 : X.K = K := by rfl) : CallR X (.type "list") (rListN P w K) := by
  subst e1 e2 e3; exact call_listN hcalm
/-! ### every n-th item -/
def tStepL (K : PySem.W.Frag) (te tl : TE) : TE := fun σ H Q => te σ H fun x H1 => tPart tl σ H1 fun o H2 => ∃ i a xs, o = some i ∧ x = .ref a ∧ SqL K H2 a xs ∧ ∀ p ys, (∀ v ∈ ys, v ∈ xs) → ys.length ≤ xs.length → H2 p = none → Q (.ref p) (upd H2 p (.lst ys))
def pickV (xs : List V) (ix : List Nat) : List V := ix.filterMap (xs[·]?)
theorem pick_vals {xs : List V} {us : List Value} (r : Vals xs us) : ∀ ix : List Nat, Vals (pickV xs ix) (ix.filterMap (us.toArray[·]?))
  | [] => .nil
  | i :: ix => by
    have ih := pick_vals r ix
    unfold pickV at ih ⊢
    rw [List.filterMap_cons, List.filterMap_cons]
    have e : us.toArray[i]? = us[i]? := by simp
    rw [e]
    cases h : xs[i]? with
    | none =>
      have : us[i]? = none := by
        have hl := r.length
        have := List.getElem?_eq_none_iff.mp h
        exact List.getElem?_eq_none (by omega)
      rw [this]; exact ih
    | some x =>
      obtain ⟨u, h1, h2⟩ := r.get h
      rw [h1]
      exact .cons h2 ih
theorem pick_mem (xs : List V) (ix : List Nat) : ∀ v ∈ pickV xs ix, v ∈ xs := fun v hv => by
  obtain ⟨i, _, h⟩ := List.mem_filterMap.mp hv
  exact List.mem_of_getElem? h
theorem pe_stepL {X : Cx} {e lo : Expr} {te tl : TE} {n : Int} (n0 : n ≠ 0) {k : Nat} {p1 p3 pos : Pos} (he : PE X e te) (hl : PE X lo tl) : PE X (.Subscript e (.Slice (some lo) none (some (.Constant (.int n) k p1)) p3) pos) (tStepL X.K te tl) := by
  refine ⟨fun pins s σ H Q I h => ?_⟩
  refine Subscript_ (thn (he.run pins s σ H _ I h) fun v s1 ⟨x, H1, I1, r1, q1⟩ => ?_)
  have hst : PO X (some (.Constant (.int n) k p1)) (tPart (tC (.int n))) := po_some pe_int
  refine wpAny_Slice (thn ((po_some hl).run pins s1 σ H1 _ I1 q1) fun vl s2 ⟨l, H2, I2, pl, i, a, xs, el, ex, hx, q⟩ => ?_)
  subst el ex
  cases r1
  refine thn (po_none.run pins s2 σ H2 (fun o H3 => o = none ∧ H3 = H2) I2 ⟨rfl, rfl⟩) fun vu s3 ⟨u, H3, I3, pu, eu, e3⟩ => ?_
  subst eu e3
  refine thn (hst.run pins s3 σ H3 (fun o H4 => o = some n ∧ H4 = H3) I3 ⟨n, rfl, rfl, rfl⟩) fun vs s4 ⟨o, H4, I4, ps, eo, e4⟩ => ?_
  subst eo e4
  have I5 : Inv X pins σ H4 { s4 with heap := s4.heap.push { cls := .type "slice", data := .fields #[vl, vu, vs] } } := I4.kept (t' := s4.toks) fun b ob q => Heap.get?_push_of_some _ q
  obtain ⟨its, r, ht, hz⟩ := I5.list hx
  have hlen := r.length
  show wpAny (model X.prog X.w) X.A (subscriptTail e (.Slice (some lo) none (some (.Constant (.int n) k p1)) p3) (.ref a) (.ref s4.heap.objs.size)) (EP X pins σ Q) X.xe { s4 with heap := s4.heap.push { cls := .type "slice", data := .fields #[vl, vu, vs] } }
  refine tail_any (ops := [.ref a, .ref s4.heap.objs.size]) ht.isList.typeIs (PySem.slot_list_getitem.lookup) ?_ (by with_unfolding_all rfl)
  refine wpAny_getItem_list_slice ht.isList (Heap.IsSliceOf.new _ vl vu vs) pl pu ps (fun z => n0 (Option.some.inj z)) ?_ (by rw [List.size_toArray]; omega)
  have hsz := slicePick_size_le its.toArray (some i) none (some n)
  unfold slicePick at hsz ⊢
  rw [List.size_toArray, List.size_toArray] at hsz
  generalize sliceRange (sliceBounds (some i) none (some n) its.toArray.size).1 (sliceBounds (some i) none (some n) its.toArray.size).2.1 (sliceBounds (some i) none (some n) its.toArray.size).2.2 = ix at *
  have rp := pick_vals r ix
  have lp := rp.length
  refine ⟨.ref _, _, I5.laid (t' := s4.toks) (o := .lst (pickV xs ix)) (fun b ob q => Heap.get?_push_of_some _ q) (Nat.le_refl _) ?_, rfl, q _ _ (pick_mem xs ix) (by omega) (I5.hok.fresh (Nat.le_refl _))⟩
  exact ⟨by omega, _, 0, rp, Heap.get?_push_size _ rfl⟩
theorem kpe_stepL {X : Cx} (K : PySem.W.Frag) {e lo : Expr} {te tl : TE} {n : Int} (n0 : n ≠ 0) {k : Nat} {p1 p3 pos : Pos} (he : PE X e te) (hl : PE X lo tl) (eK : X.K = K := by rfl) : PE X (.Subscript e (.Slice (some lo) none (some (.Constant (.int n) k p1)) p3) pos) (tStepL K te tl) := by
  subst eK; exact pe_stepL n0 he hl
end Ly

set_option Elab.async false
set_option linter.all false
set_option maxRecDepth 100000
set_option exponentiation.threshold 20000
set_option pp.deepTerms false
set_option pp.deepTerms.threshold 8
namespace K63
open PySem PySem.Spec PyProof.Rows L2 Ly Mt
/-! ### the store of draws -/
structure Sto (H : Hp) (w : Addr) : Prop where
  ex : ∃ (a : Int) (r : List Int), H w = some (.lst (.int a :: r.map V.int)) ∧ 0 ≤ a ∧ 1 ≤ r.length ∧ r.length ≤ 1000 ∧ ∀ x ∈ r, 0 ≤ x
def But (w : Addr) (H H' : Hp) : Prop := ∀ b o, b ≠ w → H b = some o → H' b = some o
theorem But.refl (w : Addr) (H : Hp) : But w H H := fun _ _ _ h => h
theorem But.trans {w : Addr} {H H1 H2 : Hp} (a : But w H H1) (b : But w H1 H2) : But w H H2 := fun x o h1 h => b x o h1 (a x o h1 h)
theorem but_same {w : Addr} {H H' : Hp} (s : Same H H') : But w H H' := fun b o _ h => s b o h
theorem But.tk {w : Addr} {H H' : Hp} (s : But w H H') (u : Sto H w) : TK H H' := fun b xs e => by
  obtain ⟨g, h, h1, _⟩ := u.ex
  exact s b _ (fun z => by subst z; rw [h1] at e; cases e) e
theorem Sto.same {w : Addr} {H H' : Hp} (u : Sto H w) (s : Same H H') : Sto H' w := by
  obtain ⟨g, h, h1, r⟩ := u.ex
  exact ⟨g, h, s _ _ h1, r⟩
theorem But.free {w : Addr} {H H' : Hp} {p : Addr} (s : But w H H') (u : Sto H' w) (h : H' p = none) : H p = none := by
  obtain ⟨_, _, h1, _⟩ := u.ex
  cases e : H p with
  | none => rfl
  | some o =>
    by_cases q : p = w
    · subst q; rw [h1] at h; cases h
    · rw [s p o q e] at h; cases h
theorem Sto.upd {w D : Addr} {H : Hp} {o : HO} (u : Sto H w) (h1 : D ≠ w) : Sto (upd H D o) w := by
  obtain ⟨a, b, hc, r⟩ := u.ex
  exact ⟨a, b, by rw [upd_ne h1.symm]; exact hc, r⟩
theorem Sto.ne {w D : Addr} {H : Hp} (u : Sto H w) (h : H D = none) : D ≠ w := by
  obtain ⟨a, b, hc, r⟩ := u.ex
  exact (ne_of_none hc h).symm
theorem fmod_in {x m : Int} (h : 0 < m) : 0 ≤ x.fmod m ∧ x.fmod m < m := by
  rw [Int.fmod_eq_emod_of_nonneg _ (by omega)]
  exact ⟨Int.emod_nonneg _ (by omega), Int.emod_lt_of_pos _ h⟩
theorem abs_lt {x : Int} {n : Nat} (h0 : 0 ≤ x) (h : x < 2 ^ n) : x.natAbs < 2 ^ n := by
  have e : ((x.natAbs : Nat) : Int) < ((2 ^ n : Nat) : Int) := by
    rw [Int.natCast_pow]; show ((x.natAbs : Nat) : Int) < (2 : Int) ^ n; omega
  exact Int.ofNat_lt.mp e
theorem rat_int {q : Rat} (h : q.den = 1) : q = (q.num : Rat) := by
  exact Rat.ext rfl h
section
variable {P : Program} {w : World} {K : PySem.W.Frag} {mg : Str → Option Value} {base : Heap}
abbrev s__law_pick : Stmt := topS 38
theorem sc__law_pick : FnScope ["store", "many", "at"] ["store", "many"] (defScope s__law_pick) := ⟨rfl, rfl, rfl, by decide +kernel, rfl, by decide +kernel, by decide +kernel⟩
def sp_pick : Sp := fun vs H Q _ => ∃ (c : Addr) (m : Int), vs = [.ref c, .int m] ∧ Sto H c ∧ 0 < m ∧ ∀ (d : Nat) H', (d : Int) < m → Sto H' c → But c H H' → Q (.int (d : Nat)) H'
theorem ok__law_pick {f : Addr} {fd : FuncData} {k : Nat} (F : Fun K "_law_pick" "_law_pick" s__law_pick f fd) (T : Tx K mg) : FnOk P w K mg base CX0 (k + 1) f fd ["store", "many"] sp_pick := by
  have nd := sc__law_pick.nd
  refine F.ok sc__law_pick (fun vs H Q E h => ?_) (fun cdv A outer s H vs Q E hr h => ?_)
  · obtain ⟨_, _, rfl, _⟩ := h
    rfl
  · obtain ⟨c, m, rfl, u, m0, q⟩ := h
    obtain ⟨a, r, hc, a0, r1, r2, rp⟩ := u.ex
    refine ⟨_, (pss_cons (ps_set (i := 2) nd rfl (.inl rfl) (pe_callTy call_int1 (by rfl) T.m_int (by decide +kernel) (pa_cons (pe_ix (kix_list K) (pv 0) pe_int (fun _ _ => rfl)) pa_nil)))
      (pss_cons (ps_asg (pe_op op_add (pv 2) pe_int) (pg_sub (pv 0) pe_int set_list))
      (pss_one (ps_ret (pe_op op_modN (pe_callTy call_int1 (by rfl) T.m_int (by decide +kernel) (pa_cons (pe_op op_add (pe_ix (kix_list K) (pv 0) (pe_op op_add pe_int (pe_op op_modN (pv 2) (pe_op op_sub (pe_callB (kcall_len K) (by rfl) T.m_len PySem.boot_len (pa_cons (pv 0) pa_nil)) pe_int))) (fun _ _ => rfl)) (pe_op op_mul (pe_op op_fdivW (pv 2) (pe_op op_sub (pe_callB (kcall_len K) (by rfl) T.m_len PySem.boot_len (pa_cons (pv 0) pa_nil)) pe_int)) pe_int)) pa_nil)) (pv 1)))))), ?_⟩
    refine ⟨.ref c, rfl, c, _, 0, _, rfl, rfl, .of hc, atI_nat (j := 0) rfl, .inl ⟨_, rfl, ?_⟩⟩
    refine ⟨.int a, rfl, _, _, rfl, rfl, .ref c, rfl, c, _, 0, 0, rfl, rfl, hc, ixN_nat (j := 0) (by simp), ?_⟩
    dsimp only [List.set]
    have hc2 : (upd H c (.lst (.int (a + 1) :: r.map V.int))) c = some (.lst (.int (a + 1) :: r.map V.int)) := upd_same
    have bt : But c H (upd H c (.lst (.int (a + 1) :: r.map V.int))) := fun y o h1 h => by rw [upd_ne h1]; exact h
    show (tRet _ : TS) _ _ (upd H c (.lst (.int (a + 1) :: r.map V.int)))
    generalize upd H c (.lst (.int (a + 1) :: r.map V.int)) = H2 at *
    have ll : ((.int (a + 1) :: r.map V.int : List V).length : Int) - 1 = (r.length : Nat) := by rw [List.length_cons, List.length_map]; omega
    have h1 := fmod_in (x := a) (m := (r.length : Nat)) (by omega)
    obtain ⟨j, hj⟩ := Int.eq_ofNat_of_zero_le h1.1
    have jl : j < r.length := by omega
    have ej : (.int (a + 1) :: r.map V.int : List V)[j + 1]? = some (.int r[j]) := by
      rw [List.getElem?_cons_succ, List.getElem?_map, List.getElem?_eq_getElem jl]; rfl
    refine ⟨.ref c, rfl, .int a, rfl, .ref c, rfl, c, _, rfl, .inl (.of hc2), _, _, rfl, rfl, _, _, rfl, rfl, (by rw [ll]; show ((r.length : Nat) : Int) ≠ 0; omega), _, _, rfl, rfl, c, _, _, .int r[j], rfl, rfl, .of hc2, ?_, ?_⟩
    · rw [ll, hj, show (1 : Int) + ((j : Nat) : Int) = ((j + 1 : Nat) : Int) by omega]
      exact atI_nat ej
    have hd := wide_div (i := a) (j := (r.length : Nat)) (b := 10) (by omega) (by rw [Int.natAbs_natCast]; omega) (by decide) (by decide)
    refine ⟨.int a, rfl, .ref c, rfl, c, _, rfl, .inl (.of hc2), _, _, rfl, rfl, _, _, rfl, rfl, by rw [ll]; exact hd, _, _, rfl, rfl, .inr ⟨by decide, by decide⟩, _, _, rfl, rfl, .inl ⟨_, rfl, .int m, rfl, _, _, rfl, rfl, (by show m ≠ 0; omega), ?_⟩⟩
    have h2 := fmod_in (x := r[j] + a / (((.int (a + 1) :: r.map V.int : List V).length : Int) - 1) * 7) m0
    obtain ⟨d, hd'⟩ := Int.eq_ofNat_of_zero_le h2.1
    show Q (.int ((r[j] + a / (((.int (a + 1) :: r.map V.int : List V).length : Int) - 1) * 7).fmod m)) H2
    rw [hd']
    exact q d _ (by omega) ⟨a + 1, r, hc2, by omega, r1, r2, rp⟩ bt
abbrev s__law_store : Stmt := topS 37
theorem sc__law_store : FnScope ["cells", "lot", "many", "mixed", "rest", "at", "store", "turn", "cell", "digit"] ["cells", "lot", "many"] (defScope s__law_store) := ⟨rfl, rfl, rfl, by decide +kernel, rfl, by decide +kernel, by decide +kernel⟩
def sp_store (K : PySem.W.Frag) : Sp := fun vs H Q _ => ∃ (p : Addr) (cs : List Int) (lot many : Nat), vs = [.ref p, .int (lot : Nat), .int (many : Nat)] ∧ H p = some (.lst (cs.map V.int)) ∧ cs.length ≤ 100 ∧ lot ≤ 100 ∧ 1 ≤ many ∧ many ≤ 900 ∧ ∀ w H', Same H H' → H w = none → Sto H' w → Q (.ref w) H'
set_option maxHeartbeats 1000000 in
theorem ok__law_store {f : Addr} {fd : FuncData} {k : Nat} (F : Fun K "_law_store" "_law_store" s__law_store f fd) (T : Tx K mg) : FnOk P w K mg base CX0 (k + 1) f fd ["cells", "lot", "many"] (sp_store K) := by
  have nd := sc__law_store.nd
  refine F.ok sc__law_store (fun vs H Q E h => ?_) (fun cdv A outer s H vs Q E hr h => ?_)
  · obtain ⟨_, _, _, _, rfl, _⟩ := h
    rfl
  · obtain ⟨p, cs, lot, many, rfl, hp, c100, lot100, many1, many9, q⟩ := h
    refine ⟨_, (pss_cons (ps_asg (pe_tup (pa_cons (pe_op op_add pe_int (pe_op op_mul pe_int (pv 1))) (pa_cons pe_int (pa_cons pe_int (pa_cons (pe_lst (pa_cons pe_int pa_nil)) pa_nil))))) (kpg_tup K (n := 4) rfl (pgs_cons (pg_name (i := 3) nd rfl (.inl rfl)) (pgs_cons (pg_name (i := 4) nd rfl (.inl rfl)) (pgs_cons (pg_name (i := 5) nd rfl (.inl rfl)) (pgs_cons (pg_name (i := 6) nd rfl (.inl rfl)) pgs_nil))))))
      (pss_cons (ps_for PassesOwn.never rfl (pi_range1 rfl T.m_range (pa_cons (pv 2) pa_nil)) (pg_name (i := 7) nd rfl (.inl rfl))
        (C8.pss_cut (ps_if (PW.pt (pw_and (pt_cmpR op_eq (pv 4) pe_int (nomark _)) (pw_and1 (pt_cmpR op_lt (pv 5) (pe_callB (kcall_len K) (by rfl) T.m_len PySem.boot_len (pa_cons (pv 0) pa_nil)) (nomark _)))))
          (pss_cons (ps_set (i := 8) nd rfl (.inl rfl) (pe_callB call_abs (by rfl) T.m_abs (by decide +kernel) (pa_cons (pe_callTy call_int1 (by rfl) T.m_int (by decide +kernel) (pa_cons (pe_ix (kix_list K) (pv 0) (pv 5) (fun _ _ => rfl)) pa_nil)) pa_nil)))
          (pss_cons (ps_set (i := 5) nd rfl (.inl rfl) (pe_op op_add (pv 5) pe_int))
          (pss_cons (ps_set (i := 3) nd rfl (.inl rfl) (pe_op op_modN (pe_callTy call_int1 (by rfl) T.m_int (by decide +kernel) (pa_cons (pe_op op_add (pe_op op_add (pe_op op_mul (pv 3) pe_int) (pv 8)) (pe_op op_mul pe_int (pv 5))) pa_nil)) pe_int))
          (pss_one (ps_set (i := 4) nd rfl (.inl rfl) (pe_op op_mul (pv 8) (pe_callTy call_int1 (by rfl) T.m_int (by decide +kernel) (pa_cons (pe_cmpR op_ge (pv 8) (pe_op op_pow pe_int pe_int) (nomark _)) pa_nil))))))))
          pss_nil)
        (pss_cons (ps_set (i := 3) nd rfl (.inl rfl) (pe_op op_modN (pe_callTy call_int1 (by rfl) T.m_int (by decide +kernel) (pa_cons (pe_op op_add (pe_op op_add (pe_op op_mul (pv 3) pe_int) (pe_op op_mul (pe_op op_mul (pv 7) (pv 7)) (pv 7))) pe_int) pa_nil)) pe_int))
        (pss_cons (ps_set (i := 9) nd rfl (.inl rfl) (pe_op op_modN (pe_op op_fdivW (pe_op op_modN (pe_callTy call_int1 (by rfl) T.m_int (by decide +kernel) (pa_cons (pe_op op_mul (pv 3) (pe_op op_add (pe_op op_fdivW (pv 3) pe_int) pe_int)) pa_nil)) pe_int) pe_int) pe_int))
        (C8.pss_cut (ps_if (pt_cmpR op_gt (pv 4) pe_int (nomark _))
          (pss_cons (ps_set (i := 9) nd rfl (.inl rfl) (pe_op op_modN (pe_callTy call_int1 (by rfl) T.m_int (by decide +kernel) (pa_cons (pv 4) pa_nil)) pe_int))
          (pss_one (ps_set (i := 4) nd rfl (.inl rfl) (pe_op op_fdivW (pv 4) pe_int))))
          pss_nil)
        (pss_one (ps_expr (pe_bm PySem.F.plainAttrs_list PySem.F.slot_list_append PySem.F.type_list_append mt_append (pv 6) (pa_cons (pv 9) pa_nil)))))))))
      (pss_one (ps_ret (pv 6))))), ?_⟩
    refine ⟨.int (lot : Nat), rfl, _, _, rfl, rfl, .inr ⟨by omega, by omega⟩, _, _, rfl, rfl, by show 1 ≤ sizeLine; decide, fun W hW => ⟨by show 4 ≤ sizeLine; decide, fun T0 hT0 => ?_⟩⟩
    have sW := same_new (o := .lst [.int 0]) hW
    have sT := same_new (o := .tup [.int (11 + 97 * (lot : Nat)), .int 0, .int 0, .ref W]) hT0
    have s1 := sW.trans sT
    have eW := sT _ _ (show (upd H W (.lst [.int 0])) W = some (.lst [.int 0]) from upd_same)
    have eT : (upd (upd H W (.lst [.int 0])) T0 (.tup [.int (11 + 97 * (lot : Nat)), .int 0, .int 0, .ref W])) T0 = some (.tup [.int (11 + 97 * (lot : Nat)), .int 0, .int 0, .ref W]) := upd_same
    generalize upd (upd H W (.lst [.int 0])) T0 (.tup [.int (11 + 97 * (lot : Nat)), .int 0, .int 0, .ref W]) = H1 at *
    refine ⟨T0, _, rfl, .inl (.inl eT), rfl, .int (11 + 97 * (lot : Nat)), _, rfl, .int 0, _, rfl, .int 0, _, rfl, .ref W, _, rfl, rfl, ?_⟩
    refine ⟨.int (many : Nat), rfl, (many : Nat), rfl, by omega, by omega, ?_⟩
    refine for_it (walk_range (lo := 0) (n := ((many : Nat) : Int).toNat)) (fun t σ Ha => ∃ (mx re : Int) (at_ : Nat) (y7 y8 y9 : Option V) (r : List Int), σ = [some (.ref p), some (.int (lot : Nat)), some (.int (many : Nat)), some (.int mx), some (.int re), some (.int (at_ : Nat)), some (.ref W), y7, y8, y9] ∧ 0 ≤ mx ∧ mx < 2147483629 ∧ 0 ≤ re ∧ at_ ≤ 100 ∧ Same H Ha ∧ Ha W = some (.lst (.int 0 :: r.map V.int)) ∧ r.length = t ∧ ∀ x ∈ r, 0 ≤ x) ⟨_, _, 0, _, _, _, [], rfl, by omega, by omega, by decide, by decide, s1, eW, rfl, fun x hx => by simp at hx⟩ (fun _ _ _ _ _ => trivial) ?_ ?_
    · rintro t x σ Ha Hb ht ⟨mx, re, at_, y7, y8, y9, r, rfl, mx0, mx1, re0, at1, sa, eWa, lr, rp⟩ ⟨rfl, rfl⟩
      rw [Int.toNat_natCast] at ht
      show gName 7 (V.int ((0 : Int) + (t : Nat))) _ _ _
      rw [show (0 : Int) + (t : Nat) = (t : Nat) by omega]
      have epa := sa _ _ hp
      refine ⟨fun σ' H' => H' = Hb ∧ ∃ (mx re : Int) (at_ : Nat) (y8 : Option V), σ' = [some (.ref p), some (.int (lot : Nat)), some (.int (many : Nat)), some (.int mx), some (.int re), some (.int (at_ : Nat)), some (.ref W), some (.int (t : Nat)), y8, y9] ∧ 0 ≤ mx ∧ mx < 2147483629 ∧ 0 ≤ re ∧ at_ ≤ 100, ?_, ?_⟩
      · refine ⟨.int re, rfl, rfl, _, rfl, ?_⟩
        by_cases h1 : V.int re = V.int 0
        · rw [decide_eq_true h1]
          refine iteT ⟨.int (at_ : Nat), rfl, .ref p, rfl, p, _, rfl, .inl (.of epa), _, _, rfl, rfl, _, rfl, ?_⟩
          by_cases h2 : ((at_ : Nat) : Int) < ((cs.map V.int).length : Nat)
          · rw [decide_eq_true h2]
            have ha : at_ < cs.length := by rw [List.length_map] at h2; omega
            have ec : (cs.map V.int)[at_]? = some (.int cs[at_]) := by rw [List.getElem?_map, List.getElem?_eq_getElem ha]; rfl
            refine iteT ⟨.ref p, rfl, .int (at_ : Nat), rfl, p, _, _, .int cs[at_], rfl, rfl, .of epa, atI_nat ec, .inl ⟨_, rfl, _, rfl, ?_⟩⟩
            obtain ⟨cl, ecl⟩ : ∃ cl : Nat, (if cs[at_] < 0 then -cs[at_] else cs[at_]) = ((cl : Nat) : Int) := ⟨cs[at_].natAbs, by split <;> omega⟩
            rw [ecl]
            refine ⟨.int (at_ : Nat), rfl, _, _, rfl, rfl, ?_⟩
            refine ⟨.int mx, rfl, _, _, rfl, rfl, .inr ⟨by decide, by decide⟩, .int (cl : Nat), rfl, _, _, rfl, rfl, .int ((at_ : Nat) + 1), rfl, _, _, rfl, rfl, .inl ⟨by decide, by decide⟩, _, _, rfl, rfl, .inl ⟨_, rfl, _, _, rfl, rfl, (by show (2147483629 : Int) ≠ 0; decide), ?_⟩⟩
            have hm := fmod_in (x := mx * 69621 + (cl : Nat) + 13 * ((at_ : Nat) + 1)) (m := 2147483629) (by decide)
            show gName 3 (V.int ((mx * 69621 + (cl : Nat) + 13 * ((at_ : Nat) + 1)).fmod 2147483629)) _ _ _
            generalize (mx * 69621 + (cl : Nat) + 13 * ((at_ : Nat) + 1)).fmod 2147483629 = mx2 at *
            refine ⟨.int (cl : Nat), rfl, .int (cl : Nat), rfl, _, _, rfl, rfl, ⟨by decide, by decide, by decide⟩, _, _, rfl, rfl, .inr ⟨_, rfl, _, _, rfl, rfl, .inr ?_, ?_⟩⟩
            · split <;> exact ⟨by decide, by decide⟩
            · refine ⟨rfl, mx2, _, at_ + 1, _, rfl, hm.1, hm.2, ?_, by omega⟩
              split <;> omega
          · rw [decide_eq_false h2]
            exact iteF ⟨rfl, mx, re, at_, y8, rfl, mx0, mx1, re0, at1⟩
        · rw [decide_eq_false h1]
          exact iteF (iteF ⟨rfl, mx, re, at_, y8, rfl, mx0, mx1, re0, at1⟩)
      · rintro σ' H' ⟨rfl, mx, re, at_, y8, rfl, mx0, mx1, re0, at1⟩
        refine ⟨.int mx, rfl, _, _, rfl, rfl, .inr ⟨by decide, by decide⟩, .int (t : Nat), rfl, .int (t : Nat), rfl, _, _, rfl, rfl, .inl ⟨by omega, by omega⟩, .int (t : Nat), rfl, _, _, rfl, rfl, .inr ⟨by omega, by omega⟩, _, _, rfl, rfl, _, _, rfl, rfl, .inl ⟨_, rfl, _, _, rfl, rfl, (by show (2147483629 : Int) ≠ 0; decide), ?_⟩⟩
        have hm := fmod_in (x := mx * 69069 + (t : Nat) * (t : Nat) * (t : Nat) + 29) (m := 2147483629) (by decide)
        show gName 3 (V.int ((mx * 69069 + (t : Nat) * (t : Nat) * (t : Nat) + 29).fmod 2147483629)) _ _ _
        generalize (mx * 69069 + (t : Nat) * (t : Nat) * (t : Nat) + 29).fmod 2147483629 = mx2 at *
        refine ⟨.int mx2, rfl, .int mx2, rfl, _, _, rfl, rfl, wide_div (b := 10) (by decide) (by decide) (by decide) (by decide), _, _, rfl, rfl, _, _, rfl, rfl, .inl ⟨by omega, by omega⟩, .inl ⟨_, rfl, _, _, rfl, rfl, (by show (2147483587 : Int) ≠ 0; decide), _, _, rfl, rfl, wide_div (b := 10) (by decide) (by decide) (by decide) (by decide), _, _, rfl, rfl, (by show (27720 : Int) ≠ 0; decide), ?_⟩⟩
        have hg := fmod_in (x := (mx2 * (mx2 / 32 + 3)).fmod 2147483587 / 13) (m := 27720) (by decide)
        show gName 9 (V.int (((mx2 * (mx2 / 32 + 3)).fmod 2147483587 / 13).fmod 27720)) _ _ _
        generalize ((mx2 * (mx2 / 32 + 3)).fmod 2147483587 / 13).fmod 27720 = dg at *
        refine ⟨fun σ' H'' => H'' = H' ∧ ∃ (re dg : Int), σ' = [some (.ref p), some (.int (lot : Nat)), some (.int (many : Nat)), some (.int mx2), some (.int re), some (.int (at_ : Nat)), some (.ref W), some (.int (t : Nat)), y8, some (.int dg)] ∧ 0 ≤ re ∧ 0 ≤ dg, ?_, ?_⟩
        · refine ⟨.int re, rfl, _, _, rfl, rfl, _, rfl, ?_⟩
          by_cases h : (0 : Int) < re
          · rw [decide_eq_true h]
            refine iteT ⟨.int re, rfl, .inl ⟨_, rfl, _, _, rfl, rfl, (by show (27720 : Int) ≠ 0; decide), ?_⟩⟩
            have hg2 := fmod_in (x := re) (m := 27720) (by decide)
            exact ⟨.int re, rfl, _, _, rfl, rfl, wide_div (b := 20) (by decide) (by decide) (by decide) (by decide), rfl, re / 27720, re.fmod 27720, rfl, Int.ediv_nonneg re0 (by decide), hg2.1⟩
          · rw [decide_eq_false h]
            exact iteF ⟨rfl, re, dg, rfl, re0, hg.1⟩
        · rintro σ'' H'' ⟨rfl, re, dg, rfl, re0, dg0⟩
          refine ⟨.ref W, rfl, .inl ⟨rfl, _, .of eWa⟩, .int dg, rfl, W, _, .int dg, rfl, rfl, eWa, small1000 (by rw [List.length_cons, List.length_map]; omega), ?_⟩
          refine ⟨mx2, re, at_, _, _, _, r ++ [dg], rfl, hm.1, hm.2, re0, at1, fun b o e => ?_, ?_, by rw [List.length_append, lr]; rfl, fun x hx => ?_⟩
          · rw [upd_ne (ne_of_none e hW)]; exact sa _ _ e
          · rw [upd_same, List.map_append]; rfl
          · rcases List.mem_append.mp hx with hx | hx
            · exact rp x hx
            · rw [List.mem_singleton.mp hx]; exact dg0
    · rintro σ Ha ⟨mx, re, at_, y7, y8, y9, r, rfl, mx0, mx1, re0, at1, sa, eWa, lr, rp⟩
      rw [Int.toNat_natCast] at lr
      exact ⟨.ref W, rfl, q W Ha sa hW ⟨0, r, eWa, by decide, by omega, by omega, rp⟩⟩
end
end K63

set_option Elab.async false
set_option linter.all false
set_option maxRecDepth 100000
set_option exponentiation.threshold 20000
set_option pp.deepTerms false
set_option pp.deepTerms.threshold 8
namespace K63
open PySem PySem.Spec PyProof.Rows L2 Ly Mt
/-! ### ratios of the law's own, and the law's likeness -/
inductive Fl : Nat → PyData → Prop
  | int (d : Nat) (i : Int) : Fl d (.int i)
  | str (d : Nat) (s : Str) : Fl d (.str s)
  | tup (d : Nat) (ds : List PyData) : ds.length ≤ 8000 → (∀ x ∈ ds, Fl d x) → Fl (d + 1) (.tuple ds)
section
variable {P : Program} {w : World} {K : PySem.W.Frag} {mg : Str → Option Value} {base : Heap}
abbrev s__law_ratio : Stmt := topS 39
theorem sc__law_ratio : FnScope ["top", "bottom", "one", "other"] ["top", "bottom"] (defScope s__law_ratio) := ⟨rfl, rfl, rfl, by decide +kernel, rfl, by decide +kernel, by decide +kernel⟩
def sp_ratio (K : PySem.W.Frag) : Sp := fun vs H Q _ => ∃ (t b : Int), vs = [.int t, .int b] ∧ 0 < b ∧ b.natAbs < 2 ^ 9000 ∧ ∀ p H', Same H H' → Im K H' (.ref p) (rD (Rat.divInt t b)) → Q (.ref p) H'
theorem ok__law_ratio {f : Addr} {fd : FuncData} {k : Nat} (F : Fun K "_law_ratio" "_law_ratio" s__law_ratio f fd) (T : Tx K mg) : FnOk P w K mg base CX0 (k + 1) f fd ["top", "bottom"] (sp_ratio K) := by
  have nd := sc__law_ratio.nd
  refine F.ok sc__law_ratio (fun vs H Q E h => ?_) (fun cdv A outer s H vs Q E hr h => ?_)
  · obtain ⟨_, _, rfl, _⟩ := h
    rfl
  · obtain ⟨t, b, rfl, hb, hs, q⟩ := h
    refine ⟨_, (pss_cons (ps_par (i := 2) (j := 3) (by rfl) nd rfl rfl (by decide) rfl rfl (pa_cons (pe_callB call_abs (by rfl) T.m_abs (by decide +kernel) (pa_cons (pv 0) pa_nil)) (pa_cons (pv 1) pa_nil)) (by rfl))
      (pss_cons (ps_while PassesOwn.never (pt_cmpR op_gt (pv 3) pe_int (nomark _))
        (pss_one (ps_par (i := 2) (j := 3) (by rfl) nd rfl rfl (by decide) rfl rfl (pa_cons (pv 3) (pa_cons (pe_op op_modN (pe_callTy call_int1 (by rfl) T.m_int (by decide +kernel) (pa_cons (pv 2) pa_nil)) (pv 3)) pa_nil)) (by rfl))))
      (pss_one (ps_ret (pe_tup (pa_cons (pe_op op_fdivW (pv 0) (pv 2)) (pa_cons (pe_op op_fdivW (pv 1) (pv 2)) pa_nil))))))), ?_⟩
    refine ⟨.int t, rfl, t, rfl, .int b, rfl, _, _, rfl, ?_⟩
    have eb : b = ((b.natAbs : Nat) : Int) := by omega
    have et : (if t < 0 then -t else t) = ((t.natAbs : Nat) : Int) := by split <;> omega
    rw [et]
    refine while_by (fun σ H2 => H2 = H ∧ ∃ x y : Nat, σ = [some (.int t), some (.int b), some (.int x), some (.int y)] ∧ Nat.gcd x y = Nat.gcd t.natAbs b.natAbs) (fun σ _ => match σ with | [_, _, _, some (.int y)] => y.toNat | _ => 0) ⟨rfl, t.natAbs, b.natAbs, by rw [← eb]; rfl, rfl⟩ ?_ ?_
    · rintro σ H2 ⟨rfl, x, y, rfl, hg⟩
      refine ⟨.int y, rfl, _, _, rfl, rfl, _, rfl, ?_⟩
      by_cases hy : 0 < y
      · rw [decide_eq_true (show (y : Int) > 0 by omega)]
        refine iteT ⟨.int y, rfl, .int x, rfl, .inl ⟨_, rfl, .int y, rfl, _, _, rfl, rfl, (by show (y : Int) ≠ 0; omega), _, _, rfl, ⟨rfl, y, x % y, ?_, ?_⟩, ?_⟩⟩
        · have e : (x : Int).fmod (y : Int) = ((x % y : Nat) : Int) := by rw [Int.fmod_eq_emod_of_nonneg _ (by omega)]; rfl
          show [some (V.int t), some (V.int b), some (V.int y), some (V.int ((x : Int).fmod (y : Int)))] = _
          rw [e]
        · rw [Nat.gcd_comm, ← Nat.gcd_rec, Nat.gcd_comm, hg]
        · have e : (x : Int).fmod (y : Int) = ((x % y : Nat) : Int) := by rw [Int.fmod_eq_emod_of_nonneg _ (by omega)]; rfl
          show ((x : Int).fmod (y : Int)).toNat < ((y : Int)).toNat
          rw [e]
          have := Nat.mod_lt x hy
          omega
      · rw [decide_eq_false (show ¬ (y : Int) > 0 by omega)]
        have y0 : y = 0 := by omega
        subst y0
        rw [Nat.gcd_zero_right] at hg
        subst hg
        have c := wide_div (i := t) (gcd_pos (t := t) hb) (Nat.lt_of_le_of_lt (gcd_le hb) hs) (by decide) (Nat.le_refl _)
        have c' := wide_div (i := b) (gcd_pos (t := t) hb) (Nat.lt_of_le_of_lt (gcd_le hb) hs) (by decide) (Nat.le_refl _)
        refine iteF ⟨.int t, rfl, .int _, rfl, _, _, rfl, rfl, c, .int b, rfl, .int _, rfl, _, _, rfl, rfl, c', by show 2 ≤ sizeLine; decide, fun p hp => ?_⟩
        refine q p _ (same_new hp) ?_
        refine rat_mk (.inl ?_)
        rw [← made_num hb, ← made_den hb]
        exact upd_same
    · rintro σ H2 Q1 Q2 hm ⟨v, e, i, j, h1, h2, k', h3, h4⟩
      exact ⟨v, e, i, j, h1, h2, k', h3, hm _ _ h4⟩
end
end K63

set_option Elab.async false
set_option linter.all false
set_option maxRecDepth 100000
set_option exponentiation.threshold 20000
set_option pp.deepTerms false
set_option pp.deepTerms.threshold 8
namespace K63
open PySem PySem.Spec PyProof.Rows L2 Ly Mt
/-! ### the law's own judges of odd data -/
/-- what a comprehension with a test has kept: nothing, as long as all is well -/
structure Nn {α : Type} (j : α → Bool) (ds : List α) (H : Hp) (D : Addr) (i : Nat) (H2 : Hp) : Prop where
  sm : Same H H2
  ex : ∃ ws, H2 D = some (.lst ws) ∧ ws.length ≤ i ∧ decide (ws = []) = (ds.take i).all j
section
variable {α : Type} {j : α → Bool} {ds : List α} {H H2 : Hp} {D : Addr} {i : Nat} {d : α}
theorem Nn.new (h : H D = none) : Nn j ds H D 0 (upd H D (.lst [])) := ⟨same_new h, [], upd_same, Nat.le_refl _, rfl⟩
theorem Nn.skip (n : Nn j ds H D i H2) {H3 : Hp} (s : Same H2 H3) (hd : ds[i]? = some d) (e : j d = true) : Nn j ds H D (i + 1) H3 := by
  obtain ⟨ws, h1, h2, h3⟩ := n.ex
  refine ⟨n.sm.trans s, ws, s _ _ h1, by omega, ?_⟩
  rw [List.take_add_one, hd, List.all_append, ← h3]
  show _ = (_ && (j d && true))
  rw [e, Bool.and_true, Bool.and_true]
theorem Nn.add (n : Nn j ds H D i H2) (hD : H D = none) {H3 : Hp} (s : Same H2 H3) (hd : ds[i]? = some d) (e : j d = false) (i9 : i ≤ 9000) (x : V) : ∃ ws, H3 D = some (.lst ws) ∧ ws.length < sizeLine ∧ Nn j ds H D (i + 1) (upd H3 D (.lst (ws ++ [x]))) := by
  obtain ⟨ws, h1, h2, h3⟩ := n.ex
  refine ⟨ws, s _ _ h1, Nat.lt_of_le_of_lt (Nat.le_trans h2 i9) (by decide), fun b o eb => ?_, ws ++ [x], upd_same, ?_, ?_⟩
  · rw [upd_ne (ne_of_none eb hD)]; exact s _ _ (n.sm _ _ eb)
  · rw [List.length_append]; show _ + 1 ≤ _; omega
  · rw [List.take_add_one, hd, List.all_append]
    show _ = (_ && (j d && true))
    rw [e, Bool.false_and, Bool.and_false]
    exact decide_eq_false (by simp)
theorem Nn.fin (n : Nn j ds H D i H2) (l : ds.length ≤ i) : ∃ ws, H2 D = some (.lst ws) ∧ decide (ws = []) = ds.all j := by
  obtain ⟨ws, h1, _, h3⟩ := n.ex
  rw [List.take_of_length_le l] at h3
  exact ⟨ws, h1, h3⟩
end
theorem rat_eqv {t b : Int} (hb : 0 < b) : PyData.eqv (rD (Rat.divInt t b)) (.tuple [.int t, .int b]) = decide (Nat.gcd t.natAbs b.natAbs = 1) := by
  have e1 := made_num (t := t) hb
  have e2 := made_den (t := t) hb
  show (((Rat.divInt t b).num == t) && ((((Rat.divInt t b).den : Nat) : Int) == b && true)) = _
  rw [← e1, ← e2]
  have hg := gcd_pos (t := t) hb
  by_cases g1 : Nat.gcd t.natAbs b.natAbs = 1
  · rw [decide_eq_true g1, g1]
    simp
  · rw [decide_eq_false g1, Bool.and_eq_false_iff]
    refine .inr ?_
    rw [Bool.and_true, beq_eq_false_iff_ne]
    intro z
    have hg' : (0 : Int) < (Nat.gcd t.natAbs b.natAbs : Nat) := by omega
    have : b / ((Nat.gcd t.natAbs b.natAbs : Nat) : Int) < b := Int.ediv_lt_self_of_pos_of_ne_one hb (by omega)
    omega
theorem sm_9000 {i : Int} (h : SmI i) : i.natAbs < 2 ^ 9000 := Nat.lt_of_lt_of_le h (Nat.pow_le_pow_right (by decide) (by decide))
section
variable {P : Program} {w : World} {K : PySem.W.Frag} {mg : Str → Option Value} {base : Heap}
abbrev s__law_is_row : Stmt := topS 45
theorem sc__law_is_row : FnScope ["thing", "low", "high"] ["thing", "low", "high"] (defScope s__law_is_row) := ⟨rfl, rfl, rfl, by decide +kernel, rfl, by decide +kernel, by decide +kernel⟩
theorem ok__law_is_row {f : Addr} {fd : FuncData} {k : Nat} (F : Fun K "_law_is_row" "_law_is_row" s__law_is_row f fd) (T : Tx K mg) : FnOk P w K mg base CX0 (k + 1) f fd ["thing", "low", "high"] (so_is_row K) := by
  have nd := sc__law_is_row.nd
  refine F.ok sc__law_is_row (fun vs H Q E h => ?_) (fun cdv A outer s H vs Q E hr h => ?_)
  · obtain ⟨_, _, _, _, _, rfl, _⟩ := h
    rfl
  · obtain ⟨S, v, d, lo, hi, rfl, hd, q⟩ := h
    refine ⟨_, (pss_one (ps_ret (pe_and (pe_callB (kcall_isi K) (by rfl) T.m_isinstance (by decide +kernel) (pa_cons (pv 0) (pa_cons (pe_bltn (v := .ty "tuple") (u := .type "tuple") (by rfl) T.m_tuple (by decide +kernel) rfl) pa_nil))) (pe_one (pe_chain op_le op_le (pv 1) (pe_callB (kcall_len K) (by rfl) T.m_len PySem.boot_len (pa_cons (pv 0) pa_nil)) (pv 2)))))), ?_⟩
    refine ⟨v, rfl, v, _, .type (tyName d), _, jTup d, rfl, .ty _, od_ty hd, kit_ty (kit_tup d), jTup d, rfl, ?_⟩
    rcases hd.tup_or with ⟨a, xs, ds, rfl, rfl, ha, hx⟩ | n
    · have l := hx.len
      refine iteT ⟨.int lo, rfl, .ref a, rfl, a, xs, rfl, .inr ha.sq, _, _, rfl, rfl, _, rfl, ?_⟩
      rw [l]
      by_cases h1 : lo ≤ (ds.length : Int)
      · rw [decide_eq_true h1]
        refine iteT ⟨.int hi, rfl, _, _, rfl, rfl, ?_⟩
        dsimp only
        have e : jRow (.tuple ds) lo hi = decide ((ds.length : Int) ≤ hi) := by
          show (decide _ && _) = _
          rw [decide_eq_true h1]; rfl
        rw [e] at q
        exact q
      · rw [decide_eq_false h1]
        have e : jRow (.tuple ds) lo hi = false := by
          show (decide _ && _) = _
          rw [decide_eq_false h1]; rfl
        rw [e] at q
        exact iteF q
    · rw [n]
      rw [jRow_no n] at q
      exact iteF q
abbrev s__law_is_whole : Stmt := topS 46
theorem sc__law_is_whole : FnScope ["thing", "low", "high"] ["thing", "low", "high"] (defScope s__law_is_whole) := ⟨rfl, rfl, rfl, by decide +kernel, rfl, by decide +kernel, by decide +kernel⟩
theorem ok__law_is_whole {f : Addr} {fd : FuncData} {k : Nat} (F : Fun K "_law_is_whole" "_law_is_whole" s__law_is_whole f fd) (T : Tx K mg) : FnOk P w K mg base CX0 (k + 1) f fd ["thing", "low", "high"] (so_within K) := by
  have nd := sc__law_is_whole.nd
  refine F.ok sc__law_is_whole (fun vs H Q E h => ?_) (fun cdv A outer s H vs Q E hr h => ?_)
  · obtain ⟨_, _, _, _, _, rfl, _⟩ := h
    rfl
  · obtain ⟨S, v, d, lo, hi, rfl, hd, q⟩ := h
    refine ⟨_, (pss_one (ps_ret (pe_and (pe_callB (kcall_isi K) (by rfl) T.m_isinstance (by decide +kernel) (pa_cons (pv 0) (pa_cons (pe_bltn (v := .ty "int") (u := .type "int") (by rfl) T.m_int (by decide +kernel) rfl) pa_nil))) (pe_and (pe_not (pe_callB (kcall_isi K) (by rfl) T.m_isinstance (by decide +kernel) (pa_cons (pv 0) (pa_cons (pe_bltn (v := .ty "bool") (u := .type "bool") (by rfl) T.m_bool (by decide +kernel) rfl) pa_nil)))) (pe_one (pe_chain op_le op_le (pv 1) (pv 0) (pv 2))))))), ?_⟩
    refine ⟨v, rfl, v, _, .type (tyName d), _, jIntB d, rfl, .ty _, od_ty hd, kit_ty (kit_int d), jIntB d, rfl, ?_⟩
    rcases hd.int_or with ⟨i, rfl, rfl, _⟩ | n
    · refine iteT ⟨.int i, rfl, .int i, _, .type (tyName (PyData.int i)), _, false, rfl, .ty _, od_ty hd, kit_ty (kit_bool (PyData.int i)), false, rfl, _, rfl, ?_⟩
      refine iteT ⟨.int lo, rfl, .int i, rfl, _, _, rfl, rfl, _, rfl, ?_⟩
      by_cases h1 : lo ≤ i
      · rw [decide_eq_true h1]
        refine iteT ⟨.int hi, rfl, _, _, rfl, rfl, ?_⟩
        dsimp only
        have e : jWithin (.int i) lo hi = decide (i ≤ hi) := by
          show (decide (lo ≤ i) && _) = _
          rw [decide_eq_true h1]; rfl
        rw [e] at q
        exact q
      · rw [decide_eq_false h1]
        have e : jWithin (.int i) lo hi = false := by
          show (decide (lo ≤ i) && _) = _
          rw [decide_eq_false h1]; rfl
        rw [e] at q
        exact iteF q
    · rw [jWithin_no n] at q
      cases h1 : jIntB d with
      | false => exact iteF q
      | true =>
        have h2 : jBool d = true := by
          rw [jInt_as, h1] at n
          simpa using n
        refine iteT ⟨v, rfl, v, _, .type (tyName d), _, jBool d, rfl, .ty _, od_ty hd, kit_ty (kit_bool d), jBool d, rfl, ?_⟩
        rw [h2]
        exact ⟨_, rfl, iteF q⟩
abbrev s__law_is_ratio : Stmt := topS 47
theorem sc__law_is_ratio : FnScope ["thing", "part"] ["thing"] (defScope s__law_is_ratio) := ⟨rfl, rfl, rfl, by decide +kernel, rfl, by decide +kernel, by decide +kernel⟩
def so_lratio (K : PySem.W.Frag) : Sp := fun vs H Q _ => ∃ S v d, vs = [v] ∧ Od K S H v d ∧ ∀ H', Same H H' → Q (.bl (jRatio d)) H'
theorem ok__law_is_ratio {f : Addr} {fd : FuncData} {k : Nat} (F : Fun K "_law_is_ratio" "_law_is_ratio" s__law_is_ratio f fd) (T : Tx K mg){k1 : Nat} (D__law_is_row : Def P w K mg base k1 "_law_is_row" s__law_is_row ["thing", "low", "high"] (so_is_row K)) {k2 : Nat} (D__law_ratio : Def P w K mg base k2 "_law_ratio" s__law_ratio ["top", "bottom"] (sp_ratio K)) (e1 : k1 ≤ k) (e2 : k2 ≤ k) : FnOk P w K mg base CX0 (k + 1) f fd ["thing"] (so_lratio K) := by
  have nd := sc__law_is_ratio.nd
  refine F.ok sc__law_is_ratio (fun vs H Q E h => ?_) (fun cdv A outer s H vs Q E hr h => ?_)
  · obtain ⟨_, _, _, rfl, _⟩ := h
    rfl
  · obtain ⟨S, v, d, rfl, hd, q⟩ := h
    have no : jRatio d = false → ∀ H', Same H H' → Q (.bl false) H' := fun e H' s => by
      have := q H' s
      rwa [e] at this
    refine ⟨_, (pss_cons (ps_if (PW.pt (pw_or (pt_not (pt_val (pe_def D__law_is_row (hr.mono (by omega)) rfl (pa_cons (pv 0) (pa_cons pe_int (pa_cons pe_int pa_nil)))))) (pw_or1 (pt_cmpR (kop_neNil K hr.units) (pe_lc (own := [("part", 1)]) (g := gName 1) rfl nd (kpi_tup K (pv 0)) (blkOk_by (by rfl)) (fun _ _ _ _ _ => (pg_name (i := 1) nd rfl (.inl rfl))) (fun _ _ _ _ _ => (pts_one (PW.pt (pw_or (pt_not (pt_val (pe_callB (kcall_isi K) (by rfl) T.m_isinstance (by decide +kernel) (pa_cons (pv 1) (pa_cons (pe_bltn (v := .ty "int") (u := .type "int") (by rfl) T.m_int (by decide +kernel) rfl) pa_nil))))) (pw_or1 (pt_val (pe_callB (kcall_isi K) (by rfl) T.m_isinstance (by decide +kernel) (pa_cons (pv 1) (pa_cons (pe_bltn (v := .ty "bool") (u := .type "bool") (by rfl) T.m_bool (by decide +kernel) rfl) pa_nil))))))))) (fun _ _ _ _ _ => (pv 1))) (pe_lst pa_nil) (nomark _)))))
        (pss_one (ps_ret pe_bl))
        pss_nil)
      (pss_one (ps_ret (pe_and (pe_cmpR op_gt (pe_ix (kix_tup K) (pv 0) pe_int (fun _ _ => rfl)) pe_int (nomark _)) (pe_one (pe_cmpR (kop_eqD K hr.units) (pe_def D__law_ratio (hr.mono (by omega)) rfl (pa_cons (pe_ix (kix_tup K) (pv 0) pe_int (fun _ _ => rfl)) (pa_cons (pe_ix (kix_tup K) (pv 0) pe_int (fun _ _ => rfl)) pa_nil))) (pv 0) (nomark _))))))), ?_⟩
    refine ⟨v, rfl, S, v, d, 2, 2, rfl, hd, jRow d 2 2, rfl, ?_⟩
    cases h1 : jRow d 2 2 with
    | false => 
      refine iteT (no (jRatio_no ?_) H (Same.refl H))
      cases d <;> first | rfl | skip
      rename_i ds
      unfold jRow at h1
      show decide (ds.length = 2) = false
      refine decide_eq_false fun z => ?_
      dsimp only at h1
      rw [z] at h1
      cases h1
    | true =>
    obtain ⟨ds, rfl, l1, l2⟩ := jRow_tup h1
    obtain ⟨d0, d1, rfl⟩ : ∃ d0 d1, ds = [d0, d1] := by
      match ds, l1, l2 with
      | [x, y], _, _ => exact ⟨x, y, rfl⟩
      | [], h1, _ => simp at h1
      | [_], h1, _ => simp at h1
      | _ :: _ :: _ :: _, _, h2 => simp at h2; omega
    obtain ⟨a, xs, rfl, ha, hx⟩ := hd.tuple_inv
    have hx0 := hx
    obtain ⟨v0, r, rfl, i0, hr0⟩ := hx.cons_inv
    obtain ⟨v1, r', rfl, i1, hr1⟩ := hr0.cons_inv
    obtain rfl := hr1.nil_inv
    refine iteF ⟨.ref a, rfl, a, rfl, ⟨_, ha.sq⟩, fun D hD => ?_⟩
    refine lc_it (walk_tup (xs := [v0, v1])) (fun i H2 => Nn jInt [d0, d1] H D i H2) (.new hD) (fun i H2 _ z => (ha.mono (tk_same z.sm)).sq) (fun i x H2 H3 hi z y => ?_) (fun H2 z => ?_)
    · obtain ⟨rfl, hxi⟩ := y
      obtain ⟨pd, hpd, opd⟩ := (hx0.mono (fo_same z.sm)).getV hxi
      have i9 : i ≤ 9000 := Nat.le_trans (Nat.le_of_lt hi) (by show 2 ≤ 9000; decide)
      refine ⟨rfl, x, rfl, x, _, .type (tyName pd), _, jIntB pd, rfl, .ty _, od_ty opd, kit_ty (kit_int pd), jIntB pd, rfl, ?_⟩
      have e := jInt_as pd
      cases h2 : jIntB pd with
      | false =>
        rw [h2] at e
        exact iteT ⟨x, rfl, z.add hD (Same.refl _) hpd e i9 x⟩
      | true =>
        rw [h2] at e
        refine iteF ⟨x, rfl, x, _, .type (tyName pd), _, jBool pd, rfl, .ty _, od_ty opd, kit_ty (kit_bool pd), jBool pd, rfl, ?_⟩
        cases h3 : jBool pd with
        | false =>
          rw [h3] at e
          exact iteF (z.skip (Same.refl _) hpd e)
        | true =>
          rw [h3] at e
          exact iteT ⟨x, rfl, z.add hD (Same.refl _) hpd e i9 x⟩
    · obtain ⟨ws, eD, ew⟩ := z.fin (Nat.le_refl _)
      refine ⟨by show 0 ≤ sizeLine; decide, fun F hF => ?_⟩
      have s3 := same_new (o := .lst []) hF
      have sm := z.sm.trans s3
      refine ⟨D, F, ws, rfl, rfl, .of (s3 _ _ eD), .of upd_same, _, rfl, ?_⟩
      rw [ew]
      generalize upd H2 F (.lst []) = H3 at *
      cases hall : [d0, d1].all jInt with
      | false =>
        refine iteT (no ?_ _ sm)
        cases d0 <;> first | rfl | skip
        cases d1 <;> first | rfl | skip
        cases hall
      | true =>
      obtain ⟨t, b, rfl, rfl⟩ : ∃ t b, d0 = .int t ∧ d1 = .int b := by
        cases d0 <;> first | (cases hall; done) | skip
        cases d1 <;> first | (cases hall; done) | skip
        exact ⟨_, _, rfl, rfl⟩
      have sb : SmI b := by cases i1; assumption
      obtain rfl := i0.int_inv
      obtain rfl := i1.int_inv
      have ha3 := ha.mono (tk_same sm)
      refine iteF ⟨.ref a, rfl, a, _, 1, _, rfl, rfl, ha3.sq, atI_nat (j := 1) rfl, _, _, rfl, rfl, _, rfl, ?_⟩
      have ej : jRatio (.tuple [.int t, .int b]) = (decide (1 ≤ b) && decide (Nat.gcd t.natAbs b.natAbs = 1)) := rfl
      by_cases hb : 0 < b
      · rw [decide_eq_true (show b > 0 from hb)]
        refine iteT ⟨.ref a, rfl, a, _, 0, _, rfl, rfl, ha3.sq, atI_nat (j := 0) rfl, .ref a, rfl, a, _, 1, _, rfl, rfl, ha3.sq, atI_nat (j := 1) rfl, t, b, rfl, hb, sm_9000 sb, fun p H4 s4 i4 => ?_⟩
        have ha4 := ha3.mono (tk_same s4)
        refine ⟨.ref a, rfl, rD (Rat.divInt t b), .tuple [.int t, .int b], Im.dp _ i4, .tup ha4.sq (.cons (.int t) (.cons (.int b) .nil)), rfl, rfl, ?_⟩
        rw [rat_eqv hb]
        have := q H4 (sm.trans s4)
        rw [ej, decide_eq_true (show 1 ≤ b by omega), Bool.true_and] at this
        exact this
      · rw [decide_eq_false (show ¬ b > 0 from hb)]
        exact iteF (no (by rw [ej, decide_eq_false (show ¬ 1 ≤ b by omega)]; rfl) _ sm)
abbrev s__law_is_vector : Stmt := topS 48
theorem sc__law_is_vector : FnScope ["thing", "size", "part"] ["thing", "size"] (defScope s__law_is_vector) := ⟨rfl, rfl, rfl, by decide +kernel, rfl, by decide +kernel, by decide +kernel⟩
theorem ok__law_is_vector {f : Addr} {fd : FuncData} {k : Nat} (F : Fun K "_law_is_vector" "_law_is_vector" s__law_is_vector f fd) (T : Tx K mg){k1 : Nat} (D__law_is_row : Def P w K mg base k1 "_law_is_row" s__law_is_row ["thing", "low", "high"] (so_is_row K)) {k2 : Nat} (D__law_is_ratio : Def P w K mg base k2 "_law_is_ratio" s__law_is_ratio ["thing"] (so_lratio K)) (e1 : k1 ≤ k) (e2 : k2 ≤ k) : FnOk P w K mg base CX0 (k + 1) f fd ["thing", "size"] (so_vec K) := by
  have nd := sc__law_is_vector.nd
  refine F.ok sc__law_is_vector (fun vs H Q E h => ?_) (fun cdv A outer s H vs Q E hr h => ?_)
  · obtain ⟨_, _, _, _, rfl, _⟩ := h
    rfl
  · obtain ⟨S, v, d, n, rfl, n1000, hd, q⟩ := h
    have no : jVec d n = false → ∀ H', Same H H' → Q (.bl false) H' := fun e H' s => by
      have := q H' s
      rwa [e] at this
    refine ⟨_, (pss_one (ps_ret (pe_and (pe_def D__law_is_row (hr.mono (by omega)) rfl (pa_cons (pv 0) (pa_cons (pv 1) (pa_cons (pv 1) pa_nil)))) (pe_one (pe_cmpR (kop_eqNil K hr.units) (pe_lc (own := [("part", 2)]) (g := gName 2) rfl nd (kpi_tup K (pv 0)) (blkOk_by (by rfl)) (fun _ _ _ _ _ => (pg_name (i := 2) nd rfl (.inl rfl))) (fun _ _ _ _ _ => (pts_one (pt_not (pt_val (pe_def D__law_is_ratio (hr.mono (by omega)) rfl (pa_cons (pv 2) pa_nil)))))) (fun _ _ _ _ _ => (pv 2))) (pe_lst pa_nil) (nomark _)))))), ?_⟩
    refine ⟨v, rfl, .int n, rfl, .int n, rfl, S, v, d, n, n, rfl, hd, jRow d n n, rfl, ?_⟩
    cases h1 : jRow d n n with
    | false =>
      refine iteF (no ?_ H (Same.refl H))
      cases d <;> first | rfl | skip
      unfold jVec
      dsimp only
      rw [h1]; rfl
    | true =>
    obtain ⟨ds, rfl, l1, l2⟩ := jRow_tup h1
    obtain ⟨a, xs, rfl, ha, hx⟩ := hd.tuple_inv
    have lx := hx.len
    refine iteT ⟨.ref a, rfl, a, rfl, ⟨_, ha.sq⟩, fun D hD => ?_⟩
    refine lc_it (walk_tup (xs := xs)) (fun i H2 => Nn jRatio ds H D i H2) (.new hD) (fun i H2 _ z => (ha.mono (tk_same z.sm)).sq) (fun i x H2 H3 hi z y => ?_) (fun H2 z => ?_)
    · obtain ⟨rfl, hxi⟩ := y
      obtain ⟨pd, hpd, opd⟩ := (hx.mono (fo_same z.sm)).getV hxi
      have i9 : i ≤ 9000 := by omega
      refine ⟨rfl, x, rfl, S, x, pd, rfl, opd, fun H4 s4 => ⟨jRatio pd, rfl, ?_⟩⟩
      cases h2 : jRatio pd with
      | false => exact iteT ⟨x, rfl, z.add hD s4 hpd h2 i9 x⟩
      | true => exact iteF (z.skip s4 hpd h2)
    · obtain ⟨ws, eD, ew⟩ := z.fin (by omega)
      refine ⟨by show 0 ≤ sizeLine; decide, fun F hF => ?_⟩
      have s3 := same_new (o := .lst []) hF
      refine ⟨D, F, ws, rfl, rfl, .of (s3 _ _ eD), .of upd_same, ?_⟩
      rw [ew]
      have := q _ (z.sm.trans s3)
      have ej : jVec (.tuple ds) n = (jRow (.tuple ds) n n && ds.all jRatio) := rfl
      rw [ej, h1, Bool.true_and] at this
      exact this
end
end K63

set_option Elab.async false
set_option linter.all false
set_option maxRecDepth 100000
set_option exponentiation.threshold 20000
set_option pp.deepTerms false
set_option pp.deepTerms.threshold 8
namespace K63
open PySem PySem.Spec PyProof.Rows L2 Ly Mt
/-! ### the law's own judge of names -/
def jNm (d : PyData) (b : Bool) : Bool := if b then jHigh d else jLow d
theorem jNm_no {d : PyData} (h : jName d = false) (b : Bool) : jNm d b = false := by
  cases b
  · exact jLow_no h
  · exact jHigh_no h
theorem mem_add {c : Nat} {x y : Str} : c ∈ (x ++ y).cps.toList ↔ c ∈ x.cps.toList ∨ c ∈ y.cps.toList := by
  show c ∈ (x.cps ++ y.cps).toList ↔ _
  rw [Array.toList_append, List.mem_append]
theorem high_dig : ∀ c ∈ highs.cps.toList, digC c = false := by decide
theorem low_dig : ∀ c ∈ lows.cps.toList, digC c = false := by decide
section
variable {P : Program} {w : World} {K : PySem.W.Frag} {mg : Str → Option Value} {base : Heap}
abbrev s__law_is_name : Stmt := topS 49
theorem sc__law_is_name : FnScope ["thing", "high", "small", "capital", "sign"] ["thing", "high"] (defScope s__law_is_name) := ⟨rfl, rfl, rfl, by decide +kernel, rfl, by decide +kernel, by decide +kernel⟩
def so_lname (K : PySem.W.Frag) : Sp := fun vs H Q _ => ∃ (S : Addr → Prop) (v : V) (d : PyData) (b : Bool), vs = [v, .bl b] ∧ Od K S H v d ∧ ∀ H', Same H H' → Q (.bl (jNm d b)) H'
set_option maxHeartbeats 1000000 in
theorem ok__law_is_name {f : Addr} {fd : FuncData} {k : Nat} (F : Fun K "_law_is_name" "_law_is_name" s__law_is_name f fd) (T : Tx K mg) : FnOk P w K mg base CX0 (k + 1) f fd ["thing", "high"] (so_lname K) := by
  have nd := sc__law_is_name.nd
  refine F.ok sc__law_is_name (fun vs H Q E h => ?_) (fun cdv A outer s H vs Q E hr h => ?_)
  · obtain ⟨_, _, _, _, rfl, _⟩ := h
    rfl
  · obtain ⟨S, v, d, b, rfl, hd, q⟩ := h
    have no : jNm d b = false → ∀ H', Same H H' → Q (.bl false) H' := fun e H' s => by
      have := q H' s
      rwa [e] at this
    refine ⟨_, (pss_cons (ps_set (i := 2) nd rfl (.inr rfl) pe_str)
      (pss_cons (ps_set (i := 3) nd rfl (.inr rfl) pe_str)
      (pss_cons (ps_if (PW.pt (pw_or (pt_not (pt_val (pe_callB (kcall_isi K) (by rfl) T.m_isinstance (by decide +kernel) (pa_cons (pv 0) (pa_cons (pe_bltn (v := .ty "str") (u := .type "str") (by rfl) T.m_str (by decide +kernel) rfl) pa_nil))))) (pw_or (pt_not (pt_chain op_le op_le pe_int (pe_callB call_len_str (by rfl) T.m_len PySem.boot_len (pa_cons (pv 0) pa_nil)) pe_int)) (pw_or1 (pt_cmpR (kop_inS K) (pv 0) (pe_lst (pa_cons pe_str (pa_cons pe_str (pa_cons pe_str pa_nil)))) (by rfl))))))
        (pss_one (ps_ret pe_bl))
        pss_nil)
      (pss_cons (ps_if (pt_cmpR (kop_neNil K hr.units) (pe_lc (own := [("sign", 4)]) (g := gName 4) rfl nd (pi_str (pv 0)) (blkOk_by (by rfl)) (fun _ _ _ _ _ => (pg_name (i := 4) nd rfl (.inl rfl))) (fun _ _ _ _ _ => (pts_one (pt_cmpR op_notIn_sign (pv 4) (pe_op op_add_str (pe_op op_add_str (pv 2) (pv 3)) pe_str) (by rfl)))) (fun _ _ _ _ _ => (pv 4))) (pe_lst pa_nil) (nomark _))
        (pss_one (ps_ret pe_bl))
        pss_nil)
      (pss_one (ps_ret (pe_cmpR op_in_sign (pe_ix ix_str (pv 0) pe_int (fun _ _ => rfl)) (pe_ifExp (pt_val (pv 1)) (pv 3) (pv 2)) (by rfl)))))))), ?_⟩
    refine ⟨v, rfl, v, _, .type (tyName d), _, jStr d, rfl, .ty _, od_ty hd, kit_ty (kit_str d), jStr d, rfl, ?_⟩
    rcases hd.str_or with ⟨z, rfl, rfl, lz⟩ | n
    rotate_left
    · rw [n]
      exact iteT (no (jNm_no (jName_no n) b) H (Same.refl H))
    have sz : z.length ≤ sizeLine := Nat.le_trans lz (by decide)
    have q0 : nmB z = false → ∀ H', Same H H' → Q (.bl false) H' := fun e => no (jNm_no (d := .str z) e b)
    refine iteF ⟨.str z, rfl, z, rfl, sz, _, _, rfl, rfl, _, rfl, ?_⟩
    by_cases l1 : 1 ≤ z.length
    rotate_left
    · rw [decide_eq_false (show ¬ (1 : Int) ≤ (z.length : Int) by omega)]
      have q1 := q0 (by unfold nmB; rw [decide_eq_false l1]; rfl) H (Same.refl H)
      exact iteF ⟨false, rfl, iteT q1⟩
    rw [decide_eq_true (show (1 : Int) ≤ (z.length : Int) by omega)]
    refine iteT ⟨_, _, rfl, rfl, _, rfl, ?_⟩
    by_cases l2 : z.length ≤ 10
    rotate_left
    · rw [decide_eq_false (show ¬ (z.length : Int) ≤ 10 by omega)]
      exact iteT (q0 (by unfold nmB; rw [decide_eq_false l2, decide_eq_true l1]; rfl) H (Same.refl H))
    rw [decide_eq_true (show (z.length : Int) ≤ 10 by omega)]
    refine iteF ⟨.str z, rfl, by show 3 ≤ sizeLine; decide, fun W hW => ?_⟩
    have sW := same_new (o := .lst [.str "fun", .str "kind", .str "number"]) hW
    have eW : (upd H W (.lst [.str "fun", .str "kind", .str "number"])) W = some (.lst [.str "fun", .str "kind", .str "number"]) := upd_same
    refine ⟨W, [.str "fun", .str "kind", .str "number"], rfl, .inl (.of eW), rfl, rfl, _, rfl, ?_⟩
    generalize upd H W (.lst [.str "fun", .str "kind", .str "number"]) = H1 at *
    have hk : inV (V.str z) [.str "fun", .str "kind", .str "number"] = decide (z = "fun" ∨ z = "kind" ∨ z = "number") := by
      have e : ∀ x y : Str, eqV (V.str x) (V.str y) = decide (x = y) := fun x y => by
        by_cases h : x = y
        · subst h; simp [eqV]
        · simp [eqV, h]
      show (eqV (V.str "fun") (V.str z) || (eqV (V.str "kind") (V.str z) || (eqV (V.str "number") (V.str z) || false))) = _
      rw [e, e, e, Bool.or_false, ← Bool.decide_or, ← Bool.decide_or]
      exact decide_eq_decide.mpr ⟨fun h => by rcases h with h | h | h; exact .inl h.symm; exact .inr (.inl h.symm); exact .inr (.inr h.symm), fun h => by rcases h with h | h | h; exact .inl h.symm; exact .inr (.inl h.symm); exact .inr (.inr h.symm)⟩
    rw [hk]
    by_cases kw : z = "fun" ∨ z = "kind" ∨ z = "number"
    · rw [decide_eq_true kw]
      exact iteT (q0 (by unfold nmB; rw [decide_eq_true kw, Bool.not_true, Bool.and_false]; rfl) _ sW)
    rw [decide_eq_false kw]
    obtain ⟨c0, h0⟩ : ∃ c0, z.cps[0]? = some c0 := ⟨z.cps[0]'(show 0 < z.length by omega), Array.getElem?_eq_getElem _⟩
    have en : nmB z = (!digC c0 && z.cps.toList.all (fun c => lowC c || highC c || digC c)) := by
      unfold nmB
      rw [decide_eq_true l1, decide_eq_true l2, decide_eq_false kw, h0]
      rfl
    refine iteF ⟨.str z, rfl, z, rfl, fun D hD => ?_⟩
    refine lc_it (walk_str (z := z)) (fun i H2 => Nn (fun c => lowC c || highC c || digC c) z.cps.toList H1 D i H2) (.new hD) (fun _ _ _ _ => trivial) (fun i x H2 H3 hi zz y => ?_) (fun H2 zz => ?_)
    · obtain ⟨rfl, c, hc, rfl⟩ := y
      have hc' : z.cps.toList[i]? = some c := by rw [Array.getElem?_toList]; exact hc
      have i9 : i ≤ 9000 := by have h2 : z.length = z.cps.size := rfl; omega
      refine ⟨rfl, .str ⟨#[c]⟩, rfl, .str lows, rfl, .str highs, rfl, _, _, rfl, rfl, by decide +kernel, _, _, rfl, rfl, by decide +kernel, c, _, rfl, rfl, _, rfl, ?_⟩
      have ec : decide (c ∈ (lows ++ highs ++ digs).cps.toList) = (lowC c || highC c || digC c) := by
        unfold lowC highC digC
        rw [← Bool.decide_or, ← Bool.decide_or]
        exact decide_eq_decide.mpr (by rw [mem_add, mem_add])
      show (if (!decide (c ∈ (lows ++ highs ++ digs).cps.toList)) = true then _ else _)
      rw [ec]
      cases h2 : (lowC c || highC c || digC c) with
      | false => exact iteT ⟨.str ⟨#[c]⟩, rfl, zz.add hD (Same.refl _) hc' h2 i9 _⟩
      | true => exact iteF (zz.skip (Same.refl _) hc' h2)
    · obtain ⟨ws, eD, ew⟩ := zz.fin (by rw [Array.length_toList]; exact Nat.le_refl _)
      refine ⟨by show 0 ≤ sizeLine; decide, fun F hF => ?_⟩
      have s3 := same_new (o := .lst []) hF
      refine ⟨D, F, ws, rfl, rfl, .of (s3 _ _ eD), .of upd_same, _, rfl, ?_⟩
      rw [ew]
      have sm := (sW.trans zz.sm).trans s3
      cases hal : z.cps.toList.all (fun c => lowC c || highC c || digC c) with
      | false => exact iteT (q0 (by rw [en, hal, Bool.and_false]) _ sm)
      | true =>
      rw [hal, Bool.and_true] at en
      refine iteF ⟨.str z, rfl, z, 0, c0, rfl, rfl, sz, atI_nat (j := 0) (by rw [Array.getElem?_toList]; exact h0), .bl b, rfl, b, rfl, ?_⟩
      have qq := q _ sm
      cases b with
      | false =>
        refine iteF ⟨.str lows, rfl, c0, lows, rfl, rfl, ?_⟩
        have e : jNm (.str z) false = decide (c0 ∈ lows.cps.toList) := by
          show (nmB z && hdB lowC z) = lowC c0
          unfold hdB
          rw [h0, en]
          show (!digC c0 && lowC c0) = lowC c0
          cases hl : lowC c0 with
          | false => rw [Bool.and_false]
          | true => rw [low_dig c0 (of_decide_eq_true hl)]; rfl
        rw [e] at qq
        exact qq
      | true =>
        refine iteT ⟨.str highs, rfl, c0, highs, rfl, rfl, ?_⟩
        have e : jNm (.str z) true = decide (c0 ∈ highs.cps.toList) := by
          show (nmB z && hdB highC z) = highC c0
          unfold hdB
          rw [h0, en]
          show (!digC c0 && highC c0) = highC c0
          cases hl : highC c0 with
          | false => rw [Bool.and_false]
          | true => rw [high_dig c0 (of_decide_eq_true hl)]; rfl
        rw [e] at qq
        exact qq
end
end K63

set_option Elab.async false
set_option linter.all false
set_option maxRecDepth 100000
set_option exponentiation.threshold 20000
set_option pp.deepTerms false
set_option pp.deepTerms.threshold 8
namespace K63
open PySem PySem.Spec PyProof.Rows L2 Ly Mt
/-! ### the law's own judge of kinds -/
theorem row_pair (d : PyData) : jRow d 2 2 = jPair d := by
  cases d <;> first | rfl | skip
  rename_i ds
  show (decide _ && decide _) = decide (ds.length = 2)
  rw [← Bool.decide_and]
  exact decide_eq_decide.mpr ⟨fun h => by omega, fun h => by omega⟩
theorem dist_lt (ys : List Str) : decide (((dist ys ys.length : Nat) : Int) < ((ys.length : Nat) : Int)) = !decide ys.Nodup := by
  rw [← dist_all]
  have := dist_le ys ys.length
  rw [← decide_not]
  exact decide_eq_decide.mpr ⟨fun h => by omega, fun h => by omega⟩
section
variable {P : Program} {w : World} {K : PySem.W.Frag} {mg : Str → Option Value} {base : Heap}
abbrev s__law_are_kinds : Stmt := topS 50
theorem sc__law_are_kinds : FnScope ["thing", "titles", "makers", "kind", "maker", "field"] ["thing"] (defScope s__law_are_kinds) := ⟨rfl, rfl, rfl, by decide +kernel, rfl, by decide +kernel, by decide +kernel⟩
set_option maxHeartbeats 2000000 in
theorem ok__law_are_kinds {f : Addr} {fd : FuncData} {k : Nat} (F : Fun K "_law_are_kinds" "_law_are_kinds" s__law_are_kinds f fd) (T : Tx K mg){k1 : Nat} (D__law_is_row : Def P w K mg base k1 "_law_is_row" s__law_is_row ["thing", "low", "high"] (so_is_row K)) {k3 : Nat} (D__law_is_name : Def P w K mg base k3 "_law_is_name" s__law_is_name ["thing", "high"] (so_lname K)) (e1 : k1 ≤ k) (e3 : k3 ≤ k) : FnOk P w K mg base CX0 (k + 1) f fd ["thing"] (so_is_kinds K) := by
  have nd := sc__law_are_kinds.nd
  refine F.ok sc__law_are_kinds (fun vs H Q E h => ?_) (fun cdv A outer s H vs Q E hr h => ?_)
  · obtain ⟨_, _, _, rfl, _⟩ := h
    rfl
  · obtain ⟨S0, v, d, rfl, hd0, q⟩ := h
    obtain ⟨S, hd, hS⟩ : ∃ S, Od K S H v d ∧ ∀ a, S a → H a ≠ none := ⟨_, hd0.here, fun a z => z.2⟩
    have no : jKinds d = false → ∀ H', Same H H' → Q (.bl false) H' := fun e H' s => by
      have := q H' s
      rwa [e] at this
    refine ⟨_, (pss_cons (ps_if (pt_not (pt_val (pe_def D__law_is_row (hr.mono (by omega)) rfl (pa_cons (pv 0) (pa_cons pe_int (pa_cons pe_int pa_nil))))))
        (pss_one (ps_ret pe_bl))
        pss_nil)
      (pss_cons (ps_par (i := 1) (j := 2) (by rfl) nd rfl rfl (by decide) rfl rfl (pa_cons (pe_lst pa_nil) (pa_cons (pe_lst pa_nil) pa_nil)) (by rfl))
      (pss_cons (ps_for PassesOwn.never rfl (kpi_tup K (pv 0)) (pg_name (i := 3) nd rfl (.inl rfl))
        (pss_cons (ps_if (PW.pt (pw_or (pt_not (pt_val (pe_def D__law_is_row (hr.mono (by omega)) rfl (pa_cons (pv 3) (pa_cons pe_int (pa_cons pe_int pa_nil)))))) (pw_or (pt_not (pt_val (pe_def D__law_is_name (hr.mono (by omega)) rfl (pa_cons (pe_ix (kix_tup K) (pv 3) pe_int (fun _ _ => rfl)) (pa_cons pe_bl pa_nil))))) (pw_or1 (pt_not (pt_val (pe_def D__law_is_row (hr.mono (by omega)) rfl (pa_cons (pe_ix (kix_tup K) (pv 3) pe_int (fun _ _ => rfl)) (pa_cons pe_int (pa_cons pe_int pa_nil))))))))))
          (pss_one (ps_ret pe_bl))
          pss_nil)
        (pss_cons (ps_expr (pe_bm PySem.F.plainAttrs_list PySem.F.slot_list_append PySem.F.type_list_append mt_append (pv 1) (pa_cons (pe_ix (kix_tup K) (pv 3) pe_int (fun _ _ => rfl)) pa_nil)))
        (pss_one (ps_for PassesOwn.never rfl (kpi_tup K (pe_ix (kix_tup K) (pv 3) pe_int (fun _ _ => rfl))) (pg_name (i := 4) nd rfl (.inl rfl))
          (pss_cons (ps_if (PW.pt (pw_or (pt_not (pt_val (pe_def D__law_is_row (hr.mono (by omega)) rfl (pa_cons (pv 4) (pa_cons pe_int (pa_cons pe_int pa_nil)))))) (pw_or (pt_not (pt_val (pe_def D__law_is_name (hr.mono (by omega)) rfl (pa_cons (pe_ix (kix_tup K) (pv 4) pe_int (fun _ _ => rfl)) (pa_cons pe_bl pa_nil))))) (pw_or1 (pt_not (pt_val (pe_def D__law_is_row (hr.mono (by omega)) rfl (pa_cons (pe_ix (kix_tup K) (pv 4) pe_int (fun _ _ => rfl)) (pa_cons pe_int (pa_cons pe_int pa_nil))))))))))
            (pss_one (ps_ret pe_bl))
            pss_nil)
          (pss_one (ps_expr (pe_bm PySem.F.plainAttrs_list PySem.F.slot_list_append PySem.F.type_list_append mt_append (pv 2) (pa_cons (pv 4) pa_nil))))))))))
      (pss_cons (ps_if (PW.pt (pw_or (pt_cmpR op_lt (pe_lenSetG K rfl T.m_len rfl T.m_set (pv 1)) (pe_callB (kcall_len K) (by rfl) T.m_len PySem.boot_len (pa_cons (pv 1) pa_nil)) (nomark _)) (pw_or1 (pt_cmpR op_lt (pe_lenSetG K rfl T.m_len rfl T.m_set (pe_lc (own := [("maker", 4)]) (g := gName 4) (tt := tYes) rfl nd (kpi_list K (pv 2)) (blkOk_by (by rfl)) (fun _ _ _ _ _ => (pg_name (i := 4) nd rfl (.inl rfl))) (fun _ _ _ _ _ => pts_nil) (fun _ _ _ _ _ => (pe_ix (kix_tup K) (pv 4) pe_int (fun _ _ => rfl))))) (pe_callB (kcall_len K) (by rfl) T.m_len PySem.boot_len (pa_cons (pv 2) pa_nil)) (nomark _)))))
        (pss_one (ps_ret pe_bl))
        pss_nil)
      (pss_cons (ps_for PassesOwn.never rfl (kpi_list K (pv 2)) (pg_name (i := 4) nd rfl (.inl rfl))
        (pss_one (ps_for PassesOwn.never rfl (kpi_tup K (pe_ix (kix_tup K) (pv 4) pe_int (fun _ _ => rfl))) (pg_name (i := 5) nd rfl (.inl rfl))
          (pss_one (ps_if (PW.pt (pw_or (pt_not (pt_val (pe_callB (kcall_isi K) (by rfl) T.m_isinstance (by decide +kernel) (pa_cons (pv 5) (pa_cons (pe_bltn (v := .ty "str") (u := .type "str") (by rfl) T.m_str (by decide +kernel) rfl) pa_nil))))) (pw_or1 (PW.pt (pw_and (pt_cmpR op_ne (pv 5) pe_str (nomark _)) (pw_and1 (pt_cmpR (kop_notIn K) (pv 5) (pv 1) (by rfl))))))))
            (pss_one (ps_ret pe_bl))
            pss_nil)))))
      (pss_one (ps_ret pe_bl))))))), ?_⟩
    refine ⟨v, rfl, S, v, d, 1, 6, rfl, hd, jRow d 1 6, rfl, ?_⟩
    cases hrow : jRow d 1 6 with
    | false => exact iteT (no (by unfold jKinds; rw [hrow]; rfl) H (Same.refl H))
    | true =>
    obtain ⟨ds, rfl, _, l6⟩ := jRow_tup hrow
    obtain ⟨a, xs, rfl, ha, hx⟩ := hd.tuple_inv
    have lx : xs.length = ds.length := hx.len
    have noA : ds.all jKd0 = false → ∀ H', Same H H' → Q (.bl false) H' := fun e => no (by
      show (jRow _ 1 6 && (ds.all jKd0 && _)) = false
      rw [e, Bool.false_and, Bool.and_false])
    refine iteF ?_
    refine ⟨by show 0 ≤ sizeLine; decide, fun e1 he1 => ⟨by show 0 ≤ sizeLine; decide, fun e2 he2 => ⟨_, _, rfl, ?_⟩⟩⟩
    have s1 : Same H (upd H e1 (.lst [])) := same_new he1
    have ee1 : (upd H e1 (.lst [])) e1 = some (.lst []) := upd_same
    generalize upd H e1 (.lst []) = H1 at *
    have s2 : Same H1 (upd H1 e2 (.lst [])) := same_new he2
    have ee23 : (upd H1 e2 (.lst [])) e2 = some (.lst []) := upd_same
    have ee13 := s2 _ _ ee1
    have n12 : e1 ≠ e2 := ne_of_none ee1 he2
    have he20 : H e2 = none := s1.free he2
    have sH3 := s1.trans s2
    generalize upd H1 e2 (.lst []) = H3 at *
    refine ⟨.ref a, rfl, a, rfl, ⟨_, (ha.mono (tk_same sH3)).sq⟩, ?_⟩
    -- heaps that differ at the two lists alone
    refine for_it (walk_tup (xs := xs)) (fun i σ Ha => ∃ (y3 y4 : Option V) (ws : List V), σ = [some (.ref a), some (.ref e1), some (.ref e2), y3, y4, none] ∧ Same H Ha ∧ Ha e1 = some (.lst (((ds.take i).map fun k => stO (p0 k)).map V.str)) ∧ Ha e2 = some (.lst ws) ∧ OdAll K S Ha ws ((ds.take i).flatMap fun k => its (p1 k)) ∧ (ds.take i).all jKd0 = true) ⟨_, _, [], rfl, sH3, ee13, ee23, .nil, rfl⟩ (fun i σ Ha _ z => ?_) ?_ ?_
    · obtain ⟨_, _, _, _, sm, _⟩ := z
      exact (ha.mono (tk_same sm)).sq
    · rintro i x σ Ha Hb hi ⟨y3, y4, ws, rfl, sm, m1, m2, om, al⟩ ⟨rfl, hxi⟩
      obtain ⟨kd, hkd, okd⟩ := (hx.mono (fo_same sm)).getV hxi
      have lk : (ds.take i).length = i := by rw [List.length_take]; omega
      have take1 : ds.take (i + 1) = ds.take i ++ [kd] := by rw [List.take_add_one, hkd]; rfl
      have no1 : jKd0 kd = false → ∀ H', Same Hb H' → Q (.bl false) H' := fun e H' s => noA (all_no hkd e) H' (sm.trans s)
      refine ⟨x, rfl, S, x, kd, 2, 2, rfl, okd, jRow kd 2 2, rfl, ?_⟩
      rw [row_pair]
      cases hp : jPair kd with
      | false => exact iteT (no1 (by unfold jKd0 jKd1; rw [hp]; rfl) _ (Same.refl _))
      | true =>
      obtain ⟨pk, u1, u2, rfl, ekd, hpk, ou1, ou2⟩ := okd.pair hp
      refine iteF ⟨.ref pk, rfl, pk, _, 0, _, rfl, rfl, hpk.sq, atI_nat (j := 0) rfl, S, u1, p0 kd, true, rfl, ou1, fun H4 s4 => ⟨jHigh (p0 kd), rfl, ?_⟩⟩
      cases hh : jHigh (p0 kd) with
      | false => exact iteT (no1 (by unfold jKd0 jKd1; rw [hp, hh]; rfl) _ s4)
      | true =>
      have hpk4 := hpk.mono (tk_same s4)
      refine iteF ⟨.ref pk, rfl, pk, _, 1, _, rfl, rfl, hpk4.sq, atI_nat (j := 1) rfl, S, u2, p1 kd, 1, 6, rfl, ou2.mono (fo_same s4), jRow (p1 kd) 1 6, rfl, ?_⟩
      cases hr2 : jRow (p1 kd) 1 6 with
      | false => exact iteT (no1 (by unfold jKd0 jKd1; rw [hp, hh, hr2]; rfl) _ s4)
      | true =>
      obtain ⟨ms, ems, _, m6⟩ := jRow_tup hr2
      obtain ⟨zk, ezk⟩ := jHigh_str hh
      rw [ems] at ou2
      rw [ezk] at ou1
      obtain rfl := ou1.str_inv
      obtain ⟨pm, us, rfl, hpm, hus⟩ := ou2.tuple_inv
      have lus : us.length = ms.length := hus.len
      have sm4 := sm.trans s4
      have m14 := s4 _ _ m1
      have m24 := s4 _ _ m2
      have om4 := om.mono (fo_same s4)
      have hus4 := hus.mono (fo_same s4)
      have hpm4 := hpm.mono (tk_same s4)
      have no2 : ms.all jMk0 = false → ∀ H', Same H H' → Q (.bl false) H' := fun e H' s => noA (all_no hkd (by unfold jKd0; rw [ems]; show (_ && ms.all jMk0) = false; rw [e, Bool.and_false])) H' s
      refine iteF ?_
      refine ⟨.ref e1, rfl, .inl ⟨rfl, _, .of m14⟩, .ref pk, rfl, pk, _, 0, _, rfl, rfl, hpk4.sq, atI_nat (j := 0) rfl, e1, _, _, rfl, rfl, m14, small1000 (by rw [List.length_map, List.length_map, lk]; omega), ?_⟩
      have hS1 : ∀ a, S a → a ≠ e1 := fun a z e => hS a z (by rw [e]; exact he1)
      have hS2 : ∀ a, S a → a ≠ e2 := fun a z e => hS a z (by rw [e]; exact he20)
      have m15 : (upd H4 e1 (.lst (((ds.take i).map fun k => stO (p0 k)).map V.str ++ [.str zk]))) e1 = some (.lst (((ds.take (i + 1)).map fun k => stO (p0 k)).map V.str)) := by
        rw [upd_same, take1, List.map_append, List.map_append]
        show _ = some (HO.lst (_ ++ [V.str (stO (p0 kd))]))
        rw [ezk]; rfl
      have fo5 : Fo S H4 (upd H4 e1 (.lst (((ds.take i).map fun k => stO (p0 k)).map V.str ++ [.str zk]))) := fo_lst m14 hS1
      have br5 : Bar' e1 H4 (upd H4 e1 (.lst (((ds.take i).map fun k => stO (p0 k)).map V.str ++ [.str zk]))) := fun b o n e => by rw [upd_ne n]; exact e
      have sm5 : Same H (upd H4 e1 (.lst (((ds.take i).map fun k => stO (p0 k)).map V.str ++ [.str zk]))) := fun b o e => br5 _ _ (ne_of_none e he1) (sm4 _ _ e)
      have m25 := br5 _ _ n12.symm m24
      have om5 := om4.mono fo5
      have hus5 := hus4.mono fo5
      have hpk5 := hpk4.mono fo5.1
      have hpm5 := hpm4.mono fo5.1
      generalize upd H4 e1 (.lst (((ds.take i).map fun k => stO (p0 k)).map V.str ++ [.str zk])) = H5 at *
      refine ⟨.ref pk, rfl, pk, _, 1, _, rfl, rfl, hpk5.sq, atI_nat (j := 1) rfl, pm, rfl, ⟨_, hpm5.sq⟩, ?_⟩
      have la := mks_few al
      rw [lk] at la
      refine for_it (walk_tup (xs := us)) (fun j σ Ha => ∃ (y4 : Option V) (ws : List V), σ = [some (.ref a), some (.ref e1), some (.ref e2), some (.ref pk), y4, none] ∧ Same H Ha ∧ ITup K Ha pm us ∧ OdAll K S Ha us ms ∧ Ha e1 = some (.lst (((ds.take (i + 1)).map fun k => stO (p0 k)).map V.str)) ∧ Ha e2 = some (.lst ws) ∧ OdAll K S Ha ws (((ds.take i).flatMap fun k => its (p1 k)) ++ ms.take j) ∧ (ms.take j).all jMk0 = true) ⟨y4, ws, rfl, sm5, hpm5, hus5, m15, m25, by rw [List.take_zero, List.append_nil]; exact om5, rfl⟩ (fun j σ Ha _ z => ?_) ?_ ?_
      · obtain ⟨_, _, _, _, hp, _⟩ := z
        exact hp.sq
      · rintro j x σ Hc Hd hj ⟨y4, ws, rfl, sm, hpm, ou, m1, m2, om, al2⟩ ⟨rfl, hxj⟩
        obtain ⟨m, hm, omm⟩ := ou.getV hxj
        have no3 : jMk0 m = false → ∀ H', Same Hd H' → Q (.bl false) H' := fun e H' s => no2 (all_no hm e) H' (sm.trans s)
        refine ⟨x, rfl, S, x, m, 2, 2, rfl, omm, jRow m 2 2, rfl, ?_⟩
        rw [row_pair]
        cases hp2 : jPair m with
        | false => exact iteT (no3 (by unfold jMk0; rw [hp2]; rfl) _ (Same.refl _))
        | true =>
        obtain ⟨pp, w1, w2, rfl, em, hpp, ow1, ow2⟩ := omm.pair hp2
        refine iteF ⟨.ref pp, rfl, pp, _, 0, _, rfl, rfl, hpp.sq, atI_nat (j := 0) rfl, S, w1, p0 m, true, rfl, ow1, fun H6 s6 => ⟨jHigh (p0 m), rfl, ?_⟩⟩
        cases hh2 : jHigh (p0 m) with
        | false => exact iteT (no3 (by unfold jMk0; rw [hp2, hh2]; rfl) _ s6)
        | true =>
        refine iteF ⟨.ref pp, rfl, pp, _, 1, _, rfl, rfl, (hpp.mono (tk_same s6)).sq, atI_nat (j := 1) rfl, S, w2, p1 m, 0, 4, rfl, ow2.mono (fo_same s6), jRow (p1 m) 0 4, rfl, ?_⟩
        cases hr3 : jRow (p1 m) 0 4 with
        | false => exact iteT (no3 (by unfold jMk0; rw [hp2, hh2, hr3]; rfl) _ s6)
        | true =>
        refine iteF ?_
        have m16 := s6 _ _ m1
        have m26 := s6 _ _ m2
        have lw : ws.length ≤ 42 := by
          rw [om.len, List.length_append, List.length_take]
          omega
        have fo7 : Fo S H6 (upd H6 e2 (.lst (ws ++ [.ref pp]))) := fo_lst m26 hS2
        have fo67 := (fo_same (S := S) s6).trans fo7
        refine ⟨.ref e2, rfl, .inl ⟨rfl, _, .of m26⟩, .ref pp, rfl, e2, ws, .ref pp, rfl, rfl, m26, small1000 (by omega), _, ws ++ [.ref pp], rfl, fun b o e => ?_, (hpm.mono (tk_same s6)).mono fo7.1, ou.mono fo67, ?_, upd_same, ?_, ?_⟩
        · rw [upd_ne (ne_of_none e he20)]
          exact s6 _ _ (sm _ _ e)
        · rw [upd_ne n12]; exact m16
        · rw [List.take_add_one, hm, ← List.append_assoc]
          exact (om.mono fo67).snoc (omm.mono fo67)
        · rw [List.take_add_one, hm, List.all_append, al2]
          show (true && (jMk0 m && true)) = true
          unfold jMk0
          rw [hp2, hh2, hr3]; rfl
      · rintro σ Hc ⟨y4, ws, rfl, sm, hpm, ou, m1, m2, om, al2⟩
        rw [lus, List.take_of_length_le (Nat.le_refl _)] at om al2
        refine ⟨_, y4, ws, rfl, sm, m1, m2, ?_, ?_⟩
        · rw [take1, List.flatMap_append, List.flatMap_cons, List.flatMap_nil, List.append_nil, ems]
          exact om
        · rw [take1, List.all_append, al]
          show (true && (jKd0 kd && true)) = true
          unfold jKd0 jKd1
          rw [hp, hh, hr2, ems]
          show ((true && (true && true)) && ms.all jMk0 && true) = true
          rw [al2]; rfl
    · rintro σ Ha ⟨y3, y4, ws, rfl, sm, m1, m2, om, al⟩
      rw [lx, List.take_of_length_le (Nat.le_refl _)] at m1 om al
      have la := mks_few al
      have lws := om.len
      have enm : (ds.map fun k => stO (p0 k)) = nmsD (.tuple ds) := rfl
      have emk : (ds.flatMap fun k => its (p1 k)) = mksD (.tuple ds) := rfl
      have ej : jKinds (.tuple ds) = (decide (nmsD (.tuple ds)).Nodup && (decide ((mksD (.tuple ds)).map fun m => stO (p0 m)).Nodup && (mksD (.tuple ds)).all (jMk2 (nmsD (.tuple ds))))) := by
        show (jRow _ 1 6 && (ds.all jKd0 && _)) = _
        rw [hrow, al]; rfl
      rw [enm] at m1
      rw [emk] at om la lws
      rw [ej] at q no
      have mk0 : ∀ (j : Nat) m, (mksD (.tuple ds))[j]? = some m → jMk0 m = true := fun j m h => by
        have hm := List.mem_of_getElem? h
        obtain ⟨k, hk, hmk⟩ := List.mem_flatMap.mp (show m ∈ ds.flatMap fun k => its (p1 k) from hm)
        have := List.all_eq_true.mp al k hk
        unfold jKd0 at this
        rw [Bool.and_eq_true] at this
        exact List.all_eq_true.mp this.2 m hmk
      have lns : (nmsD (.tuple ds)).length ≤ 6 := by
        show (ds.map _).length ≤ 6
        rw [List.length_map]; omega
      generalize nmsD (.tuple ds) = ns at *
      generalize mksD (.tuple ds) = mds at *
      refine ⟨.ref e1, rfl, e1, ns, rfl, .of m1, by omega, .ref e1, rfl, e1, _, rfl, .inl (.of m1), _, _, rfl, rfl, _, rfl, ?_⟩
      rw [List.length_map, dist_lt]
      cases hn : decide ns.Nodup with
      | false => exact iteT (no (by rw [hn]; rfl) _ sm)
      | true =>
      rw [hn] at q no
      refine iteF ?_
      refine ⟨.ref e2, rfl, e2, rfl, ⟨_, .of m2⟩, fun D hD => ?_⟩
      refine lc_all (walk_list (xs := ws)) (fun j Hx => Same Ha Hx ∧ Hx D = some (.lst (((mds.take j).map fun m => stO (p0 m)).map V.str))) ⟨same_new hD, upd_same⟩ (fun j Hx _ z => .of (z.1 _ _ m2)) (fun j x Hx Hy hj z y => ?_) (fun Hx z => ?_)
      · obtain ⟨s5, eD⟩ := z
        obtain ⟨rfl, hxj⟩ := y
        obtain ⟨m, hm, omm⟩ := (om.mono (fo_same s5)).getV hxj
        have mk := mk0 j m hm
        unfold jMk0 at mk
        simp only [Bool.and_eq_true] at mk
        obtain ⟨pp, w1, w2, rfl, em, hpp, ow1, ow2⟩ := omm.pair mk.1
        obtain ⟨z1, ez⟩ := jHigh_str mk.2.1
        rw [ez] at ow1
        obtain rfl := ow1.str_inv
        refine ⟨rfl, .ref pp, rfl, pp, _, 0, _, rfl, rfl, hpp.sq, atI_nat (j := 0) rfl, _, eD, small1000 (by rw [List.length_map, List.length_map, List.length_take]; omega), fun b o e => ?_, ?_⟩
        · rw [upd_ne (ne_of_none e hD)]; exact s5 _ _ e
        · rw [upd_same, List.take_add_one, hm, List.map_append, List.map_append]
          show _ = some (HO.lst (_ ++ [V.str (stO (p0 m))]))
          rw [ez]; rfl
      · obtain ⟨s5, eD⟩ := z
        rw [lws, List.take_of_length_le (Nat.le_refl _)] at eD
        have m1x := s5 _ _ m1
        have m2x := s5 _ _ m2
        have omx := om.mono (fo_same s5)
        have sx := sm.trans s5
        refine ⟨D, _, rfl, .of eD, by rw [List.length_map]; omega, .ref e2, rfl, e2, _, rfl, .inl (.of m2x), _, _, rfl, rfl, _, rfl, ?_⟩
        have el : ((ws.length : Nat) : Int) = (((mds.map fun m => stO (p0 m)).length : Nat) : Int) := by rw [List.length_map, lws]
        rw [el, dist_lt]
        cases hn2 : decide (mds.map fun m => stO (p0 m)).Nodup with
        | false => exact iteT (no (by rw [hn2]; rfl) _ sx)
        | true =>
        rw [hn2] at q no
        refine iteF ?_
        refine ⟨.ref e2, rfl, e2, rfl, ⟨_, .of m2x⟩, ?_⟩
        refine for_it (walk_list (xs := ws)) (fun j σ Hb => ∃ (y4 y5 : Option V), σ = [some (.ref a), some (.ref e1), some (.ref e2), y3, y4, y5] ∧ Same Hx Hb ∧ (mds.take j).all (jMk2 ns) = true) ⟨_, _, rfl, Same.refl _, rfl⟩ (fun j σ Hb _ z => ?_) ?_ ?_
        · obtain ⟨_, _, _, s6, _⟩ := z
          exact .of (s6 _ _ m2x)
        · rintro j x σ Hb Hc hj ⟨y4, y5, rfl, s6, al2⟩ ⟨rfl, hxj⟩
          obtain ⟨m, hm, omm⟩ := (omx.mono (fo_same s6)).getV hxj
          have mk := mk0 j m hm
          unfold jMk0 at mk
          simp only [Bool.and_eq_true] at mk
          obtain ⟨pp, w1, w2, rfl, em, hpp, ow1, ow2⟩ := omm.pair mk.1
          obtain ⟨fs, efs, _, f4⟩ := jRow_tup mk.2.2
          rw [efs] at ow2
          obtain ⟨pf, us, rfl, hpf, hus⟩ := ow2.tuple_inv
          have lus := hus.len
          have ej2 : jMk2 ns m = fs.all (jFld ns) := by unfold jMk2; rw [efs]; rfl
          refine ⟨.ref pp, rfl, pp, _, 1, _, rfl, rfl, hpp.sq, atI_nat (j := 1) rfl, pf, rfl, ⟨_, hpf.sq⟩, ?_⟩
          refine for_it (walk_tup (xs := us)) (fun i σ H2 => ∃ (y5 : Option V), σ = [some (.ref a), some (.ref e1), some (.ref e2), y3, some (.ref pp), y5] ∧ Same Hc H2 ∧ (fs.take i).all (jFld ns) = true) ⟨_, rfl, Same.refl _, rfl⟩ (fun i σ H2 _ z => ?_) ?_ ?_
          · obtain ⟨_, _, s7, _⟩ := z
            exact (hpf.mono (tk_same s7)).sq
          · rintro i x σ H2 H3 hi ⟨y5, rfl, s7, al3⟩ ⟨rfl, hxi⟩
            obtain ⟨f, hf, of⟩ := (hus.mono (fo_same s7)).getV hxi
            have s67 := s6.trans s7
            have noF : jFld ns f = false → Q (.bl false) H3 := fun e => no (by rw [all_no hm (by rw [ej2]; exact all_no hf e)]; rfl) _ (sx.trans s67)
            have yes : jFld ns f = true → (fs.take (i + 1)).all (jFld ns) = true := fun e => by
              rw [List.take_add_one, hf, List.all_append, al3]
              show (true && (jFld ns f && true)) = true
              rw [e]; rfl
            refine ⟨x, rfl, x, _, .type (tyName f), _, jStr f, rfl, .ty _, od_ty of, kit_ty (kit_str f), jStr f, rfl, ?_⟩
            rcases of.str_or with ⟨z, rfl, rfl, lz⟩ | n
            · refine iteF ⟨.str z, rfl, rfl, _, rfl, ?_⟩
              rw [dec_str]
              have ez : jFld ns (.str z) = (decide (z = "number") || decide (z ∈ ns)) := rfl
              rw [ez] at noF yes
              by_cases hnum : z = "number"
              · rw [decide_eq_true hnum] at yes ⊢
                exact iteF ⟨_, rfl, s7, yes rfl⟩
              · rw [decide_eq_false hnum] at noF yes ⊢
                refine iteT ⟨.str z, rfl, .ref e1, rfl, e1, _, rfl, .inl (.of (s67 _ _ m1x)), rfl, flat_strs' _, _, rfl, ?_⟩
                rw [inV_strs]
                cases hin : decide (z ∈ ns) with
                | false =>
                  rw [hin] at noF
                  exact iteT (noF rfl)
                | true =>
                  rw [hin] at yes
                  exact iteF ⟨_, rfl, s7, yes rfl⟩
            · rw [n]
              exact iteT (noF (jFld_no n))
          · rintro σ H2 ⟨y5, rfl, s7, al3⟩
            rw [lus, List.take_of_length_le (Nat.le_refl _)] at al3
            refine ⟨_, _, rfl, s6.trans s7, ?_⟩
            rw [List.take_add_one, hm, List.all_append, al2]
            show (true && (jMk2 ns m && true)) = true
            rw [ej2, al3]; rfl
        · rintro σ Hb ⟨y4, y5, rfl, s6, al2⟩
          rw [lws, List.take_of_length_le (Nat.le_refl _)] at al2
          rw [al2] at q
          exact q Hb (sx.trans s6)
end
end K63

set_option Elab.async false
set_option linter.all false
set_option maxRecDepth 100000
set_option exponentiation.threshold 20000
set_option pp.deepTerms false
set_option pp.deepTerms.threshold 8
namespace K63
open PySem PySem.Spec PyProof.Rows L2 Ly Mt
/-! ### the law's own judge of terms -/
section
variable {P : Program} {w : World} {K : PySem.W.Frag} {mg : Str → Option Value} {base : Heap}
abbrev s__law_is_term : Stmt := topS 51
theorem sc__law_is_term : FnScope ["thing", "dim", "widths", "k"] ["thing", "dim", "widths"] (defScope s__law_is_term) := ⟨rfl, rfl, rfl, by decide +kernel, rfl, by decide +kernel, by decide +kernel⟩
set_option maxHeartbeats 1000000 in
theorem ok__law_is_term {f : Addr} {fd : FuncData} {k : Nat} (F : Fun K "_law_is_term" "_law_is_term" s__law_is_term f fd) (T : Tx K mg){k1 : Nat} (D__law_is_row : Def P w K mg base k1 "_law_is_row" s__law_is_row ["thing", "low", "high"] (so_is_row K)) {k2 : Nat} (D__law_is_whole : Def P w K mg base k2 "_law_is_whole" s__law_is_whole ["thing", "low", "high"] (so_within K)) {k3 : Nat} (D__law_is_ratio : Def P w K mg base k3 "_law_is_ratio" s__law_is_ratio ["thing"] (so_lratio K)) (e1 : k1 ≤ k) (e2 : k2 ≤ k) (e3 : k3 ≤ k) : FnOk P w K mg base CX0 (k + 1) f fd ["thing", "dim", "widths"] (so_term K) := by
  have nd := sc__law_is_term.nd
  refine F.ok sc__law_is_term (fun vs H Q E h => ?_) (fun cdv A outer s H vs Q E hr h => ?_)
  · obtain ⟨_, _, _, _, _, _, rfl, _⟩ := h
    rfl
  · obtain ⟨S, v, l, t, dim, ws, rfl, hd, hl, few, q⟩ := h
    have no : jTerm t (dim : Nat) ws = false → ∀ H', Same H H' → Q (.bl false) H' := fun e H' s => by
      have := q H' s
      rwa [e] at this
    refine ⟨_, (pss_cons (ps_if (PW.pt (pw_or (pt_not (pt_val (pe_def D__law_is_row (hr.mono (by omega)) rfl (pa_cons (pv 0) (pa_cons pe_int (pa_cons pe_int pa_nil)))))) (pw_or1 (pt_not (pt_val (pe_def D__law_is_whole (hr.mono (by omega)) rfl (pa_cons (pe_ix (kix_tup K) (pv 0) pe_int (fun _ _ => rfl)) (pa_cons pe_int (pa_cons (pe_op op_sub (pv 1) pe_int) pa_nil)))))))))
        (pss_one (ps_ret pe_bl))
        pss_nil)
      (pss_cons (ps_if (PW.pt (pw_or (pt_not (pt_val (pe_def D__law_is_row (hr.mono (by omega)) rfl (pa_cons (pe_ix (kix_tup K) (pv 0) pe_int (fun _ _ => rfl)) (pa_cons (pe_callB (kcall_len K) (by rfl) T.m_len PySem.boot_len (pa_cons (pv 2) pa_nil)) (pa_cons (pe_callB (kcall_len K) (by rfl) T.m_len PySem.boot_len (pa_cons (pv 2) pa_nil)) pa_nil)))))) (pw_or (pt_not (pt_val (pe_def D__law_is_ratio (hr.mono (by omega)) rfl (pa_cons (pe_ix (kix_tup K) (pv 0) pe_int (fun _ _ => rfl)) pa_nil)))) (pw_or1 (pt_cmpR op_eq (pe_ix (kix_tup K) (pe_ix (kix_tup K) (pv 0) pe_int (fun _ _ => rfl)) pe_int (fun _ _ => rfl)) pe_int (nomark _))))))
        (pss_one (ps_ret pe_bl))
        pss_nil)
      (pss_one (ps_ret (pe_cmpR (kop_eqNil K hr.units) (pe_lc (own := [("k", 3)]) (g := gName 3) rfl nd (pi_range1 rfl T.m_range (pa_cons (pe_callB (kcall_len K) (by rfl) T.m_len PySem.boot_len (pa_cons (pv 2) pa_nil)) pa_nil)) (blkOk_by (by rfl)) (fun _ _ _ _ _ => (pg_name (i := 3) nd rfl (.inl rfl))) (fun _ _ _ _ _ => (pts_one (pt_not (pt_val (pe_def D__law_is_whole (hr.mono (by omega)) rfl (pa_cons (pe_ix (kix_tup K) (pe_ix (kix_tup K) (pv 0) pe_int (fun _ _ => rfl)) (pv 3) (fun _ _ => rfl)) (pa_cons pe_int (pa_cons (pe_op op_sub (pe_ix (kix_list K) (pv 2) (pv 3) (fun _ _ => rfl)) pe_int) pa_nil)))))))) (fun _ _ _ _ _ => (pv 3))) (pe_lst pa_nil) (nomark _)))))), ?_⟩
    refine ⟨v, rfl, S, v, t, 3, 3, rfl, hd, jRow t 3 3, rfl, ?_⟩
    cases h1 : jRow t 3 3 with
    | false => exact iteT (no (by unfold jTerm; rw [h1]; rfl) H (Same.refl H))
    | true =>
    have et := tup3 h1
    rw [et] at hd
    obtain ⟨a, xs, rfl, ha, hx⟩ := hd.tuple_inv
    obtain ⟨x, r, rfl, ox, hr1⟩ := hx.cons_inv
    obtain ⟨y, r, rfl, oy, hr2⟩ := hr1.cons_inv
    obtain ⟨z, r, rfl, oz, hr3⟩ := hr2.cons_inv
    obtain rfl := hr3.nil_inv
    refine iteF ⟨.ref a, rfl, a, _, 0, _, rfl, rfl, ha.sq, atI_nat (j := 0) rfl, .int dim, rfl, _, _, rfl, rfl, S, x, p0 t, 0, _, rfl, ox, jWithin (p0 t) 0 ((dim : Nat) - 1), rfl, ?_⟩
    cases h2 : jWithin (p0 t) 0 ((dim : Nat) - 1) with
    | false => exact iteT (no (by unfold jTerm; rw [h1, h2]; rfl) H (Same.refl H))
    | true =>
    refine iteF ⟨.ref a, rfl, a, _, 1, _, rfl, rfl, ha.sq, atI_nat (j := 1) rfl, .ref l, rfl, l, _, rfl, .inl (.of hl), .ref l, rfl, l, _, rfl, .inl (.of hl), ?_⟩
    rw [List.length_map]
    refine ⟨S, y, p1 t, _, _, rfl, oy, jRow (p1 t) (ws.length : Nat) (ws.length : Nat), rfl, ?_⟩
    cases h3 : jRow (p1 t) (ws.length : Nat) (ws.length : Nat) with
    | false => exact iteT (no (by unfold jTerm; rw [h1, h2, h3]; rfl) H (Same.refl H))
    | true =>
    obtain ⟨cs, ecs, c1, c2⟩ := jRow_tup h3
    rw [ecs] at oy
    obtain ⟨b, ys, rfl, hb, hy⟩ := oy.tuple_inv
    have ly := hy.len
    have lc : cs.length = ws.length := by omega
    have e4 : ((cs.zip ws).all fun p => jWithin p.1 0 ((p.2 : Int) - 1)) = jCols (its (p1 t)) ws := by rw [ecs]; rfl
    have ej : jTerm t (dim : Nat) ws = (jCols (its (p1 t)) ws && jRat0 (p2 t)) := by unfold jTerm; rw [h1, h2, h3]; rfl
    rw [ej] at q no
    refine iteF ⟨.ref a, rfl, a, _, 2, _, rfl, rfl, ha.sq, atI_nat (j := 2) rfl, S, z, p2 t, rfl, oz, fun H2 sm => ⟨jRatio (p2 t), rfl, ?_⟩⟩
    have ha2 := ha.mono (tk_same sm)
    have hb2 := hb.mono (tk_same sm)
    have hy2 := hy.mono (fo_same sm)
    have hl2 := sm _ _ hl
    cases h5 : jRatio (p2 t) with
    | false => exact iteT (no (by unfold jRat0; rw [h5, Bool.false_and, Bool.and_false]) _ sm)
    | true =>
    obtain ⟨r, er⟩ := jRatio_rat h5
    have oz2 := oz.mono (fo_same sm)
    rw [er] at oz2
    obtain ⟨c, rfl, hc⟩ := rat_inv (Od.im _ (noL_rD r) oz2)
    refine iteF ⟨.ref a, rfl, a, _, 2, _, rfl, rfl, ha2.sq, atI_nat (j := 2) rfl, c, _, 0, _, rfl, rfl, hc.sq, atI_nat (j := 0) rfl, rfl, _, rfl, ?_⟩
    rw [dec_le]
    have e6 : jRat0 (p2 t) = !decide (r.num = 0) := by
      unfold jRat0
      rw [h5, er]; rfl
    rw [e6] at q no
    cases h6 : decide (r.num = 0) with
    | true => exact iteT (no (by rw [h6, Bool.not_true, Bool.and_false]) _ sm)
    | false =>
    rw [h6, Bool.not_false, Bool.and_true, ← e4] at q no
    refine iteF ⟨.ref l, rfl, l, _, rfl, .inl (.of hl2), (ws.length : Nat), by rw [List.length_map], by omega, by omega, fun D hD => ?_⟩
    refine lc_it (walk_range (lo := 0) (n := ((ws.length : Nat) : Int).toNat)) (fun i H3 => Nn (fun p : PyData × Nat => jWithin p.1 0 ((p.2 : Int) - 1)) (cs.zip ws) H2 D i H3) (.new hD) (fun _ _ _ _ => trivial) (fun i x H3 H4 hi zz y => ?_) (fun H3 zz => ?_)
    · obtain ⟨rfl, rfl⟩ := y
      rw [Int.toNat_natCast] at hi
      show gName 3 (V.int ((0 : Int) + (i : Nat))) _ _ _
      rw [show (0 : Int) + (i : Nat) = (i : Nat) by omega]
      obtain ⟨cc, ecc⟩ : ∃ cc, cs[i]? = some cc := ⟨_, List.getElem?_eq_getElem (by omega)⟩
      obtain ⟨w', ew⟩ : ∃ w', ws[i]? = some w' := ⟨_, List.getElem?_eq_getElem hi⟩
      obtain ⟨x1, hx1, ox1⟩ := (hy2.mono (fo_same zz.sm)).get ecc
      have hz : (cs.zip ws)[i]? = some (cc, w') := by
        rw [List.getElem?_zip_eq_some]
        exact ⟨ecc, ew⟩
      have ha3 := ha2.mono (tk_same zz.sm)
      have hb3 := hb2.mono (tk_same zz.sm)
      have hl3 := zz.sm _ _ hl2
      refine ⟨rfl, .ref a, rfl, a, _, 1, _, rfl, rfl, ha3.sq, atI_nat (j := 1) rfl, .int (i : Nat), rfl, b, _, (i : Nat), x1, rfl, rfl, hb3.sq, atI_nat hx1, .ref l, rfl, .int (i : Nat), rfl, l, _, (i : Nat), .int (w' : Nat), rfl, rfl, .of hl3, atI_nat (by rw [List.getElem?_map, ew]; rfl), _, _, rfl, rfl, S, x1, cc, 0, _, rfl, ox1, jWithin cc 0 ((w' : Nat) - 1), rfl, ?_⟩
      have i9 : i ≤ 9000 := by omega
      cases h7 : jWithin cc 0 ((w' : Nat) - 1) with
      | false => exact iteT ⟨.int (i : Nat), rfl, zz.add hD (Same.refl _) hz h7 i9 _⟩
      | true => exact iteF (zz.skip (Same.refl _) hz h7)
    · obtain ⟨us, eD, eu⟩ := zz.fin (by rw [List.length_zip, Int.toNat_natCast]; omega)
      refine ⟨by show 0 ≤ sizeLine; decide, fun F hF => ?_⟩
      have s3 := same_new (o := .lst []) hF
      refine ⟨D, F, us, rfl, rfl, .of (s3 _ _ eD), .of upd_same, ?_⟩
      rw [eu]
      exact q _ ((sm.trans zz.sm).trans s3)
end
end K63

set_option Elab.async false
set_option linter.all false
set_option maxRecDepth 100000
/-! a list's method with arguments, within a comprehension -/
namespace Ly
open PySem PySem.Spec PyProof.Rows L2
theorem kmt_index {X : Cx} (K : PySem.W.Frag) (e : X.K = K := by rfl) : MtR X "list.index" (rIndex K) := by subst e; exact mt_index
theorem kpe_bm {X : Cx} (K : PySem.W.Frag) {o e : Expr} {es : List Expr} {to : TE} {t : TA} {name : Str} {apos cpos : Pos} {T id : String} {r : V → List V → Hp → VK → Prop} (pa : PlainAttrs T) (slot : Slot T name id) (hty : typeOf (.builtin id) = pure (.type "method_descriptor")) (hm : MtR X id r) (ho : PE X o to) (ha : PA X (e :: es) t)
    (hbase : attributeBase o name X.env (eval o X.env) = eval o X.env := by rfl)
    (hfew : ((backTo cpos (starEach (e :: es) X.env)).all (fun x => !x.1) && (backToKw cpos (keywordEach [] X.env)).all (fun x => x.1.isSome)
      && decide ((e :: es).length + ([] : List Keyword).length + (if ([] : List Keyword).isEmpty then 0 else 1) < 30)) = true := by rfl)
    (hline : (apos.endLine == cpos.line) = true := by rfl) (hs : starEach (e :: es) X.env = (false, eval e X.env) :: starEach es X.env := by rfl) (hplain : (backTo cpos (starEach es X.env)).any (·.1) = false := by rfl) (eK : X.K = K := by rfl) :
    PE X (.Call (.Attribute o name apos) (e :: es) [] cpos) (tBM K T r to t) := by
  subst eK
  exact pe_bm pa slot hty hm ho ha hbase hfew hline hs hplain
end Ly

set_option Elab.async false
set_option linter.all false
set_option maxRecDepth 100000
set_option exponentiation.threshold 20000
set_option pp.deepTerms false
set_option pp.deepTerms.threshold 8
namespace K63
open PySem PySem.Spec PyProof.Rows L2 Ly Mt
/-! ### the law's own judge of maps -/
theorem idx_at {xs : List Str} {f : Str} (hf : f ∈ xs) : (xs.map V.str)[xs.idxOf f]? = some (.str f) ∧ ∀ m z', m < xs.idxOf f → (xs.map V.str)[m]? = some z' → eqV z' (.str f) = false := by
  have hi := List.idxOf_lt_length_of_mem hf
  have eat : xs[xs.idxOf f]? = some f := by rw [List.getElem?_eq_getElem hi]; exact congrArg some (List.getElem_idxOf hi)
  refine ⟨by rw [List.getElem?_map, eat]; rfl, fun m z' hm hz => ?_⟩
  rw [List.getElem?_map] at hz
  obtain ⟨y, hy, rfl⟩ := Option.map_eq_some_iff.mp hz
  have : y ≠ f := fun z => by
    subst z
    have hl := (List.getElem?_eq_some_iff.mp hy).1
    have := List.not_of_lt_findIdx (p := (· == y)) (xs := xs) (i := m) hm
    rw [List.getElem?_eq_getElem hl] at hy
    rw [Option.some.inj hy] at this
    simp at this
  simp [eqV, this]
theorem num_out {ks : List Kd} (ok : KindsOk ks) : ("number" : Str) ∉ ks.map (·.1) := fun z => by
  obtain ⟨k, hk, e⟩ := List.mem_map.mp z
  obtain ⟨_, c, hc, hh⟩ := ok.nm k hk
  rw [e] at hc
  have e2 : ("number" : Str).cps[0]? = some 110 := by decide +kernel
  rw [e2] at hc
  obtain rfl := Option.some.inj hc
  exact absurd hh (by decide +kernel)
section
variable {P : Program} {w : World} {K : PySem.W.Frag} {mg : Str → Option Value} {base : Heap}
abbrev s__law_are_maps : Stmt := topS 52
theorem sc__law_are_maps : FnScope ["thing", "kinds", "dims", "titles", "k", "makers", "m", "widths", "terms", "kind", "field", "term", "at"] ["thing", "kinds", "dims"] (defScope s__law_are_maps) := ⟨rfl, rfl, rfl, by decide +kernel, rfl, by decide +kernel, by decide +kernel⟩
def so_lmaps (K : PySem.W.Frag) : Sp := fun vs H Q _ => ∃ (S : Addr → Prop) (v u z : V) (d : PyData) (ks : List Kd) (dims : List Nat), vs = [v, u, z] ∧ Od K S H v d ∧ Im K H u (ksD ks) ∧ Im K H z (nsD dims) ∧ KindsOk ks ∧ dims.length = ks.length ∧ ∀ H', Same H H' → Q (.bl (jMaps d ks dims 4000)) H'
set_option maxHeartbeats 1000000 in
theorem ok__law_are_maps {f : Addr} {fd : FuncData} {k : Nat} (F : Fun K "_law_are_maps" "_law_are_maps" s__law_are_maps f fd) (T : Tx K mg){k1 : Nat} (D__law_is_row : Def P w K mg base k1 "_law_is_row" s__law_is_row ["thing", "low", "high"] (so_is_row K)) {k2 : Nat} (D__law_is_term : Def P w K mg base k2 "_law_is_term" s__law_is_term ["thing", "dim", "widths"] (so_term K)) (e1 : k1 ≤ k) (e2 : k2 ≤ k) : FnOk P w K mg base CX0 (k + 1) f fd ["thing", "kinds", "dims"] (so_lmaps K) := by
  have nd := sc__law_are_maps.nd
  refine F.ok sc__law_are_maps (fun vs H Q E h => ?_) (fun cdv A outer s H vs Q E hr h => ?_)
  · obtain ⟨_, _, _, _, _, _, _, rfl, _⟩ := h
    rfl
  · obtain ⟨S, v, u, z, d0, ks, dims, rfl, hd, iu, iz, ok, ld, q⟩ := h
    have no : jMaps d0 ks dims 4000 = false → ∀ H', Same H H' → Q (.bl false) H' := fun e H' s => by
      have := q H' s
      rwa [e] at this
    obtain ⟨b, ys, rfl, hb, hy⟩ := iu.tuple_inv
    obtain ⟨c, zs, rfl, hc, hz⟩ := iz.tuple_inv
    obtain rfl := im_nats hz
    have ly : ys.length = ks.length := all_len hy
    have kf := ok.few
    refine ⟨_, (pss_cons (ps_if (pt_not (pt_val (pe_def D__law_is_row (hr.mono (by omega)) rfl (pa_cons (pv 0) (pa_cons (pe_callB (kcall_len K) (by rfl) T.m_len PySem.boot_len (pa_cons (pv 1) pa_nil)) (pa_cons (pe_callB (kcall_len K) (by rfl) T.m_len PySem.boot_len (pa_cons (pv 1) pa_nil)) pa_nil))))))
        (pss_one (ps_ret pe_bl))
        pss_nil)
      (pss_cons (ps_set (i := 3) nd rfl (.inr rfl) (pe_lc (own := [("kind", 9), ("makers", 5)]) (g := _) (tt := tYes) rfl nd (kpi_tup K (pv 1)) (blkOk_by (by rfl)) (fun _ _ _ _ _ => (kpg_tup K (n := 2) rfl (pgs_cons (pg_name (i := 9) nd rfl (.inl rfl)) (pgs_cons (pg_name (i := 5) nd rfl (.inl rfl)) pgs_nil)))) (fun _ _ _ _ _ => pts_nil) (fun _ _ _ _ _ => (pv 9))))
      (pss_cons (ps_for PassesOwn.never rfl (pi_range1 rfl T.m_range (pa_cons (pe_callB (kcall_len K) (by rfl) T.m_len PySem.boot_len (pa_cons (pv 1) pa_nil)) pa_nil)) (pg_name (i := 4) nd rfl (.inr rfl))
        (pss_cons (ps_set (i := 5) nd rfl (.inl rfl) (pe_ix (kix_tup K) (pe_ix (kix_tup K) (pv 1) (pv 4) (fun _ _ => rfl)) pe_int (fun _ _ => rfl)))
        (pss_cons (ps_if (pt_not (pt_val (pe_def D__law_is_row (hr.mono (by omega)) rfl (pa_cons (pe_ix (kix_tup K) (pv 0) (pv 4) (fun _ _ => rfl)) (pa_cons (pe_callB (kcall_len K) (by rfl) T.m_len PySem.boot_len (pa_cons (pv 5) pa_nil)) (pa_cons (pe_callB (kcall_len K) (by rfl) T.m_len PySem.boot_len (pa_cons (pv 5) pa_nil)) pa_nil))))))
          (pss_one (ps_ret pe_bl))
          pss_nil)
        (pss_one (ps_for PassesOwn.never rfl (pi_range1 rfl T.m_range (pa_cons (pe_callB (kcall_len K) (by rfl) T.m_len PySem.boot_len (pa_cons (pv 5) pa_nil)) pa_nil)) (pg_name (i := 6) nd rfl (.inl rfl))
          (pss_cons (ps_set (i := 7) nd rfl (.inr rfl) (pe_lc (own := [("field", 10)]) (g := gName 10) (tt := tYes) rfl nd (kpi_tup K (pe_ix (kix_tup K) (pe_ix (kix_tup K) (pv 5) (pv 6) (fun _ _ => rfl)) pe_int (fun _ _ => rfl))) (blkOk_by (by rfl)) (fun _ _ _ _ _ => (pg_name (i := 10) nd rfl (.inl rfl))) (fun _ _ _ _ _ => pts_nil) (fun _ _ _ _ _ => (pe_ifExp (pt_cmpR op_eq (pv 10) pe_str (nomark _)) pe_int (pe_ix (kix_tup K) (pv 2) (kpe_bm K PySem.F.plainAttrs_list PySem.F.slot_list_index PySem.F.type_list_index (kmt_index K) (pv 3) (pa_cons (pv 10) pa_nil)) (fun _ _ => rfl))))))
          (pss_cons (ps_set (i := 8) nd rfl (.inr rfl) (pe_ix (kix_tup K) (pe_ix (kix_tup K) (pv 0) (pv 4) (fun _ _ => rfl)) (pv 6) (fun _ _ => rfl)))
          (pss_cons (ps_if (PW.pt (pw_or (pt_not (pt_val (pe_def D__law_is_row (hr.mono (by omega)) rfl (pa_cons (pv 8) (pa_cons pe_int (pa_cons pe_int pa_nil)))))) (pw_or1 (pt_cmpR (kop_neNil K hr.units) (pe_lc (own := [("term", 11)]) (g := gName 11) rfl nd (kpi_tup K (pv 8)) (blkOk_by (by rfl)) (fun _ _ _ _ _ => (pg_name (i := 11) nd rfl (.inl rfl))) (fun _ _ _ _ _ => (pts_one (pt_not (pt_val (pe_def D__law_is_term (hr.mono (by omega)) rfl (pa_cons (pv 11) (pa_cons (pe_ix (kix_tup K) (pv 2) (pv 4) (fun _ _ => rfl)) (pa_cons (pv 7) pa_nil)))))))) (fun _ _ _ _ _ => (pv 11))) (pe_lst pa_nil) (nomark _)))))
            (pss_one (ps_ret pe_bl))
            pss_nil)
          (pss_one (ps_if (pt_cmpR (kop_neNil K hr.units) (pe_lc (own := [("at", 12)]) (g := gName 12) rfl nd (pi_range2 rfl T.m_range (pa_cons pe_int (pa_cons (pe_callB (kcall_len K) (by rfl) T.m_len PySem.boot_len (pa_cons (pv 8) pa_nil)) pa_nil))) (blkOk_by (by rfl)) (fun _ _ _ _ _ => (pg_name (i := 12) nd rfl (.inl rfl))) (fun _ _ _ _ _ => (pts_one (pt_cmpR (op_leD K hr.units) (pe_slice (ksl_tupA K) (pe_ix (kix_tup K) (pv 8) (pv 12) (fun _ _ => rfl)) po_none (po_some pe_int)) (pe_slice (ksl_tupA K) (pe_ix (kix_tup K) (pv 8) (pe_op op_sub (pv 12) pe_int) (fun _ _ => rfl)) po_none (po_some pe_int)) (nomark _)))) (fun _ _ _ _ _ => (pv 12))) (pe_lst pa_nil) (nomark _))
            (pss_one (ps_ret pe_bl))
            pss_nil))))))))))
      (pss_one (ps_ret pe_bl))))), ?_⟩
    refine ⟨v, rfl, .ref b, rfl, b, ys, rfl, .inr hb.sq, .ref b, rfl, b, ys, rfl, .inr hb.sq, ?_⟩
    rw [ly]
    refine ⟨S, v, d0, _, _, rfl, hd, jRow d0 (ks.length : Nat) (ks.length : Nat), rfl, ?_⟩
    cases h1 : jRow d0 (ks.length : Nat) (ks.length : Nat) with
    | false => exact iteT (no (by unfold jMaps; rw [h1]; rfl) H (Same.refl H))
    | true =>
    obtain ⟨ds, rfl, l1, l2⟩ := jRow_tup h1
    obtain ⟨a, xs, rfl, ha, hx⟩ := hd.tuple_inv
    have lx := hx.len
    have ej : jMaps (.tuple ds) ks dims 4000 = (List.range ks.length).all fun i => jRowM ks dims 4000 i (ks.getD i (noS, [])) (ds.getD i .none) := by
      show (jRow _ _ _ && _) = _
      rw [h1]; rfl
    rw [ej] at q no
    refine iteF ⟨.ref b, rfl, b, rfl, ⟨_, hb.sq⟩, fun N hN => ?_⟩
    refine lc_all (walk_tup (xs := ys)) (fun i H2 => Same H H2 ∧ H2 N = some (.lst (((ks.take i).map (·.1)).map V.str))) ⟨same_new hN, upd_same⟩ (fun i H2 _ z => (hb.mono (tk_same z.1)).sq) (fun i x H2 H3 hi z y => ?_) (fun H1 z => ?_)
    · obtain ⟨sm, eN⟩ := z
      obtain ⟨rfl, hxi⟩ := y
      obtain ⟨kd, hkd, ikd⟩ := all_get (ImAll.mono (tk_same sm) _ hy) hxi
      obtain ⟨pk, u1, u2, rfl, hpk, iu1, iu2⟩ := im_pair ikd
      obtain rfl := iu1.str_inv
      refine ⟨pk, _, rfl, hpk.sq, rfl, .str kd.1, _, rfl, u2, _, rfl, rfl, rfl, .str kd.1, rfl, _, eN, small1000 (by rw [List.length_map, List.length_map, List.length_take]; omega), fun b o e => ?_, ?_⟩
      · rw [upd_ne (ne_of_none e hN)]; exact sm _ _ e
      · rw [upd_same, List.take_add_one, hkd, List.map_append, List.map_append]; rfl
    · obtain ⟨s1, eN⟩ := z
      rw [ly, List.take_of_length_le (Nat.le_refl _)] at eN
      refine ⟨.ref b, rfl, b, ys, rfl, .inr (hb.mono (tk_same s1)).sq, (ks.length : Nat), by rw [ly], by omega, by omega, ?_⟩
      refine for_it (walk_range (lo := 0) (n := ((ks.length : Nat) : Int).toNat)) (fun j σ Hb => ∃ (y4 y5 y6 y7 y8 : Option V), σ = [some (.ref a), some (.ref b), some (.ref c), some (.ref N), y4, y5, y6, y7, y8, none, none, none, none] ∧ Same H1 Hb ∧ ((List.range j).all fun i => jRowM ks dims 4000 i (ks.getD i (noS, [])) (ds.getD i .none)) = true) ⟨_, _, _, _, _, rfl, Same.refl _, rfl⟩ (fun _ _ _ _ _ => trivial) ?_ ?_
      · rintro i x σ Hb Hc hi ⟨y4, y5, y6, y7, y8, rfl, s6, al⟩ ⟨rfl, rfl⟩
        rw [Int.toNat_natCast] at hi
        show gName 4 (V.int ((0 : Int) + (i : Nat))) _ _ _
        rw [show (0 : Int) + (i : Nat) = (i : Nat) by omega]
        have sH := s1.trans s6
        obtain ⟨kd, hkd⟩ : ∃ kd, ks[i]? = some kd := ⟨_, List.getElem?_eq_getElem hi⟩
        obtain ⟨dm, hdm⟩ : ∃ dm, dims[i]? = some dm := ⟨_, List.getElem?_eq_getElem (by omega)⟩
        obtain ⟨row, hrow⟩ : ∃ row, ds[i]? = some row := ⟨_, List.getElem?_eq_getElem (by omega)⟩
        obtain ⟨vk, e1, ikd⟩ := all_at (ImAll.mono (tk_same sH) _ hy) hkd
        obtain ⟨x3, e3, orow⟩ := (hx.mono (fo_same sH)).get hrow
        obtain ⟨pk, u1, u2, rfl, hpk, iu1, iu2⟩ := im_pair ikd
        obtain rfl := iu1.str_inv
        obtain ⟨pm, us, rfl, hpm, ius⟩ := iu2.tuple_inv
        have kmem := List.mem_of_getElem? hkd
        have lus : us.length = kd.2.length := all_len ius
        have mk6 := ok.mks kd kmem
        have ek : ks.getD i (noS, []) = kd := by rw [List.getD_eq_getElem?_getD, hkd]; rfl
        have er : ds.getD i .none = row := by rw [List.getD_eq_getElem?_getD, hrow]; rfl
        have noR : jRowM ks dims 4000 i kd row = false → ∀ H', Same H H' → Q (.bl false) H' := fun e => no (range_all_no hi (by rw [ek, er]; exact e))
        have hb6 := hb.mono (tk_same sH)
        have ha6 := ha.mono (tk_same sH)
        have hc6 := hc.mono (tk_same sH)
        refine ⟨.ref b, rfl, .int (i : Nat), rfl, b, _, (i : Nat), .ref pk, rfl, rfl, hb6.sq, atI_nat e1, pk, _, 1, _, rfl, rfl, hpk.sq, atI_nat (j := 1) rfl, ?_⟩
        refine ⟨.ref a, rfl, .int (i : Nat), rfl, a, _, (i : Nat), x3, rfl, rfl, ha6.sq, atI_nat e3, .ref pm, rfl, pm, us, rfl, .inr hpm.sq, .ref pm, rfl, pm, us, rfl, .inr hpm.sq, ?_⟩
        rw [lus]
        refine ⟨S, x3, row, _, _, rfl, orow, jRow row (kd.2.length : Nat) (kd.2.length : Nat), rfl, ?_⟩
        cases h2 : jRow row (kd.2.length : Nat) (kd.2.length : Nat) with
        | false => exact iteT (noR (by unfold jRowM; rw [h2]; rfl) _ sH)
        | true =>
        obtain ⟨cs, rfl, c1, c2⟩ := jRow_tup h2
        obtain ⟨pr, ws, rfl, hpr, ows⟩ := orow.tuple_inv
        have lws := ows.len
        have ejR : jRowM ks dims 4000 i kd (.tuple cs) = (List.range kd.2.length).all (jCell ks dims 4000 i kd (.tuple cs)) := by
          unfold jRowM
          rw [h2]; rfl
        rw [ejR] at noR
        refine iteF ⟨.ref pm, rfl, pm, us, rfl, .inr hpm.sq, (kd.2.length : Nat), by rw [lus], by omega, by omega, ?_⟩
        refine for_it (walk_range (lo := 0) (n := ((kd.2.length : Nat) : Int).toNat)) (fun j σ Hd => ∃ (y6 y7 y8 : Option V), σ = [some (.ref a), some (.ref b), some (.ref c), some (.ref N), some (.int (i : Nat)), some (.ref pm), y6, y7, y8, none, none, none, none] ∧ Same Hc Hd ∧ (List.range j).all (jCell ks dims 4000 i kd (.tuple cs)) = true) ⟨_, _, _, rfl, Same.refl _, rfl⟩ (fun _ _ _ _ _ => trivial) ?_ ?_
        · rintro j x σ Hd He hj ⟨y6, y7, y8, rfl, s8, al2⟩ ⟨rfl, rfl⟩
          rw [Int.toNat_natCast] at hj
          show gName 6 (V.int ((0 : Int) + (j : Nat))) _ _ _
          rw [show (0 : Int) + (j : Nat) = (j : Nat) by omega]
          obtain ⟨m, hm⟩ : ∃ m, kd.2[j]? = some m := ⟨_, List.getElem?_eq_getElem hj⟩
          obtain ⟨ts, hts⟩ : ∃ ts, cs[j]? = some ts := ⟨_, List.getElem?_eq_getElem (by omega)⟩
          obtain ⟨vm, f1, im⟩ := all_at (ImAll.mono (tk_same s8) _ ius) hm
          obtain ⟨x2, f2, ots⟩ := (ows.mono (fo_same s8)).get hts
          obtain ⟨pp, w1, w2, rfl, hpp, iw1, iw2⟩ := im_pair im
          obtain ⟨pf, fs, rfl, hpf, ifs⟩ := iw2.tuple_inv
          have lfs : fs.length = m.2.length := all_len ifs
          have em : kd.2.getD j (noS, []) = m := by rw [List.getD_eq_getElem?_getD, hm]; rfl
          have ets : (its (.tuple cs)).getD j .none = ts := by rw [List.getD_eq_getElem?_getD, show (its (.tuple cs))[j]? = some ts from hts]; rfl
          have edm : dims.getD i 0 = dm := by rw [List.getD_eq_getElem?_getD, hdm]; rfl
          have ec : jCell ks dims 4000 i kd (.tuple cs) j = jTerms ts (dm : Nat) (m.2.map (wd (ks.map (·.1)) dims)) 4000 := by
            unfold jCell
            rw [em, ets, edm]; rfl
          have s9 := sH.trans s8
          have noC : jTerms ts (dm : Nat) (m.2.map (wd (ks.map (·.1)) dims)) 4000 = false → ∀ H', Same H H' → Q (.bl false) H' := fun e => noR (range_all_no hj (by rw [ec]; exact e))
          have l4 := (ok.mkk _ kmem _ (List.mem_of_getElem? hm)).2
          have hc9 := hc.mono (tk_same s9)
          have eN9 := (s6.trans s8) _ _ eN
          refine ⟨.ref pm, rfl, .int (j : Nat), rfl, pm, _, (j : Nat), .ref pp, rfl, rfl, (hpm.mono (tk_same s8)).sq, atI_nat f1, pp, _, 1, _, rfl, rfl, hpp.sq, atI_nat (j := 1) rfl, pf, rfl, ⟨_, hpf.sq⟩, fun D hD => ?_⟩
          refine lc_all (walk_tup (xs := fs)) (fun i H2 => Same He H2 ∧ H2 D = some (.lst (((m.2.take i).map (wd (ks.map (·.1)) dims)).map (fun n : Nat => V.int (n : Nat))))) ⟨same_new hD, upd_same⟩ (fun i H2 _ z => (hpf.mono (tk_same z.1)).sq) (fun t x H2 H3 ht z y => ?_) (fun H2 z => ?_)
          · obtain ⟨s10, eD⟩ := z
            obtain ⟨rfl, hxt⟩ := y
            obtain ⟨f, hf, iff⟩ := all_get (ImAll.mono (tk_same s10) _ ifs) hxt
            obtain rfl := iff.str_inv
            have fin : ∀ n : Nat, n = wd (ks.map (·.1)) dims f → ∃ acc, H3 D = some (.lst acc) ∧ acc.length < sizeLine ∧ Same He (upd H3 D (.lst (acc ++ [V.int (n : Nat)]))) ∧ (upd H3 D (.lst (acc ++ [V.int (n : Nat)]))) D = some (.lst (((m.2.take (t + 1)).map (wd (ks.map (·.1)) dims)).map (fun n : Nat => V.int (n : Nat)))) := fun n en => by
              refine ⟨_, eD, small1000 (by rw [List.length_map, List.length_map, List.length_take]; omega), fun b o e => ?_, ?_⟩
              · rw [upd_ne (ne_of_none e hD)]; exact s10 _ _ e
              · rw [upd_same, List.take_add_one, hf, List.map_append, List.map_append, en]; rfl
            refine ⟨rfl, .str f, rfl, rfl, _, rfl, ?_⟩
            rw [dec_str]
            by_cases hnum : f = "number"
            · rw [decide_eq_true hnum]
              refine iteT (fin 2 ?_)
              unfold wd
              rw [if_neg (by rw [hnum]; exact num_out ok)]
            · rw [decide_eq_false hnum]
              have hin : f ∈ ks.map (·.1) := (ok.flds _ kmem _ (List.mem_of_getElem? hm) f (List.mem_of_getElem? hf)).resolve_left hnum
              obtain ⟨ix1, ix2⟩ := idx_at hin
              have hlt : (ks.map (·.1)).idxOf f < dims.length := by
                have := List.idxOf_lt_length_of_mem hin
                rw [List.length_map] at this
                omega
              have ed : dims[(ks.map (·.1)).idxOf f]? = some (dims.getD ((ks.map (·.1)).idxOf f) 0) := by rw [List.getD_eq_getElem?_getD, List.getElem?_eq_getElem hlt]; rfl
              refine iteF ⟨.ref c, rfl, .ref N, rfl, .inl ⟨rfl, _, .of (s10 _ _ eN9)⟩, .str f, rfl, N, _, .str f, (ks.map (·.1)).idxOf f, .str f, rfl, rfl, .of (s10 _ _ eN9), rfl, flat_strs' _, ix1, by rw [eqs, decide_eq_true rfl], ix2, ?_⟩
              refine ⟨c, _, _, .int ((dims.getD ((ks.map (·.1)).idxOf f) 0 : Nat) : Int), rfl, rfl, (hc9.mono (tk_same s10)).sq, atI_nat ?_, fin _ ?_⟩
              · rw [List.getElem?_map, ed]; rfl
              · unfold wd
                rw [if_pos hin]
          · obtain ⟨s10, eD⟩ := z
            rw [lfs, List.take_of_length_le (Nat.le_refl _)] at eD
            have s11 := s9.trans s10
            have hpr2 := hpr.mono (tk_same (s8.trans s10))
            have ots2 := ots.mono (fo_same s10)
            have ha11 := ha.mono (tk_same s11)
            have hc11 := hc.mono (tk_same s11)
            refine ⟨.ref a, rfl, .int (i : Nat), rfl, a, _, (i : Nat), .ref pr, rfl, rfl, ha11.sq, atI_nat e3, .int (j : Nat), rfl, pr, _, (j : Nat), x2, rfl, rfl, hpr2.sq, atI_nat f2, ?_⟩
            refine ⟨x2, rfl, S, x2, ts, 0, 4000, rfl, ots2, jRow ts 0 4000, rfl, ?_⟩
            have lww : (m.2.map (wd (ks.map (·.1)) dims)).length ≤ 1000 := by rw [List.length_map]; omega
            generalize m.2.map (wd (ks.map (·.1)) dims) = wws at *
            cases h5 : jRow ts 0 4000 with
            | false => exact iteT (noC (by unfold jTerms; rw [h5]; rfl) _ s11)
            | true =>
            obtain ⟨tl, rfl, _, ln⟩ := jRow_tup h5
            obtain ⟨ta, tv, rfl, hta, htx⟩ := ots2.tuple_inv
            have ltx := htx.len
            have sz : tl.length < sizeLine := Nat.lt_of_le_of_lt (show tl.length ≤ 8000 by omega) (by decide)
            have ejT : jTerms (.tuple tl) (dm : Nat) wws 4000 = (tl.all (fun t => jTerm t (dm : Nat) wws) && (List.range (tl.length - 1)).all fun i => PySem.W.dataLt (kyD (tl.getD i .none)) (kyD (tl.getD (i + 1) .none))) := by
              show (jRow _ 0 _ && _) = _
              rw [h5]; rfl
            rw [ejT] at noC
            refine iteF ⟨.ref ta, rfl, ta, rfl, ⟨_, hta.sq⟩, fun E2 hE2 => ?_⟩
            refine lc_it (walk_tup (xs := tv)) (fun i H3 => Nn (fun t => jTerm t (dm : Nat) wws) tl H2 E2 i H3) (.new hE2) (fun i H3 _ z => (hta.mono (tk_same z.sm)).sq) (fun t x H3 H4 ht zz y => ?_) (fun H3 zz => ?_)
            · obtain ⟨rfl, hxt⟩ := y
              obtain ⟨tt, htt, ott⟩ := (htx.mono (fo_same zz.sm)).getV hxt
              refine ⟨rfl, x, rfl, .ref c, rfl, .int (i : Nat), rfl, c, _, (i : Nat), .int (dm : Nat), rfl, rfl, (hc11.mono (tk_same zz.sm)).sq, atI_nat (by rw [List.getElem?_map, hdm]; rfl), .ref D, rfl, S, x, D, tt, dm, wws, rfl, ott, zz.sm _ _ eD, lww, fun H5 s5 => ⟨jTerm tt (dm : Nat) wws, rfl, ?_⟩⟩
              have i9 : t ≤ 9000 := by omega
              cases h6 : jTerm tt (dm : Nat) wws with
              | false => exact iteT ⟨x, rfl, zz.add hE2 s5 htt h6 i9 x⟩
              | true => exact iteF (zz.skip s5 htt h6)
            · obtain ⟨us, eE, eu⟩ := zz.fin (by omega)
              refine ⟨by show 0 ≤ sizeLine; decide, fun F hF => ?_⟩
              have s3 := same_new (o := .lst []) hF
              refine ⟨E2, F, us, rfl, rfl, .of (s3 _ _ eE), .of upd_same, _, rfl, ?_⟩
              rw [eu]
              have s12 := zz.sm.trans s3
              generalize upd H3 F (.lst []) = H6 at *
              cases hal : tl.all (fun t => jTerm t (dm : Nat) wws) with
              | false => exact iteT (noC (by rw [hal]; rfl) _ (s11.trans s12))
              | true =>
              rw [hal, Bool.true_and] at ejT noC
              obtain ⟨tms, rfl, _⟩ := terms_of hal
              have hta2 := hta.mono (tk_same s12)
              have hx2 := OdAll.im _ (noLs_tms tms) (htx.mono (fo_same s12))
              have lts : (tms.map tmD).length = tms.length := List.length_map ..
              rw [lts] at ltx sz ejT noC ln
              refine iteF ?_
              refine ⟨.ref ta, rfl, ta, tv, rfl, .inr hta2.sq, 1, (tv.length : Nat), rfl, ⟨by omega, by omega, by omega, by omega⟩, fun D2 hD2 => ?_⟩
              refine lc_it (walk_range (lo := 1) (n := ((tv.length : Nat) - (1 : Int)).toNat)) (fun i H7 => Nn (fun i => PySem.W.dataLt (kyD ((tms.map tmD).getD i .none)) (kyD ((tms.map tmD).getD (i + 1) .none))) (List.range (tms.length - 1)) H6 D2 i H7) (.new hD2) (fun _ _ _ _ => trivial) (fun i x H7 H8 hi2 zz y => ?_) (fun H7 zz => ?_)
              · obtain ⟨rfl, rfl⟩ := y
                have ha3 := hta2.mono (tk_same zz.sm)
                have hx3 := ImAll.mono (tk_same zz.sm) _ hx2
                have i1 : i < tms.length := by omega
                have i2 : i + 1 < tms.length := by omega
                obtain ⟨x, ex, ix⟩ := all_at hx3 (List.getElem?_eq_getElem i1)
                obtain ⟨y, ey, iy⟩ := all_at hx3 (List.getElem?_eq_getElem i2)
                have g1 : (tms.map tmD).getD i .none = tmD tms[i] := by rw [List.getD_eq_getElem?_getD, List.getElem?_map, List.getElem?_eq_getElem i1]; rfl
                have g2 : (tms.map tmD).getD (i + 1) .none = tmD tms[i + 1] := by rw [List.getD_eq_getElem?_getD, List.getElem?_map, List.getElem?_eq_getElem i2]; rfl
                have hri : (List.range (tms.length - 1))[i]? = some i := List.getElem?_range (by omega)
                generalize tms[i] = t1 at *
                generalize tms[i + 1] = t2 at *
                obtain ⟨pa, a1, a2, a3, rfl, hpa, ja1, ja2, ja3⟩ := im_trip ix
                obtain ⟨pb, b1, b2, b3, rfl, hpb, jb1, jb2, jb3⟩ := im_trip iy
                refine ⟨rfl, .ref ta, rfl, .int (1 + (i : Int)), rfl, ta, _, (1 + (i : Int)), .ref pb, rfl, rfl, ha3.sq, (by rw [show (1 + (i : Int)) = ((i + 1 : Nat) : Int) by omega]; exact atI_nat ey), 2, rfl, sl_any hpb fun p1 H5 s5 hp1 => ?_⟩
                refine ⟨.ref ta, rfl, .int (1 + (i : Int)), rfl, _, _, rfl, rfl, ta, _, (1 + (i : Int)) - 1, .ref pa, rfl, rfl, (ha3.mono (tk_same s5)).sq, (by rw [show (1 + (i : Int)) - 1 = (i : Nat) by omega]; exact atI_nat ex), 2, rfl, sl_any (hpa.mono (tk_same s5)) fun p2 H6' s6' hp2 => ?_⟩
                have c1 : cutV [b1, b2, b3] none (some 2) = [b1, b2] := cut_take (n := 2) (by show 2 ≤ 3; decide)
                have c2 : cutV [a1, a2, a3] none (some 2) = [a1, a2] := cut_take (n := 2) (by show 2 ≤ 3; decide)
                rw [c1] at hp1
                rw [c2] at hp2
                have t56 := (tk_same s5).trans (tk_same s6')
                refine ⟨keyT t2, keyT t1, ?_, ?_, alike_keyT _ _, by simp [keyT], keyT_depth _, ?_⟩
                · exact .tup (hp1.mono (tk_same s6')).sq (.cons (Im.dp _ (Im.mono t56 _ jb1)) (.cons (Im.dp _ (Im.mono t56 _ jb2)) .nil))
                · exact .tup hp2.sq (.cons (Im.dp _ (Im.mono t56 _ ja1)) (.cons (Im.dp _ (Im.mono t56 _ ja2)) .nil))
                · have s56 := s5.trans s6'
                  have eb : PySem.W.dataLt (kyD ((tms.map tmD).getD i .none)) (kyD ((tms.map tmD).getD (i + 1) .none)) = PySem.W.dataLt (keyT t1) (keyT t2) := by rw [g1, g2, kyD_tm, kyD_tm]
                  refine ⟨_, rfl, ?_⟩
                  cases h6 : PySem.W.dataLt (keyT t1) (keyT t2) with
                  | false => exact iteT ⟨_, rfl, zz.add hD2 s56 hri (by rw [eb, h6]) (by omega) _⟩
                  | true => exact iteF (zz.skip s56 hri (by rw [eb, h6]))
              · obtain ⟨us2, eD2, eu2⟩ := zz.fin (by rw [List.length_range]; omega)
                refine ⟨by show 0 ≤ sizeLine; decide, fun F2 hF2 => ?_⟩
                have s13 := same_new (o := .lst []) hF2
                refine ⟨D2, F2, us2, rfl, rfl, .of (s13 _ _ eD2), .of upd_same, _, rfl, ?_⟩
                rw [eu2]
                have s14 := zz.sm.trans s13
                have sEnd := (s11.trans s12).trans s14
                cases hlt : (List.range (tms.length - 1)).all (fun i => PySem.W.dataLt (kyD ((tms.map tmD).getD i .none)) (kyD ((tms.map tmD).getD (i + 1) .none))) with
                | false => exact iteT (noC hlt _ sEnd)
                | true => exact iteF ⟨_, _, _, rfl, ((s8.trans s10).trans s12).trans s14, range_all_succ al2 (by rw [ec, ejT, hlt])⟩
        · rintro σ Hd ⟨y6, y7, y8, rfl, s8, al2⟩
          rw [Int.toNat_natCast] at al2
          exact ⟨_, _, _, _, _, rfl, s6.trans s8, range_all_succ al (by rw [ek, er, ejR]; exact al2)⟩
      · rintro σ Hb ⟨y4, y5, y6, y7, y8, rfl, s6, al⟩
        rw [Int.toNat_natCast] at al
        rw [al] at q
        exact q _ (s1.trans s6)
end
end K63

set_option Elab.async false
set_option linter.all false
set_option maxRecDepth 100000
set_option exponentiation.threshold 20000
set_option pp.deepTerms false
set_option pp.deepTerms.threshold 8
namespace K63
open PySem PySem.Spec PyProof.Rows L2 Ly Mt
/-! ### the law's own judge of forms -/
section
variable {P : Program} {w : World} {K : PySem.W.Frag} {mg : Str → Option Value} {base : Heap}
abbrev s__law_is_form : Stmt := topS 53
theorem sc__law_is_form : FnScope ["thing", "kinds", "dims", "maps", "reads", "titles", "named", "read", "dim", "kind", "makers"] ["thing"] (defScope s__law_is_form) := ⟨rfl, rfl, rfl, by decide +kernel, rfl, by decide +kernel, by decide +kernel⟩
set_option maxHeartbeats 2000000 in
theorem ok__law_is_form {f : Addr} {fd : FuncData} {k : Nat} (F : Fun K "_law_is_form" "_law_is_form" s__law_is_form f fd) (T : Tx K mg){k1 : Nat} (D__law_is_row : Def P w K mg base k1 "_law_is_row" s__law_is_row ["thing", "low", "high"] (so_is_row K)) {k2 : Nat} (D__law_are_kinds : Def P w K mg base k2 "_law_are_kinds" s__law_are_kinds ["thing"] (so_is_kinds K)) {k3 : Nat} (D__law_is_whole : Def P w K mg base k3 "_law_is_whole" s__law_is_whole ["thing", "low", "high"] (so_within K)) {k4 : Nat} (D__law_are_maps : Def P w K mg base k4 "_law_are_maps" s__law_are_maps ["thing", "kinds", "dims"] (so_lmaps K)) {k5 : Nat} (D__law_is_name : Def P w K mg base k5 "_law_is_name" s__law_is_name ["thing", "high"] (so_lname K)) {k6 : Nat} (D__law_is_vector : Def P w K mg base k6 "_law_is_vector" s__law_is_vector ["thing", "size"] (so_vec K)) (e1 : k1 ≤ k) (e2 : k2 ≤ k) (e3 : k3 ≤ k) (e4 : k4 ≤ k) (e5 : k5 ≤ k) (e6 : k6 ≤ k) : FnOk P w K mg base CX0 (k + 1) f fd ["thing"] (so_is_form K) := by
  have nd := sc__law_is_form.nd
  refine F.ok sc__law_is_form (fun vs H Q E h => ?_) (fun cdv A outer s H vs Q E hr h => ?_)
  · obtain ⟨_, _, _, rfl, _⟩ := h
    rfl
  · obtain ⟨S0, v, d, rfl, hd0, q⟩ := h
    obtain ⟨S, hd, hS⟩ : ∃ S, Od K S H v d ∧ ∀ a, S a → H a ≠ none := ⟨_, hd0.here, fun a z => z.2⟩
    have no : jForm d 1 = false → ∀ H', Same H H' → Q (.bl false) H' := fun e H' s => by
      have := q H' s
      rwa [e] at this
    refine ⟨_, (pss_cons (ps_if (PW.pt (pw_or (pt_not (pt_val (pe_def D__law_is_row (hr.mono (by omega)) rfl (pa_cons (pv 0) (pa_cons pe_int (pa_cons pe_int pa_nil)))))) (pw_or1 (pt_not (pt_val (pe_def D__law_are_kinds (hr.mono (by omega)) rfl (pa_cons (pe_ix (kix_tup K) (pv 0) pe_int (fun _ _ => rfl)) pa_nil)))))))
        (pss_one (ps_ret pe_bl))
        pss_nil)
      (pss_cons (ps_asg (pv 0) (kpg_tup K (n := 4) rfl (pgs_cons (pg_name (i := 1) nd rfl (.inl rfl)) (pgs_cons (pg_name (i := 2) nd rfl (.inl rfl)) (pgs_cons (pg_name (i := 3) nd rfl (.inl rfl)) (pgs_cons (pg_name (i := 4) nd rfl (.inl rfl)) pgs_nil))))))
      (pss_cons (ps_if (PW.pt (pw_or (pt_not (pt_val (pe_def D__law_is_row (hr.mono (by omega)) rfl (pa_cons (pv 2) (pa_cons (pe_callB (kcall_len K) (by rfl) T.m_len PySem.boot_len (pa_cons (pv 1) pa_nil)) (pa_cons (pe_callB (kcall_len K) (by rfl) T.m_len PySem.boot_len (pa_cons (pv 1) pa_nil)) pa_nil)))))) (pw_or1 (pt_cmpR (kop_neNil K hr.units) (pe_lc (own := [("dim", 8)]) (g := gName 8) rfl nd (kpi_tup K (pv 2)) (blkOk_by (by rfl)) (fun _ _ _ _ _ => (pg_name (i := 8) nd rfl (.inl rfl))) (fun _ _ _ _ _ => (pts_one (pt_not (pt_val (pe_def D__law_is_whole (hr.mono (by omega)) rfl (pa_cons (pv 8) (pa_cons pe_int (pa_cons pe_int pa_nil)))))))) (fun _ _ _ _ _ => (pv 8))) (pe_lst pa_nil) (nomark _)))))
        (pss_one (ps_ret pe_bl))
        pss_nil)
      (pss_cons (ps_if (PW.pt (pw_or (pt_cmpR op_gt (pe_callB (cr_sumT K) (by rfl) T.m_sum (by decide +kernel) (pa_cons (pv 2) pa_nil)) pe_int (nomark _)) (pw_or (pt_not (pt_val (pe_def D__law_are_maps (hr.mono (by omega)) rfl (pa_cons (pv 3) (pa_cons (pv 1) (pa_cons (pv 2) pa_nil)))))) (pw_or1 (pt_not (pt_val (pe_def D__law_is_row (hr.mono (by omega)) rfl (pa_cons (pv 4) (pa_cons pe_int (pa_cons pe_int pa_nil))))))))))
        (pss_one (ps_ret pe_bl))
        pss_nil)
      (pss_cons (ps_par (i := 5) (j := 6) (by rfl) nd rfl rfl (by decide) rfl rfl (pa_cons (pe_lc (own := [("kind", 9), ("makers", 10)]) (g := _) (tt := tYes) rfl nd (kpi_tup K (pv 1)) (blkOk_by (by rfl)) (fun _ _ _ _ _ => (kpg_tup K (n := 2) rfl (pgs_cons (pg_name (i := 9) nd rfl (.inl rfl)) (pgs_cons (pg_name (i := 10) nd rfl (.inl rfl)) pgs_nil)))) (fun _ _ _ _ _ => pts_nil) (fun _ _ _ _ _ => (pv 9))) (pa_cons (pe_lst pa_nil) pa_nil)) (by rfl))
      (pss_cons (ps_for PassesOwn.never rfl (kpi_tup K (pv 4)) (pg_name (i := 7) nd rfl (.inl rfl))
        (pss_cons (ps_if (PW.pt (pw_or (pt_not (pt_val (pe_def D__law_is_row (hr.mono (by omega)) rfl (pa_cons (pv 7) (pa_cons pe_int (pa_cons pe_int pa_nil)))))) (pw_or (pt_not (pt_val (pe_def D__law_is_name (hr.mono (by omega)) rfl (pa_cons (pe_ix (kix_tup K) (pv 7) pe_int (fun _ _ => rfl)) (pa_cons pe_bl pa_nil))))) (pw_or1 (pt_not (pt_val (pe_callB (kcall_isi K) (by rfl) T.m_isinstance (by decide +kernel) (pa_cons (pe_ix (kix_tup K) (pv 7) pe_int (fun _ _ => rfl)) (pa_cons (pe_bltn (v := .ty "str") (u := .type "str") (by rfl) T.m_str (by decide +kernel) rfl) pa_nil)))))))))
          (pss_one (ps_ret pe_bl))
          pss_nil)
        (pss_cons (ps_if (PW.pt (pw_or (pt_cmpR (kop_notIn K) (pe_ix (kix_tup K) (pv 7) pe_int (fun _ _ => rfl)) (pv 5) (by rfl)) (pw_or (pt_cmpR (kop_inS K) (pe_ix (kix_tup K) (pv 7) pe_int (fun _ _ => rfl)) (pv 6) (by rfl)) (pw_or1 (pt_not (pt_val (pe_def D__law_is_vector (hr.mono (by omega)) rfl (pa_cons (pe_ix (kix_tup K) (pv 7) pe_int (fun _ _ => rfl)) (pa_cons (pe_ix (kix_tup K) (pv 2) (kpe_bm K PySem.F.plainAttrs_list PySem.F.slot_list_index PySem.F.type_list_index (kmt_index K) (pv 5) (pa_cons (pe_ix (kix_tup K) (pv 7) pe_int (fun _ _ => rfl)) pa_nil)) (fun _ _ => rfl)) pa_nil)))))))))
          (pss_one (ps_ret pe_bl))
          pss_nil)
        (pss_one (ps_expr (pe_bm PySem.F.plainAttrs_list PySem.F.slot_list_append PySem.F.type_list_append mt_append (pv 6) (pa_cons (pe_ix (kix_tup K) (pv 7) pe_int (fun _ _ => rfl)) pa_nil)))))))
      (pss_one (ps_ret pe_bl)))))))), ?_⟩
    refine ⟨v, rfl, S, v, d, 4, 4, rfl, hd, jRow d 4 4, rfl, ?_⟩
    cases h1 : jRow d 4 4 with
    | false => exact iteT (no (by unfold jForm; rw [h1]; rfl) H (Same.refl H))
    | true =>
    have ed := tup4 h1
    rw [ed] at hd
    obtain ⟨a, xs, rfl, ha, hx⟩ := hd.tuple_inv
    obtain ⟨v0, r, rfl, o0, hr0⟩ := hx.cons_inv
    obtain ⟨v1, r, rfl, o1, hr1⟩ := hr0.cons_inv
    obtain ⟨v2, r, rfl, o2, hr2⟩ := hr1.cons_inv
    obtain ⟨v3, r, rfl, o3, hr3⟩ := hr2.cons_inv
    obtain rfl := hr3.nil_inv
    refine iteF ⟨.ref a, rfl, a, _, 0, _, rfl, rfl, ha.sq, atI_nat (j := 0) rfl, S, v0, p0 d, rfl, o0, fun H1 s1 => ⟨jKinds (p0 d), rfl, ?_⟩⟩
    cases h2 : jKinds (p0 d) with
    | false => exact iteT (no (by unfold jForm; rw [h1, h2]; rfl) _ s1)
    | true =>
    obtain ⟨ek, ok⟩ := kinds_of h2
    have ha1 := ha.mono (tk_same s1)
    have o01 := o0.mono (fo_same s1)
    rw [ek] at o01
    have i0 := Od.im _ (noL_ks _) o01
    obtain ⟨b, ys, rfl, hb, hy⟩ := i0.tuple_inv
    have ly : ys.length = (toKs (p0 d)).length := all_len hy
    have lit : (its (p0 d)).length = (toKs (p0 d)).length := by unfold toKs; rw [List.length_map]
    have kf := ok.few
    refine iteF ⟨.ref a, rfl, a, _, rfl, ha1.sq, rfl, .ref b, _, rfl, v1, _, rfl, v2, _, rfl, v3, _, rfl, rfl, ?_⟩
    refine ⟨v1, rfl, .ref b, rfl, b, ys, rfl, .inr hb.sq, .ref b, rfl, b, ys, rfl, .inr hb.sq, ?_⟩
    rw [ly, ← lit]
    have o11 := o1.mono (fo_same s1)
    refine ⟨S, v1, p1 d, _, _, rfl, o11, jRow (p1 d) ((its (p0 d)).length : Nat) ((its (p0 d)).length : Nat), rfl, ?_⟩
    cases h3 : jRow (p1 d) ((its (p0 d)).length : Nat) ((its (p0 d)).length : Nat) with
    | false => exact iteT (no (by unfold jForm jDims; rw [h1, h2, h3]; rfl) _ s1)
    | true =>
    obtain ⟨es, ees, _, le⟩ := jRow_tup h3
    rw [ees] at o11
    obtain ⟨c, us, rfl, hc, hu⟩ := o11.tuple_inv
    have lu := hu.len
    have ejD : jDims (p1 d) ((its (p0 d)).length : Nat) 1 = (es.all (fun x => jWithin x 0 16) && decide ((es.map intO).sum ≤ 32)) := by
      unfold jDims
      rw [h3, ees]; rfl
    have noD : jDims (p1 d) ((its (p0 d)).length : Nat) 1 = false → ∀ H', Same H H' → Q (.bl false) H' := fun e => no (by unfold jForm; rw [h1, h2, e]; rfl)
    refine iteF ⟨.ref c, rfl, c, rfl, ⟨_, hc.sq⟩, fun D hD => ?_⟩
    refine lc_it (walk_tup (xs := us)) (fun i H2 => Nn (fun x => jWithin x 0 16) es H1 D i H2) (.new hD) (fun i H2 _ z => (hc.mono (tk_same z.sm)).sq) (fun i x H2 H3 hi zz y => ?_) (fun H2 zz => ?_)
    · obtain ⟨rfl, hxi⟩ := y
      obtain ⟨e, he, oe⟩ := (hu.mono (fo_same zz.sm)).getV hxi
      refine ⟨rfl, x, rfl, S, x, e, 0, 16, rfl, oe, jWithin e 0 16, rfl, ?_⟩
      have i9 : i ≤ 9000 := by omega
      cases h6 : jWithin e 0 16 with
      | false => exact iteT ⟨x, rfl, zz.add hD (Same.refl _) he h6 i9 x⟩
      | true => exact iteF (zz.skip (Same.refl _) he h6)
    · obtain ⟨ws, eD, ew⟩ := zz.fin (by omega)
      refine ⟨by show 0 ≤ sizeLine; decide, fun F hF => ?_⟩
      have s3 := same_new (o := .lst []) hF
      refine ⟨D, F, ws, rfl, rfl, .of (s3 _ _ eD), .of upd_same, _, rfl, ?_⟩
      rw [ew]
      have s4 := zz.sm.trans s3
      have s14 := s1.trans s4
      generalize upd H2 F (.lst []) = H4 at *
      cases hal : es.all (fun x => jWithin x 0 16) with
      | false => exact iteT (noD (by rw [ejD, hal]; rfl) _ s14)
      | true =>
      rw [hal, Bool.true_and] at ejD
      have hints : ∃ is : List Int, es = is.map .int ∧ us = is.map V.int := by
        have h1 : ∃ is : List Int, es = is.map .int := by
          refine ⟨es.map intO, ?_⟩
          rw [List.map_map]
          conv => lhs; rw [← List.map_id es]
          refine List.map_congr_left fun x hx => ?_
          obtain ⟨i, rfl, _⟩ := jWithin_int (List.all_eq_true.mp hal x hx)
          rfl
        obtain ⟨is, rfl⟩ := h1
        refine ⟨is, rfl, ?_⟩
        have go : ∀ {is : List Int} {xs : List V}, OdAll K S H1 xs (is.map .int) → xs = is.map V.int := by
          intro is
          induction is with
          | nil => intro xs h; exact h.nil_inv
          | cons i is ih =>
            intro xs h
            obtain ⟨v, r, rfl, h1, h2⟩ := h.cons_inv
            rw [h1.int_inv, ih h2]; rfl
        exact go hu
      obtain ⟨is, rfl, rfl⟩ := hints
      have hc4 := hc.mono (tk_same s4)
      have e2 : ((is.map PyData.int).map intO) = is := by
        rw [List.map_map]
        exact List.map_id' is
      rw [e2] at ejD
      refine iteF ⟨.ref c, rfl, c, is, rfl, hc4.sq, _, _, rfl, rfl, _, rfl, ?_⟩
      cases hs : decide (is.sum ≤ 32) with
      | false =>
        rw [decide_eq_true (show is.sum > 32 by have := of_decide_eq_false hs; omega)]
        exact iteT (noD (by rw [ejD, hs]) _ s14)
      | true =>
      rw [decide_eq_false (show ¬ is.sum > 32 by have := of_decide_eq_true hs; omega)]
      rw [hs] at ejD
      have h4 := ejD
      obtain ⟨e1, ld, d32⟩ := dims_of h4
      have o14 := o1.mono (fo_same s14)
      rw [e1] at o14
      have i1 := Od.im _ (noL_ns _) o14
      have i04 := Im.mono (tk_same s4) _ i0
      have o24 := o2.mono (fo_same s14)
      have o34 := o3.mono (fo_same s14)
      have ej : jForm d 1 = (jMaps (p2 d) (toKs (p0 d)) (toDs (p1 d)) 4000 && jReads (p3 d) (toKs (p0 d)) (toDs (p1 d))) := by unfold jForm; rw [h1, h2, h4]; rfl
      rw [ej] at q no
      refine iteF ⟨v2, rfl, .ref b, rfl, .ref c, rfl, S, v2, .ref b, .ref c, p2 d, toKs (p0 d), toDs (p1 d), rfl, o24, i04, i1, ok, by omega, fun H5 s5 => ⟨_, rfl, ?_⟩⟩
      have s15 := s14.trans s5
      generalize toKs (p0 d) = ks at *
      generalize toDs (p1 d) = dims at *
      cases h5 : jMaps (p2 d) ks dims 4000 with
      | false => exact iteT (no (by rw [h5]; rfl) _ s15)
      | true =>
      rw [h5, Bool.true_and] at q no
      refine iteF ⟨v3, rfl, S, v3, p3 d, 0, 60, rfl, o34.mono (fo_same s5), jRow (p3 d) 0 60, rfl, ?_⟩
      cases h6 : jRow (p3 d) 0 60 with
      | false => exact iteT (no (by unfold jReads; rw [h6]; rfl) _ s15)
      | true =>
      obtain ⟨rs, ers, _, few⟩ := jRow_tup h6
      have ejR : jReads (p3 d) ks dims = (rs.all jRd0 && (rs.all (jRd1 ks dims) && decide (rs.map fun r => stO (p0 r)).Nodup)) := by
        unfold jReads
        rw [h6, ers]; rfl
      rw [ejR] at q no
      have o35 := o3.mono (fo_same s15)
      rw [ers] at o35
      obtain ⟨pr, us, rfl, hpr, hus⟩ := o35.tuple_inv
      have lus := hus.len
      have hb5 := hb.mono (tk_same (s4.trans s5))
      have hc5 := hc4.mono (tk_same s5)
      have hy5 := ImAll.mono (tk_same (s4.trans s5)) _ hy
      refine iteF ⟨.ref b, rfl, b, rfl, ⟨_, hb5.sq⟩, fun N hN => ?_⟩
      refine lc_all (walk_tup (xs := ys)) (fun i H2 => Same H5 H2 ∧ H2 N = some (.lst (((ks.take i).map (·.1)).map V.str))) ⟨same_new hN, upd_same⟩ (fun i H2 _ z => (hb5.mono (tk_same z.1)).sq) (fun i x H2 H3 hi z y => ?_) (fun H6 z => ?_)
      · obtain ⟨sm, eN⟩ := z
        obtain ⟨rfl, hxi⟩ := y
        obtain ⟨kd, hkd, ikd⟩ := all_get (ImAll.mono (tk_same sm) _ hy5) hxi
        obtain ⟨pk, u1, u2, rfl, hpk, iu1, iu2⟩ := im_pair ikd
        obtain rfl := iu1.str_inv
        refine ⟨pk, _, rfl, hpk.sq, rfl, .str kd.1, _, rfl, u2, _, rfl, rfl, rfl, .str kd.1, rfl, _, eN, small1000 (by rw [List.length_map, List.length_map, List.length_take]; omega), fun b o e => ?_, ?_⟩
        · rw [upd_ne (ne_of_none e hN)]; exact sm _ _ e
        · rw [upd_same, List.take_add_one, hkd, List.map_append, List.map_append]; rfl
      · obtain ⟨s6, eN⟩ := z
        rw [ly, List.take_of_length_le (Nat.le_refl _)] at eN
        refine ⟨by show 0 ≤ sizeLine; decide, fun M hM => ⟨_, _, rfl, ?_⟩⟩
        have s7 := same_new (o := .lst []) hM
        have eM : (upd H6 M (.lst [])) M = some (.lst []) := upd_same
        have eN7 := s7 _ _ eN
        have s57 := s6.trans s7
        have s17 := s15.trans s57
        have hM0 : H M = none := (s15.trans s6).free hM
        have nNM : N ≠ M := ne_of_none eN hM
        have hSM : ∀ a, S a → a ≠ M := fun a z e => hS a z (by rw [e]; exact hM0)
        generalize upd H6 M (.lst []) = H7 at *
        have hpr7 := hpr.mono (tk_same s57)
        have hus7 := hus.mono (fo_same s57)
        have hc7 := hc5.mono (tk_same s57)
        refine ⟨.ref pr, rfl, pr, rfl, ⟨_, hpr7.sq⟩, ?_⟩
        have hcd : ITup K H7 c (dims.map fun n : Nat => V.int (n : Nat)) := by
          obtain ⟨c', zs, ec, hc', hz⟩ := (Im.mono (tk_same (s5.trans s57)) _ i1).tuple_inv
          cases ec
          obtain rfl := im_nats hz
          exact hc'
        have ldk : dims.length = ks.length := by omega
        refine for_it (walk_tup (xs := us)) (fun i σ Hb => ∃ (y7 : Option V), σ = [some (.ref a), some (.ref b), some (.ref c), some v2, some (.ref pr), some (.ref N), some (.ref M), y7, none, none, none] ∧ Same H Hb ∧ ITup K Hb pr us ∧ OdAll K S Hb us rs ∧ ITup K Hb c (dims.map fun n : Nat => V.int (n : Nat)) ∧ Hb N = some (.lst ((ks.map (·.1)).map V.str)) ∧ Hb M = some (.lst (((rs.take i).map fun r => stO (p0 r)).map V.str)) ∧ (rs.take i).all jRd0 = true ∧ (rs.take i).all (jRd1 ks dims) = true ∧ ((rs.take i).map fun r => stO (p0 r)).Nodup) ⟨_, rfl, s17, hpr7, hus7, hcd, eN7, eM, rfl, rfl, List.nodup_nil⟩ (fun i σ Hb _ z => ?_) ?_ ?_
        · obtain ⟨_, _, _, hp, _⟩ := z
          exact hp.sq
        · rintro i x σ Hb Hc hi ⟨y7, rfl, sm, hprb, oub, hcb, eNb, eMb, al0, al1, ndp⟩ ⟨rfl, hxi⟩
          obtain ⟨r, hr', or⟩ := oub.getV hxi
          have no0 : jRd0 r = false → ∀ H', Same Hc H' → Q (.bl false) H' := fun e H' s => no (by rw [all_no hr' e]; rfl) H' (sm.trans s)
          have no1 : jRd1 ks dims r = false → ∀ H', Same Hc H' → Q (.bl false) H' := fun e H' s => no (by rw [all_no hr' e, Bool.false_and, Bool.and_false]) H' (sm.trans s)
          refine ⟨x, rfl, S, x, r, 3, 3, rfl, or, jRow r 3 3, rfl, ?_⟩
          cases h7 : jRow r 3 3 with
          | false => exact iteT (no0 (by unfold jRd0; rw [h7]; rfl) _ (Same.refl _))
          | true =>
          rw [tup3 h7] at or
          obtain ⟨p, qs, rfl, hp, hqs⟩ := or.tuple_inv
          obtain ⟨x1, r1, rfl, w1, hr1⟩ := hqs.cons_inv
          obtain ⟨x2, r2, rfl, w2, hr2⟩ := hr1.cons_inv
          obtain ⟨x3, r3, rfl, w3, hr3⟩ := hr2.cons_inv
          obtain rfl := hr3.nil_inv
          refine iteF ⟨.ref p, rfl, p, _, 0, _, rfl, rfl, hp.sq, atI_nat (j := 0) rfl, S, x1, p0 r, false, rfl, w1, fun H8 s8 => ⟨jLow (p0 r), rfl, ?_⟩⟩
          have er0 : jRd0 r = jLow (p0 r) := by unfold jRd0; rw [h7]; rfl
          cases h8 : jLow (p0 r) with
          | false => exact iteT (no0 (by rw [er0, h8]) _ s8)
          | true =>
          rw [h8] at er0
          obtain ⟨zn, ezn⟩ : ∃ z, p0 r = .str z := by
            cases hz : p0 r <;> first | exact ⟨_, rfl⟩ | (rw [hz] at h8; cases h8)
          rw [ezn] at w1
          obtain rfl := w1.str_inv
          have hp8 := hp.mono (tk_same s8)
          have w28 := w2.mono (fo_same s8)
          have w38 := w3.mono (fo_same s8)
          have eN8 := s8 _ _ eNb
          have eM8 := s8 _ _ eMb
          refine iteF ⟨.ref p, rfl, p, _, 1, _, rfl, rfl, hp8.sq, atI_nat (j := 1) rfl, x2, _, .type (tyName (p1 r)), _, jStr (p1 r), rfl, .ty _, od_ty w28, kit_ty (kit_str (p1 r)), jStr (p1 r), rfl, ?_⟩
          rcases w28.str_or with ⟨zz, rfl, ezz, lz2⟩ | n
          rotate_left
          · rw [n]
            exact iteT (no1 (jRd1_no n) _ s8)
          rw [ezz]
          have er : jRd1 ks dims r = (decide (zz ∈ ks.map (·.1)) && jVec (p2 r) ((dims.getD ((ks.map (·.1)).idxOf zz) 0 : Nat) : Int)) := by unfold jRd1; rw [ezz]
          rw [er] at no1
          refine iteF ⟨.ref p, rfl, p, _, 1, _, rfl, rfl, hp8.sq, atI_nat (j := 1) rfl, .ref N, rfl, N, _, rfl, .inl (.of eN8), rfl, flat_strs' _, _, rfl, ?_⟩
          rw [inV_strs]
          cases hin : decide (zz ∈ ks.map (·.1)) with
          | false => exact iteT (no1 (by rw [hin]; rfl) _ s8)
          | true =>
          have hin' := of_decide_eq_true hin
          rw [hin, Bool.true_and] at no1 er
          refine iteF ⟨.ref p, rfl, p, _, 0, _, rfl, rfl, hp8.sq, atI_nat (j := 0) rfl, .ref M, rfl, M, _, rfl, .inl (.of eM8), rfl, flat_strs' _, _, rfl, ?_⟩
          rw [if_neg Bool.false_ne_true, inV_strs]
          have edup : ((rs.take (i + 1)).map fun r => stO (p0 r)) = ((rs.take i).map fun r => stO (p0 r)) ++ [zn] := by
            rw [List.take_add_one, hr', List.map_append]
            show _ ++ [stO (p0 r)] = _
            rw [ezn]; rfl
          cases hdup : decide (zn ∈ (rs.take i).map fun r => stO (p0 r)) with
          | true =>
            refine iteT (no ?_ _ (sm.trans s8))
            have : ¬ (rs.map fun r => stO (p0 r)).Nodup := fun z => by
              have z2 : ((rs.take (i + 1)).map fun r => stO (p0 r)).Nodup := by
                rw [List.map_take]
                exact z.sublist (List.take_sublist _ _)
              rw [edup, List.nodup_append] at z2
              exact z2.2.2 zn (of_decide_eq_true hdup) zn (List.mem_singleton.mpr rfl) rfl
            rw [decide_eq_false this, Bool.and_false, Bool.and_false]
          | false =>
          obtain ⟨ix1, ix2⟩ := idx_at hin'
          have hlt : (ks.map (·.1)).idxOf zz < dims.length := by
            have := List.idxOf_lt_length_of_mem hin'
            rw [List.length_map] at this
            omega
          have ed : dims[(ks.map (·.1)).idxOf zz]? = some (dims.getD ((ks.map (·.1)).idxOf zz) 0) := by rw [List.getD_eq_getElem?_getD, List.getElem?_eq_getElem hlt]; rfl
          have b16 := d32 _ (List.mem_of_getElem? ed)
          have hc8 := hcb.mono (tk_same s8)
          refine iteF ⟨.ref p, rfl, p, _, 2, _, rfl, rfl, hp8.sq, atI_nat (j := 2) rfl, .ref c, rfl, .ref N, rfl, .inl ⟨rfl, _, .of eN8⟩, .ref p, rfl, p, _, 1, _, rfl, rfl, hp8.sq, atI_nat (j := 1) rfl, N, _, .str zz, (ks.map (·.1)).idxOf zz, .str zz, rfl, rfl, .of eN8, rfl, flat_strs' _, ix1, by rw [eqs, decide_eq_true rfl], ix2, ?_⟩
          refine ⟨c, _, _, .int ((dims.getD ((ks.map (·.1)).idxOf zz) 0 : Nat) : Int), rfl, rfl, hc8.sq, atI_nat ?_, S, x3, p2 r, _, rfl, by omega, w38, fun H9 s9 => ⟨_, rfl, ?_⟩⟩
          · rw [List.getElem?_map, ed]; rfl
          · have s89 := s8.trans s9
            cases hv : jVec (p2 r) ((dims.getD ((ks.map (·.1)).idxOf zz) 0 : Nat) : Int) with
            | false => exact iteT (no1 hv _ s89)
            | true =>
            rw [hv] at er
            have eM9 := s89 _ _ eMb
            have fo9 : Fo S H9 (upd H9 M (.lst (((rs.take i).map fun r => stO (p0 r)).map V.str ++ [.str zn]))) := fo_lst eM9 hSM
            have fo := (fo_same (S := S) s89).trans fo9
            refine iteF ⟨.ref M, rfl, .inl ⟨rfl, _, .of eM9⟩, .ref p, rfl, p, _, 0, _, rfl, rfl, (hp8.mono (tk_same s9)).sq, atI_nat (j := 0) rfl, M, _, _, rfl, rfl, eM9, small1000 (by rw [List.length_map, List.length_map, List.length_take]; omega), _, rfl, fun b o e => ?_, hprb.mono fo.1, oub.mono fo, hcb.mono fo.1, ?_, ?_, ?_, ?_, ?_⟩
            · rw [upd_ne (ne_of_none e hM0)]
              exact s89 _ _ (sm _ _ e)
            · rw [upd_ne nNM]; exact s89 _ _ eNb
            · rw [upd_same, edup, List.map_append]; rfl
            · rw [List.take_add_one, hr', List.all_append, al0]
              show (true && (jRd0 r && true)) = true
              rw [er0]; rfl
            · rw [List.take_add_one, hr', List.all_append, al1]
              show (true && (jRd1 ks dims r && true)) = true
              rw [er]; rfl
            · rw [edup, List.nodup_append]
              exact ⟨ndp, by simp, fun x hx y hy e => by
                rw [List.mem_singleton] at hy
                subst hy
                subst e
                exact of_decide_eq_false hdup hx⟩
        · rintro σ Hb ⟨y7, rfl, sm, hprb, oub, hcb, eNb, eMb, al0, al1, ndp⟩
          rw [lus, List.take_of_length_le (Nat.le_refl _)] at al0 al1 ndp
          rw [al0, al1, decide_eq_true ndp] at q
          exact q _ sm
end
end K63

set_option Elab.async false
set_option linter.all false
set_option maxRecDepth 100000
set_option maxHeartbeats 4000000
/-! a tuple from its end: t[::-1] -/
namespace HT
open PySem PySem.Spec PyProof.Rows L2
section
variable {prog : Program} {w : World} {A : Around} {E : Value → Shared → Prop} {s : Shared}
theorem pick_back (xs : Array Value) : ((List.range xs.size).filterMap fun (m : Nat) => xs[(((xs.size : Int) - 1) + (m : Int) * (-1)).toNat]?).toArray = xs.toList.reverse.toArray := by
  have e : (fun m : Nat => xs[(((xs.size : Int) - 1) + (m : Int) * (-1)).toNat]?) = (fun x : Nat => xs[x]?) ∘ (fun k => xs.size - 1 - k) := by
    funext m
    have h : (((xs.size : Int) - 1) + (m : Int) * (-1)).toNat = xs.size - 1 - m := by omega
    show xs[_]? = xs[_]?
    rw [h]
  rw [e, ← List.filterMap_map, PySem.W.krv_range, List.filterMap_reverse, PySem.W.krv_all]
theorem places_back (n : Nat) : Builtin.Slice.slicePlaces ((n : Int) - 1) (-1) (-1) = n := by
  unfold Builtin.Slice.slicePlaces
  rw [if_neg (by omega)]
  split
  · have e : ((n : Int) - 1 - -1 - 1) / (- -1) = (n : Int) - 1 := by rw [show (- -1 : Int) = 1 by rfl, Int.ediv_one]; omega
    rw [e]; omega
  · omega
theorem adjust_back (n : Nat) : Builtin.Slice.sliceAdjust none none (-1) (n : Int) = ((n : Int) - 1, -1) := by
  unfold Builtin.Slice.sliceAdjust
  rfl
theorem sliceApplied_back {sl : Addr} {t : Tok} {n : Nat} {Q : Int × Int × Nat → Shared → Prop} (hs : s.heap.IsSliceOf sl .none .none (.int (-1) t))
    (h : Q ((n : Int) - 1, -1, n) s) : wpAny (model prog w) A (Builtin.Slice.sliceApplied (.ref sl) (pure (n : Int))) Q E s := by
  obtain ⟨os, hos, hcs, hds⟩ := id hs
  unfold Builtin.Slice.sliceApplied Builtin.Slice.sliceFields
  refine wpAny_bind (wpAny_bind (wpAny_field hos hds (x := .none) rfl (wpAny_bind (wpAny_field hos hds (x := .none) rfl (wpAny_bind (wpAny_field hos hds (x := .int (-1) t) rfl (wpAny_pure ?_)))))))
  refine wpAny_bind (slicePart_int ?_)
  show wpAny _ _ (if ((-1 : Int) == 0) = true then _ else _) _ _ s
  rw [if_neg (by decide)]
  refine wpAny_bind (slicePart_none (wpAny_bind (slicePart_none (wpAny_bind (wpAny_pure ?_)))))
  show wpAny _ _ (match Builtin.Slice.sliceAdjust none none (-1) (n : Int) with | (lo, hi) => pure (lo, (-1 : Int), Builtin.Slice.slicePlaces lo hi (-1))) _ _ s
  rw [adjust_back n]
  show wpAny _ _ (pure (((n : Int) - 1), (-1 : Int), Builtin.Slice.slicePlaces ((n : Int) - 1) (-1) (-1))) _ _ s
  rw [places_back]
  exact wpAny_pure h
theorem getItem_tuple_back {t sl : Addr} {items : Array Value} {u : Tok} {Q : Value → Shared → Prop} (ht : IsTup s.heap t items) (hs : s.heap.IsSliceOf sl .none .none (.int (-1) u))
    (h : Q (.ref s.heap.objs.size) { s with heap := s.heap.push { cls := .type "tuple", data := .seq items.toList.reverse.toArray } })
    (hsz : items.size ≤ sizeLine) : wpAny (model prog w) A (getItem (.ref t) (.ref sl)) Q E s := by
  have htake : sizeOk (.seq items.toList.reverse.toArray) := by
    show items.toList.reverse.toArray.size ≤ sizeLine
    rw [List.size_toArray, List.length_reverse, Array.length_toList]
    exact hsz
  obtain ⟨os, hos, hcs, hds⟩ := id hs
  have hTs : s.TypeIs (.ref sl) "slice" := ⟨os, hos, hcs⟩
  unfold getItem
  try with_reducible refine wpAny_holding ?_
  first | refine wpAny_bind (wpAny_pure ?_) | skip
  refine wpAny_bind (wpAny_sequenceKey ht.typeIs (by decide) ?_)
  refine wpAny_bind (wpAny_callSpecial?_slot (name := Str.ofString "__getitem__") ht.typeIs PyProof.Rows.slot_tuple_getitem
    (wpAny_call_entry PyProof.Rows.slot_tuple_getitem ht.typeIs entry_tuple_getitem ?_ (args_tuple_getitem _ _)))
  show wpAny _ _ (Builtin.Tuple.tupleItemsOf (.ref t) >>= _) _ _ s
  refine wpAny_bind (tupleItemsOf_ ht ?_)
  refine wpAny_bind (wpAny_typeOf hTs ?_)
  rw [if_pos (by decide)]
  refine wpAny_bind (sliceApplied_back hs ?_)
  have hno : ¬ ((((items.size : Int) - 1) == 0 && (-1 : Int) == 1 && items.size == items.size) = true) := by
    intro q
    rw [Bool.and_eq_true, Bool.and_eq_true] at q
    exact absurd q.1.2 (by decide)
  show wpAny _ _ (if (((items.size : Int) - 1) == 0 && (-1 : Int) == 1 && items.size == items.size) = true then _ else _) _ _ s
  rw [if_neg hno, pick_back]
  first
    | exact wpAny_bind (m := Builtin.Tuple.tupleExact _) (wpAny_newObj_type (wpAny_pure ⟨_, rfl, wpAny_pure h⟩) htake)
    | exact wpAny_bind (m := Builtin.Tuple.tupleExact _) (wpAny_newObj_type (wpAny_bind (wpAny_pure (wpAny_pure ⟨_, rfl, wpAny_pure h⟩))) htake)
    | exact wpAny_bind (wpAny_bind (m := Builtin.Tuple.tupleExact _) (wpAny_newObj_type (wpAny_pure (wpAny_pure ⟨_, rfl, wpAny_pure h⟩)) htake))
    | exact wpAny_bind (wpAny_bind (m := Builtin.Tuple.tupleExact _) (wpAny_newObj_type (wpAny_pure ⟨_, rfl, wpAny_pure h⟩) htake))
end
end HT
namespace Ly
open PySem PySem.Spec PyProof.Rows L2
section
variable {X : Cx}
def tRevT (K : PySem.W.Frag) (te : TE) : TE := fun σ H Q => te σ H fun x H1 => ∃ a xs, x = .ref a ∧ SqT K H1 a xs ∧ ∀ p, H1 p = none → Q (.ref p) (upd H1 p (.tup xs.reverse))
theorem pe_revT {e : Expr} {te : TE} {k : Nat} {p1 p2 p3 pos : Pos} (he : PE X e te) : PE X (.Subscript e (.Slice none none (some (.UnaryOp .USub (.Constant (.int 1) k p1) p2)) p3) pos) (tRevT X.K te) := by
  refine ⟨fun pins s σ H Q I h => ?_⟩
  refine Subscript_ (thn (he.run pins s σ H _ I h) fun v s1 ⟨x, H1, I1, r1, q1⟩ => ?_)
  obtain ⟨a, xs, ex, hx, q⟩ := q1
  subst ex
  cases r1
  have hst : PO X (some (.UnaryOp .USub (.Constant (.int 1) k p1) p2)) (tPart (tUn (rU fun i => .int (-i)) (tC (.int 1)))) := po_some (pe_un un_neg pe_int)
  refine wpAny_Slice (thn (po_none.run pins s1 σ H1 (fun o H2 => o = none ∧ H2 = H1) I1 ⟨rfl, rfl⟩) fun vl s2 ⟨l, H2, I2, pl, el, e2⟩ => ?_)
  subst el e2
  cases pl
  refine thn (po_none.run pins s2 σ H2 (fun o H3 => o = none ∧ H3 = H2) I2 ⟨rfl, rfl⟩) fun vu s3 ⟨u, H3, I3, pu, eu, e3⟩ => ?_
  subst eu e3
  cases pu
  refine thn (hst.run pins s3 σ H3 (fun o H4 => o = some (-1) ∧ H4 = H3) I3 ⟨1, rfl, -1, rfl, rfl, rfl⟩) fun vs s4 ⟨o, H4, I4, ps, eo, e4⟩ => ?_
  subst eo e4
  cases ps with
  | int i tk =>
  have I5 : Inv X pins σ H4 { s4 with heap := s4.heap.push { cls := .type "slice", data := .fields #[.none, .none, .int (-1) tk] } } := I4.kept (t' := s4.toks) fun b ob q => Heap.get?_push_of_some _ q
  obtain ⟨its, r, ht, hz⟩ := I5.tuple hx
  have hlen := r.length
  show wpAny (model X.prog X.w) X.A (subscriptTail e (.Slice none none (some (.UnaryOp .USub (.Constant (.int 1) k p1) p2)) p3) (.ref a) (.ref s4.heap.objs.size)) (EP X pins σ Q) X.xe { s4 with heap := s4.heap.push { cls := .type "slice", data := .fields #[.none, .none, .int (-1) tk] } }
  refine tail_any (ops := [.ref a, .ref s4.heap.objs.size]) ht.typeIs (PyProof.Rows.slot_tuple_getitem.lookup) ?_ (by with_unfolding_all rfl)
  refine HT.getItem_tuple_back ht (Heap.IsSliceOf.new _ .none .none (.int (-1) tk)) ?_ (by rw [List.size_toArray]; omega)
  refine ⟨.ref _, _, I5.laid (t' := s4.toks) (o := .tup xs.reverse) (fun b ob q => Heap.get?_push_of_some _ q) (Nat.le_refl _) ?_, rfl, q _ (I5.hok.fresh (Nat.le_refl _))⟩
  exact ⟨by rw [List.length_reverse]; exact hz, _, r.reverse, IsTup.new _ _⟩
theorem kpe_revT (K : PySem.W.Frag) {e : Expr} {te : TE} {k : Nat} {p1 p2 p3 pos : Pos} (he : PE X e te) (eK : X.K = K := by rfl) : PE X (.Subscript e (.Slice none none (some (.UnaryOp .USub (.Constant (.int 1) k p1) p2)) p3) pos) (tRevT K te) := by subst eK; exact pe_revT he
def rInDT (K : PySem.W.Frag) : R2 := fun x y H Q => ∃ d ds, Dp K H x d ∧ Dp K H y (.tuple ds) ∧ SeqAt.shaped d = true ∧ SeqAt.shaped (.tuple ds) = true ∧ Q (.bl (ds.any fun z => PyData.eqv z d)) H
theorem op_inDT (hu : X.A.units + 65 < cLine) : OpR X (compareOp .In) (rInDT X.K) := by
  intro pins s σ H x y v u Q I rx ry h
  obtain ⟨d, ds, hd, he, sd, se, q⟩ := h
  obtain ⟨as, r1⟩ := Dp.reads I d x v hd rx
  obtain ⟨bs, r2⟩ := Dp.reads I (.tuple ds) y u he ry
  exact SeqAt.in_tuple_reads r2 r1 (SeqAt.canLay_of_shaped se) (SeqAt.canLay_of_shaped sd) (room_in_shaped sd hu) ⟨.bl _, H, I, rfl, q⟩
theorem kop_inDT (K : PySem.W.Frag) (hu : X.A.units + 65 < cLine) (e : X.K = K := by rfl) : OpR X (compareOp .In) (rInDT K) := by subst e; exact op_inDT hu
theorem kop_in (K : PySem.W.Frag) (e : X.K = K := by rfl) : OpR X (compareOp .In) (rIn K false) := by subst e; exact op_in_seq
end
end Ly

set_option Elab.async false
set_option linter.all false
set_option maxRecDepth 100000
/-! numbers that may be bools; a text so many times; slices of texts and tuples; t != () -/
namespace Ly
open PySem PySem.Spec PyProof.Rows L2
def numV : V → Option Int
  | .int i => some i
  | .bl b => some (if b = true then 1 else 0)
  | _ => none
theorem numV_inv {x : V} {n : Int} (h : numV x = some n) : x = .int n ∨ ∃ b, x = .bl b ∧ n = if b = true then 1 else 0 := by
  cases x <;> first | cases h | skip
  · exact .inr ⟨_, rfl, rfl⟩
  · exact .inl rfl
section
variable {X : Cx}
def rAddB : R2 := fun x y H Q => ∃ n j, numV x = some n ∧ y = .int j ∧ Q (.int (n + j)) H
def rSubB : R2 := fun x y H Q => ∃ n j, numV x = some n ∧ y = .int j ∧ Q (.int (n - j)) H
def rMulB : R2 := fun x y H Q => ∃ n j, numV x = some n ∧ y = .int j ∧ CMulW n j ∧ Q (.int (n * j)) H
def rMulC : R2 := fun x y H Q => ∃ n j, x = .int n ∧ numV y = some j ∧ CMulW n j ∧ Q (.int (n * j)) H
theorem op_addB : OpR X (binaryOp .Add) rAddB := by
  intro pins s σ H x y v u Q I rx ry h
  obtain ⟨n, j, hn, rfl, q⟩ := h
  rcases numV_inv hn with rfl | ⟨b, rfl, rfl⟩
  · exact op_add pins s σ H _ _ v u Q I rx ry ⟨n, j, rfl, rfl, q⟩
  · cases rx
    obtain ⟨t', rfl⟩ := ry
    exact PySem.IntBool.add_bool_int ⟨.int _, H, I.tok _, ⟨_, rfl⟩, q⟩
theorem op_subB : OpR X (binaryOp .Sub) rSubB := by
  intro pins s σ H x y v u Q I rx ry h
  obtain ⟨n, j, hn, rfl, q⟩ := h
  rcases numV_inv hn with rfl | ⟨b, rfl, rfl⟩
  · exact op_sub pins s σ H _ _ v u Q I rx ry ⟨n, j, rfl, rfl, q⟩
  · cases rx
    obtain ⟨t', rfl⟩ := ry
    exact PySem.IntBool.sub_bool_int ⟨.int _, H, I.tok _, ⟨_, rfl⟩, q⟩
theorem op_mulB : OpR X (binaryOp .Mult) rMulB := by
  intro pins s σ H x y v u Q I rx ry h
  obtain ⟨n, j, hn, rfl, c, q⟩ := h
  rcases numV_inv hn with rfl | ⟨b, rfl, rfl⟩
  · exact op_mulW pins s σ H _ _ v u Q I rx ry ⟨n, j, rfl, rfl, c, q⟩
  · cases rx
    obtain ⟨t', rfl⟩ := ry
    exact PySem.IntBool.mul_bool_int ⟨.int _, H, I.tok _, ⟨_, rfl⟩, q⟩
theorem op_mulC : OpR X (binaryOp .Mult) rMulC := by
  intro pins s σ H x y v u Q I rx ry h
  obtain ⟨n, j, rfl, hn, c, q⟩ := h
  rcases numV_inv hn with rfl | ⟨b, rfl, rfl⟩
  · exact op_mulW pins s σ H _ _ v u Q I rx ry ⟨n, j, rfl, rfl, c, q⟩
  · obtain ⟨t', rfl⟩ := rx
    cases ry
    exact PySem.IntBool.mul_int_bool ⟨.int _, H, I.tok _, ⟨_, rfl⟩, q⟩
theorem call_strB : CallR X (.type "str") (fun xs H Q => (∃ i : Int, xs = [.int i] ∧ i.natAbs.log2 < 1920 ∧ Q (.str (toString i)) H) ∨ ∃ b : Bool, xs = [.bl b] ∧ Q (.str (if b then "True" else "False")) H) := by
  intro pins s σ H xs us Q I r h
  rcases h with h | ⟨b, rfl, q⟩
  · exact call_str_int pins s σ H xs us Q I r h
  · obtain ⟨u, rfl, r1⟩ := vals1 r
    cases r1
    exact PySem.P.str_of_bool ⟨.str _, H, I.tok _, ⟨_, rfl⟩, q⟩
/-- a text n times, n > 1 -/
def timesS (z : Str) (n : Nat) : Str := ⟨(List.replicate n z.cps).foldl (· ++ ·) #[]⟩
theorem foldl_cat (a : Array Nat) : ∀ (n : Nat) (b : Array Nat), (List.replicate n a).foldl (· ++ ·) b = b ++ ⟨(List.replicate n a.toList).flatten⟩
  | 0, b => by simp
  | n + 1, b => by
    rw [List.replicate_succ, List.foldl_cons, foldl_cat a n, List.replicate_succ, Array.append_assoc]
    congr 1
    simp [List.flatten_cons]
theorem timesS_list (z : Str) (n : Nat) : (timesS z n).cps.toList = (List.replicate n z.cps.toList).flatten := by
  unfold timesS
  rw [foldl_cat]
  simp
theorem timesS_len (z : Str) (n : Nat) : (timesS z n).length = n * z.length := by
  show (timesS z n).cps.size = _
  rw [← Array.length_toList, timesS_list, List.length_flatten, List.map_replicate, List.sum_replicate_nat, Array.length_toList]
  rfl
def rMulT : R2 := fun x y H Q => ∃ (z : Str) (n : Int), x = .str z ∧ y = .int n ∧ 2 ≤ n ∧ n ≤ 1000 ∧ z.length ≤ 10000 ∧ Q (.str (timesS z n.toNat)) H
theorem op_mulT : OpR X (binaryOp .Mult) rMulT := by
  intro pins s σ H x y v u Q I rx ry h
  obtain ⟨z, n, rfl, rfl, h1, h2, hz, q⟩ := h
  obtain ⟨t, rfl⟩ := rx
  obtain ⟨t', rfl⟩ := ry
  have f0 : ¬ n < 1 := by omega
  have hb : z.length * n.toNat ≤ 10000000 := Nat.le_trans (Nat.mul_le_mul hz (show n.toNat ≤ 1000 by omega)) (by decide)
  have hs : 10000000 ≤ sizeLine := by decide
  refine P.mul_str (by
    rw [decide_eq_false (show ¬ n < -(2 ^ 63) by omega), decide_eq_false (show ¬ n ≥ 2 ^ 63 by omega)]; rfl) (fun _ _ => ?_) (fun _ _ => ?_) ?_
  · intro w
    have w2 := Int.lt_mul_of_ediv_lt (by omega) w
    have e : ((z.length : Nat) : Int) * n = ((z.length * n.toNat : Nat) : Int) := by rw [Int.natCast_mul, Int.toNat_of_nonneg (by omega)]
    omega
  · unfold Builtin.Str.tooLong
    rw [decide_eq_false]
    omega
  · rw [if_neg f0]
    split
    · next hh =>
      have z0 : z.length = 0 := by
        rw [Bool.or_eq_true] at hh
        rcases hh with hh | hh
        · have := beq_iff_eq.mp hh
          omega
        · exact beq_iff_eq.mp hh
      have ez : timesS z n.toNat = z := by
        have a1 : (timesS z n.toNat).cps.size = 0 := by
          have := timesS_len z n.toNat
          rw [z0, Nat.mul_zero] at this
          exact this
        have a2 : z.cps.size = 0 := z0
        have b1 := Array.eq_empty_of_size_eq_zero a1
        have b2 := Array.eq_empty_of_size_eq_zero a2
        cases z
        rename_i cps
        have : cps = #[] := b2
        subst this
        show (⟨(timesS _ _).cps⟩ : Str) = _
        rw [b1]
      exact ⟨.str z, H, I, ⟨_, rfl⟩, by rw [ez] at q; exact q⟩
    · refine ⟨?_, ?_⟩
      · show (timesS z n.toNat).length ≤ sizeLine
        rw [timesS_len, Nat.mul_comm]
        omega
      · exact ⟨.str _, H, I.tok _, ⟨_, rfl⟩, q⟩
theorem lpe_bm0 {X : Cx} (K : PySem.W.Frag) {o : Expr} {to : TE} {name : Str} {apos cpos : Pos} {T id : String} {r : V → List V → Hp → VK → Prop} (pa : PlainAttrs T) (slot : Slot T name id) (hty : typeOf (.builtin id) = pure (.type "method_descriptor")) (hm : MtR X id r) (ho : PE X o to)
    (hbase : attributeBase o name X.env (eval o X.env) = eval o X.env := by rfl) (hline : (apos.endLine == cpos.line) = true := by rfl) (e : X.K = K := by rfl) : PE X (.Call (.Attribute o name apos) [] [] cpos) (tBM0 K T r to) := by
  subst e
  exact pe_bm0 pa slot hty hm ho hbase hline
/-- slices of texts and of tuples -/
theorem ksl_tt (K : PySem.W.Frag) (e : X.K = K := by rfl) : SlR X (fun x lo hi H Q => rSlS x lo hi H Q ∨ rSlA K x lo hi H Q) := sl_str.or (by subst e; exact sl_tupA)
def rNeTup0 (K : PySem.W.Frag) : R2 := fun x y H Q => ∃ a b xs, x = .ref a ∧ y = .ref b ∧ SqT K H a xs ∧ SqT K H b [] ∧ Q (.bl (!decide (xs = []))) H
theorem kop_neTup0 (K : PySem.W.Frag) (hu : X.A.units + 64 < cLine) (eK : X.K = K := by rfl) : OpR X (compareOp .NotEq) (rNeTup0 K) := by
  subst eK
  intro pins s σ H x y v u Q I rx ry h
  obtain ⟨a, b, xs, rfl, rfl, ha, hb, q⟩ := h
  cases rx
  cases ry
  obtain ⟨its, rv, pa, _⟩ := I.tuple ha
  obtain ⟨its2, rv2, pb, _⟩ := I.tuple hb
  cases rv2
  have l1 := rv.length
  refine SeqAt.RcNeAt.tuples (e := fun _ => true) pa pb (by omega) (fun j h1 h2 => by simp at h2) _ _ _ _ ?_
  refine ⟨.bl (!decide (xs = [])), H, I, ?_, q⟩
  have e : (!((List.range (min its.toArray.size (([] : List Value).toArray.size))).all (fun _ => true) && its.toArray.size == ([] : List Value).toArray.size)) = !decide (xs = []) := by
    rw [List.all_eq_true.mpr (fun _ _ => rfl), Bool.true_and]
    congr 1
    cases xs with
    | nil => cases rv; rfl
    | cons x xs =>
      rw [decide_eq_false (by simp), beq_eq_false_iff_ne, List.size_toArray, List.size_toArray, ← l1]
      simp
  rw [e]
  rfl
end
end Ly

set_option Elab.async false
set_option linter.all false
set_option maxRecDepth 100000
/-! how great odd data is; expressions that give odd data -/
namespace Ly
open PySem PySem.Spec PyProof.Rows L2
mutual
/-- its leaves: ints of B bits, texts of L plain signs -/
def lfD (L B : Nat) : PyData → Bool
  | .int i => decide (i.natAbs < 2 ^ B)
  | .str x => decide (x.length ≤ L) && x.cps.toList.all fun c => decide (c < 128)
  | .tuple ds => lfDs L B ds
  | .list ds => lfDs L B ds
  | .dict kvs => kvs.isEmpty
  | _ => true
def lfDs (L B : Nat) : List PyData → Bool
  | [] => true
  | d :: ds => lfD L B d && lfDs L B ds
end
structure Bn (L B t W : Nat) (d : PyData) : Prop where
  lf : lfD L B d = true
  dp : d.depth ≤ t
  bk : d.bulk ≤ W
theorem lfDs_iff {L B : Nat} : ∀ {ds : List PyData}, lfDs L B ds = true ↔ ∀ d ∈ ds, lfD L B d = true
  | [] => ⟨fun _ _ h => (nomatch h), fun _ => rfl⟩
  | d :: ds => by
    show (lfD L B d && lfDs L B ds) = true ↔ _
    rw [Bool.and_eq_true, lfDs_iff (ds := ds)]
    refine ⟨fun h x hx => ?_, fun h => ⟨h d (by simp), fun x hx => h x (by simp [hx])⟩⟩
    rcases List.mem_cons.mp hx with rfl | hx
    · exact h.1
    · exact h.2 x hx
theorem depthAll_le {t : Nat} : ∀ {ds : List PyData}, PyData.depthAll ds ≤ t ↔ ∀ d ∈ ds, d.depth ≤ t
  | [] => ⟨fun _ _ h => (nomatch h), fun _ => Nat.zero_le _⟩
  | d :: ds => by
    show max d.depth (PyData.depthAll ds) ≤ t ↔ _
    rw [Nat.max_le, depthAll_le (ds := ds)]
    refine ⟨fun h x hx => ?_, fun h => ⟨h d (by simp), fun x hx => h x (by simp [hx])⟩⟩
    rcases List.mem_cons.mp hx with rfl | hx
    · exact h.1
    · exact h.2 x hx
theorem bulkAll_app : ∀ (xs ys : List PyData), PyData.bulkAll (xs ++ ys) = PyData.bulkAll xs + PyData.bulkAll ys
  | [], ys => by show _ = 0 + _; rw [Nat.zero_add]; rfl
  | x :: xs, ys => by
    show x.bulk + 1 + PyData.bulkAll (xs ++ ys) = x.bulk + 1 + PyData.bulkAll xs + _
    rw [bulkAll_app xs ys]; omega
theorem bulkAll_take (n : Nat) (xs : List PyData) : PyData.bulkAll (xs.take n) ≤ PyData.bulkAll xs := by
  conv => rhs; rw [← List.take_append_drop n xs, bulkAll_app]
  omega
theorem bulkAll_drop (n : Nat) (xs : List PyData) : PyData.bulkAll (xs.drop n) ≤ PyData.bulkAll xs := by
  conv => rhs; rw [← List.take_append_drop n xs, bulkAll_app]
  omega
theorem bulkAll_rev : ∀ xs : List PyData, PyData.bulkAll xs.reverse = PyData.bulkAll xs
  | [] => rfl
  | x :: xs => by
    rw [List.reverse_cons, bulkAll_app, bulkAll_rev xs]
    show _ + (x.bulk + 1 + 0) = x.bulk + 1 + _
    omega
theorem bulkAll_at {xs : List PyData} {i : Nat} {x : PyData} (h : xs[i]? = some x) : PyData.bulkAll xs = PyData.bulkAll (xs.take i) + (x.bulk + 1) + PyData.bulkAll (xs.drop (i + 1)) := by
  have hl := (List.getElem?_eq_some_iff.mp h).1
  have e : xs.drop i = x :: xs.drop (i + 1) := by
    rw [List.drop_eq_getElem_cons hl]
    congr 1
    rw [List.getElem?_eq_getElem hl] at h
    exact Option.some.inj h
  conv => lhs; rw [← List.take_append_drop i xs, bulkAll_app, e]
  show _ + (x.bulk + 1 + _) = _
  omega
/-- a tuple's bounds -/
theorem bn_tup {L B t W : Nat} {ds : List PyData} : Bn L B (t + 1) W (.tuple ds) ↔ lfDs L B ds = true ∧ PyData.depthAll ds ≤ t ∧ PyData.bulkAll ds ≤ W :=
  ⟨fun h => ⟨h.lf, by have := h.dp; change PyData.depthAll ds + 1 ≤ t + 1 at this; omega, h.bk⟩, fun h => ⟨h.1, by show PyData.depthAll ds + 1 ≤ t + 1; omega, h.2.2⟩⟩
mutual
theorem lfD_mono {L B L' B' : Nat} (hL : L ≤ L') (hB : B ≤ B') : ∀ {d : PyData}, lfD L B d = true → lfD L' B' d = true
  | .none, _ => rfl
  | .bool _, _ => rfl
  | .int i, h => decide_eq_true (Nat.lt_of_lt_of_le (of_decide_eq_true h) (Nat.pow_le_pow_right (by decide) hB))
  | .str x, h => by
    have h' : (decide (x.length ≤ L) && x.cps.toList.all fun c => decide (c < 128)) = true := h
    rw [Bool.and_eq_true, decide_eq_true_iff] at h'
    show (decide (x.length ≤ L') && x.cps.toList.all fun c => decide (c < 128)) = true
    rw [Bool.and_eq_true, decide_eq_true_iff]
    exact ⟨Nat.le_trans h'.1 hL, h'.2⟩
  | .tuple ds, h => lfDs_mono hL hB (ds := ds) h
  | .list ds, h => lfDs_mono hL hB (ds := ds) h
  | .dict kvs, h => h
theorem lfDs_mono {L B L' B' : Nat} (hL : L ≤ L') (hB : B ≤ B') : ∀ {ds : List PyData}, lfDs L B ds = true → lfDs L' B' ds = true
  | [], _ => rfl
  | d :: ds, h => by
    have h' : (lfD L B d && lfDs L B ds) = true := h
    rw [Bool.and_eq_true] at h'
    show (lfD L' B' d && lfDs L' B' ds) = true
    rw [lfD_mono hL hB h'.1, lfDs_mono hL hB h'.2]; rfl
end
theorem Bn.mono {L B t W L' B' t' W' : Nat} {d : PyData} (h : Bn L B t W d) (hL : L ≤ L') (hB : B ≤ B') (ht : t ≤ t') (hW : W ≤ W') : Bn L' B' t' W' d := ⟨lfD_mono hL hB h.lf, Nat.le_trans h.dp ht, Nat.le_trans h.bk hW⟩
/-! ### what is shown of it -/
theorem int_len {i : Int} {B : Nat} (hB : 0 < B) (h : i.natAbs < 2 ^ B) : (PyData.shown (.int i)).length ≤ B + 1 := by
  have h1 := int_text_length_le hB (PySem.Flt.log2_lt_of hB h)
  rw [PyData.shown_int]
  show (Str.ofString (toString i)).length ≤ B + 1
  rw [PySem.ofString_length]
  exact h1
theorem int_plain (i : Int) : ∀ c ∈ (PyData.shown (.int i)).cps.toList, c < 128 := fun c hc => by
  by_cases h : c < 128
  · exact h
  · exact absurd hc (shown_int_free' ⟨by omega, by omega⟩ i)
mutual
theorem lf_short {L B C : Nat} (hB : 0 < B) (hC : B + 1 ≤ C) : ∀ {d : PyData}, lfD L B d = true → d.leavesShort C = true
  | .none, _ => rfl
  | .bool _, _ => rfl
  | .int i, h => decide_eq_true (Nat.le_trans (int_len hB (of_decide_eq_true h)) hC)
  | .str x, h => by
    have h' : (decide (x.length ≤ L) && x.cps.toList.all fun c => decide (c < 128)) = true := h
    rw [Bool.and_eq_true] at h'
    refine List.all_eq_true.mpr fun c hc => decide_eq_true ?_
    have := of_decide_eq_true (List.all_eq_true.mp h'.2 c hc)
    exact Nat.lt_of_lt_of_le this (by decide)
  | .tuple ds, h => lfs_short hB hC (ds := ds) h
  | .list ds, h => lfs_short hB hC (ds := ds) h
  | .dict [], h => rfl
  | .dict (_ :: _), h => by cases h
theorem lfs_short {L B C : Nat} (hB : 0 < B) (hC : B + 1 ≤ C) : ∀ {ds : List PyData}, lfDs L B ds = true → PyData.leavesShortAll C ds = true
  | [], _ => rfl
  | d :: ds, h => by
    have h' : (lfD L B d && lfDs L B ds) = true := h
    rw [Bool.and_eq_true] at h'
    show (d.leavesShort C && PyData.leavesShortAll C ds) = true
    rw [lf_short hB hC h'.1, lfs_short hB hC h'.2]; rfl
end
mutual
theorem lf_showable {L B : Nat} (hB : 0 < B) (hC : B ≤ 1920) : ∀ {d : PyData}, lfD L B d = true → d.showable = true
  | .none, _ => rfl
  | .bool _, _ => rfl
  | .int i, h => decide_eq_true (Nat.lt_of_lt_of_le (PySem.Flt.log2_lt_of hB (of_decide_eq_true h)) hC)
  | .str x, h => rfl
  | .tuple ds, h => lfs_showable hB hC (ds := ds) h
  | .list ds, h => lfs_showable hB hC (ds := ds) h
  | .dict [], h => rfl
  | .dict (_ :: _), h => by cases h
theorem lfs_showable {L B : Nat} (hB : 0 < B) (hC : B ≤ 1920) : ∀ {ds : List PyData}, lfDs L B ds = true → PyData.showableAll ds = true
  | [], _ => rfl
  | d :: ds, h => by
    have h' : (lfD L B d && lfDs L B ds) = true := h
    rw [Bool.and_eq_true] at h'
    show (d.showable && PyData.showableAll ds) = true
    rw [lf_showable hB hC h'.1, lfs_showable hB hC h'.2]; rfl
end
theorem Bn.shown {L B t W : Nat} {d : PyData} (h : Bn L B t W d) (hB : 0 < B) (h2 : B ≤ 100) (hW : W ≤ 150000) : d.showable = true ∧ d.shown.length ≤ sizeLine := by
  refine ⟨lf_showable hB (by omega) h.lf, ?_⟩
  have h1 := PyData.shown_le_bulk 101 (by decide) d (lf_short (C := 101) hB (by omega) h.lf)
  have h3 := h.bk
  have h4 : (101 + 2) * d.bulk ≤ 103 * 150000 := Nat.mul_le_mul_left _ (by omega)
  have h5 : 103 * 150000 + 101 ≤ sizeLine := by decide
  omega
/-! ### expressions that give odd data, in new places alone -/
section
variable {K : PySem.W.Frag} {S : Addr → Prop} {H0 : Hp} {σ : L2.St} {p : PyData → Prop}
def Gd (K : PySem.W.Frag) (S : Addr → Prop) (H0 : Hp) (σ : L2.St) (p : PyData → Prop) (te : TE) : Prop := ∀ (H : Hp) (Q : VK), Same H0 H → (∀ x d H', Same H H' → Od K S H' x d → p d → Q x H') → te σ H Q
def GdA (K : PySem.W.Frag) (S : Addr → Prop) (H0 : Hp) (σ : L2.St) (p : PyData → Prop) (n : Nat) (ta : TA) : Prop := ∀ (H : Hp) (Q : List V → Hp → Prop), Same H0 H → (∀ xs ds H', Same H H' → OdAll K S H' xs ds → (∀ d ∈ ds, p d) → xs.length = n → Q xs H') → ta σ H Q
theorem gda_nil : GdA K S H0 σ p 0 tNil := fun H Q s q => q [] [] H (Same.refl H) .nil (fun _ h => (nomatch h)) rfl
theorem gda_cons {te : TE} {ta : TA} {n : Nat} (a : Gd K S H0 σ p te) (b : GdA K S H0 σ p n ta) : GdA K S H0 σ p (n + 1) (tCons te ta) := fun H Q s q =>
  a H _ s fun x d H1 s1 o1 p1 => b H1 _ (s.trans s1) fun xs ds H2 s2 o2 p2 l2 => q (x :: xs) (d :: ds) H2 (s1.trans s2) (.cons (o1.mono (fo_same s2)) o2) (fun e he => by
    rcases List.mem_cons.mp he with rfl | he
    · exact p1
    · exact p2 e he) (by rw [List.length_cons, l2])
theorem gd_non (h : p .none) : Gd K S H0 σ p (tC .non) := fun H Q s q => q _ _ H (Same.refl H) .non h
theorem gd_bl (b : Bool) (h : p (.bool b)) : Gd K S H0 σ p (tC (.bl b)) := fun H Q s q => q _ _ H (Same.refl H) (.bl b) h
theorem gd_int (i : Int) (hs : SmI i) (h : p (.int i)) : Gd K S H0 σ p (tC (.int i)) := fun H Q s q => q _ _ H (Same.refl H) (.int i hs) h
theorem gd_neg (i : Int) (hs : SmI (-i)) (h : p (.int (-i))) : Gd K S H0 σ p (tUn (rU fun i => .int (-i)) (tC (.int i))) := fun H Q s q => ⟨i, rfl, q _ _ H (Same.refl H) (.int _ hs) h⟩
theorem gd_str (z : Str) (hs : z.length ≤ 100000) (h : p (.str z)) : Gd K S H0 σ p (tC (.str z)) := fun H Q s q => q _ _ H (Same.refl H) (.str z hs) h
theorem gd_tup0 (h : p (.tuple [])) : Gd K S H0 σ p (tTup tNil) := fun H Q s q => ⟨by show 0 ≤ sizeLine; decide, fun a ha => q _ _ _ (same_new ha) (.tup (.inl upd_same) .nil) h⟩
theorem gd_lst0 (hS : ∀ a, H0 a = none → S a) (h : p (.list [])) : Gd K S H0 σ p (tLstB tNil) := fun H Q s q => ⟨by show 0 ≤ sizeLine; decide, fun a ha hb => q _ _ _ (same_new ha) (.lst (hS a (s.free ha)) hb upd_same .nil) h⟩
theorem gd_dic0 (hS : ∀ a, H0 a = none → S a) (h : p (.dict [])) : Gd K S H0 σ p tDNewK := fun H Q s q a ha => q _ _ _ (same_new ha) (.dic (hS a (s.free ha)) upd_same) h
theorem gd_pair (i j : Int) (hi : SmI i) (hj : SmI j) (h : p (.tuple [.int i, .int j])) : Gd K S H0 σ p (tTup (tCons (tC (.int i)) (tCons (tC (.int j)) tNil))) := fun H Q s q => ⟨by show 2 ≤ sizeLine; decide, fun a ha => q _ _ _ (same_new ha) (.tup (.inl upd_same) (.cons (.int i hi) (.cons (.int j hj) .nil))) h⟩
theorem gd_pairN (i j : Int) (hi : SmI i) (hj : SmI (-j)) (h : p (.tuple [.int i, .int (-j)])) : Gd K S H0 σ p (tTup (tCons (tC (.int i)) (tCons (tUn (rU fun i => .int (-i)) (tC (.int j))) tNil))) := fun H Q s q => ⟨j, rfl, by show 2 ≤ sizeLine; decide, fun a ha => q _ _ _ (same_new ha) (.tup (.inl upd_same) (.cons (.int i hi) (.cons (.int (-j) hj) .nil))) h⟩
end
end Ly

set_option Elab.async false
set_option linter.all false
set_option maxRecDepth 100000
set_option exponentiation.threshold 20000
set_option pp.deepTerms false
set_option pp.deepTerms.threshold 8
namespace K63
open PySem PySem.Spec PyProof.Rows L2 Ly Mt
/-! ### bent data -/
mutual
theorem od_sub {K : PySem.W.Frag} {S S' : Addr → Prop} {H : Hp} (h : ∀ a, S a → S' a) : ∀ {v : V} {d : PyData}, Od K S H v d → Od K S' H v d
  | _, _, .non => .non
  | _, _, .bl b => .bl b
  | _, _, .int i l => .int i l
  | _, _, .str x l => .str x l
  | _, _, .tup e r => .tup e (odAll_sub h r)
  | _, _, .lst s b e r => .lst (h _ s) b e (odAll_sub h r)
  | _, _, .dic s e => .dic (h _ s) e
theorem odAll_sub {K : PySem.W.Frag} {S S' : Addr → Prop} {H : Hp} (h : ∀ a, S a → S' a) : ∀ {vs : List V} {ds : List PyData}, OdAll K S H vs ds → OdAll K S' H vs ds
  | _, _, .nil => .nil
  | _, _, .cons a r => .cons (od_sub h a) (odAll_sub h r)
end
theorem odAll_rep {K : PySem.W.Frag} {S : Addr → Prop} {H : Hp} {vs : List V} {ds : List PyData} (h : OdAll K S H vs ds) : ∀ n : Nat, OdAll K S H (List.replicate n vs).flatten (List.replicate n ds).flatten
  | 0 => .nil
  | n + 1 => by
    rw [List.replicate_succ, List.replicate_succ, List.flatten_cons, List.flatten_cons]
    exact h.app (odAll_rep h n)
theorem cat_bigO {K : PySem.W.Frag} {a b : Addr} {xs ys : List V} {H : Hp} {Q : VK} (h : ITup K H a xs) (h2 : ITup K H b ys) (hz : xs.length + ys.length ≤ sizeLine) (q : ∀ p H', Same H H' → ITup K H' p (xs ++ ys) → Q (.ref p) H') : rCatA K (.ref a) (.ref b) H Q := by
  refine ⟨a, b, xs, ys, rfl, rfl, h.sq, h2.sq, hz, fun e => q b H (Same.refl H) (by rw [e]; exact h2), fun _ e => q a H (Same.refl H) (by rw [e, List.append_nil]; exact h), fun _ _ p hp => q p _ (same_new hp) (.inl upd_same)⟩
theorem cut_from {ws : List V} {n : Nat} (h : n ≤ ws.length) : cutV ws (some (n : Int)) none = ws.drop n := by
  unfold cutV
  rw [HT.sIx_none, HT.sIx_nat, Nat.min_eq_left h]
  exact List.take_of_length_le (by rw [List.length_drop]; exact Nat.le_refl _)
theorem len_bulk : ∀ ds : List PyData, ds.length ≤ PyData.bulkAll ds
  | [] => Nat.le_refl _
  | d :: ds => by
    have := len_bulk ds
    show ds.length + 1 ≤ d.bulk + 1 + PyData.bulkAll ds
    omega
/-- what bending may make of data -/
structure Bent (L B : Nat) (d e : PyData) : Prop where
  bn : Bn (11 * L + B + 60) (B + 2) (d.depth + 1) (2 * d.bulk + (11 * L + B + 60)) e
theorem small_bent {L B : Nat} {d e : PyData} (hB : 10 ≤ B) (h : Bn 10 10 1 20 e) : Bent L B d e := ⟨h.mono (by omega) (by omega) (by omega) (by omega)⟩
theorem sm_of {L B : Nat} {i : Int} (h : lfD L B (.int i) = true) (hB : B ≤ 1900) : SmI i := Nat.lt_of_lt_of_le (of_decide_eq_true h) (Nat.pow_le_pow_right (by decide) hB)
theorem set_lstB {K : PySem.W.Frag} {S : Addr → Prop} {H0 H : Hp} {σ : L2.St} {p : PyData → Prop} {n i : Nat} {ta : TA} {u : TS} {D : L2.Ends} (g : GdA K S H0 σ p n ta) (s : Same H0 H) (hn : n ≤ 999)
    (k : ∀ ws es H2 M, Same H H2 → OdAll K S H2 ws es → (∀ d ∈ es, p d) → ws.length = n → H2 M = none → sysModules < M → u D (σ.set i (some (.ref M))) (upd H2 M (.lst ws))) : tSeq (tAsg (tLstB ta) (gName i)) u D σ H :=
  g H _ s fun ws es H2 s2 o2 p2 l2 => ⟨Nat.le_of_lt (small1000 (by omega)), fun M hM hb => k ws es H2 M s2 o2 p2 l2 hM hb⟩
/-! ### what is made of a tuple, a text, a number -/
theorem cut_od {K : PySem.W.Frag} {S : Addr → Prop} {H : Hp} {xs : List V} {ds : List PyData} (h : OdAll K S H xs ds) (lo hi : Option Int) : ∃ es, OdAll K S H (cutV xs lo hi) es ∧ (∀ e ∈ es, e ∈ ds) ∧ PyData.bulkAll es ≤ PyData.bulkAll ds :=
  ⟨(ds.drop (HT.sIx xs.length 0 lo)).take (HT.sIx xs.length xs.length hi - HT.sIx xs.length 0 lo), (h.drop _).take _, fun e he => List.mem_of_mem_drop (List.mem_of_mem_take he), Nat.le_trans (bulkAll_take _ _) (bulkAll_drop _ _)⟩
abbrev rSlTT (K : PySem.W.Frag) : V → Option Int → Option Int → Hp → VK → Prop := fun x lo hi H Q => rSlS x lo hi H Q ∨ rSlA K x lo hi H Q
abbrev rAddS : R2 := fun x y H Q => ∃ i j, x = .str i ∧ y = .str j ∧ i.length + j.length ≤ sizeLine ∧ Q (.str (i ++ j)) H
section
variable {K : PySem.W.Frag} {S : Addr → Prop} {H0 : Hp} {σ : L2.St} {p : PyData → Prop} {a : Addr} {xs : List V} {ds : List PyData}
/-- p holds of what is made of ds -/
structure OkT (ds : List PyData) (p : PyData → Prop) : Prop where
  few : ds.length ≤ 100000
  t : ∀ es, (∀ e ∈ es, e ∈ ds ∨ e = .none) → PyData.bulkAll es ≤ 2 * PyData.bulkAll ds + 1 → p (.tuple es)
  l : p (.list ds)
  o : p (.tuple [.tuple ds])
variable (hv : σ[1]? = some (some (.ref a))) (ha : ITup K H0 a xs) (hx : OdAll K S H0 xs ds) (ok : OkT ds p)
include hv ha hx ok
theorem gt_list (hS : ∀ a, H0 a = none → S a) : Gd K S H0 σ p (tCB (rListB K) (tCons (tVar 1) tNil)) := fun H Q s q =>
  ⟨.ref a, hv, a, xs, rfl, (ha.mono (tk_same s)).sq, fun l hl hb => q _ _ _ (same_new hl) (.lst (hS l (s.free hl)) hb upd_same (hx.mono (fo_same (s.trans (same_new hl))))) ok.l⟩
theorem gt_rev : Gd K S H0 σ p (tRevT K (tVar 1)) := fun H Q s q =>
  ⟨.ref a, hv, a, xs, rfl, (ha.mono (tk_same s)).sq, fun l hl => q _ (.tuple ds.reverse) _ (same_new hl) (.tup (.inl upd_same) (hx.mono (fo_same (s.trans (same_new hl)))).rev) (ok.t _ (fun e he => .inl (List.mem_reverse.mp he)) (by rw [bulkAll_rev]; omega))⟩
theorem gt_one : Gd K S H0 σ p (tTup (tCons (tVar 1) tNil)) := fun H Q s q =>
  ⟨.ref a, hv, by show 1 ≤ sizeLine; decide, fun l hl => q _ _ _ (same_new hl) (.tup (.inl upd_same) (.cons (.tup (ha.mono (tk_same (s.trans (same_new hl)))) (hx.mono (fo_same (s.trans (same_new hl))))) .nil)) ok.o⟩
theorem gt_sl (lo hi : Option Int) {H : Hp} {Q : VK} (s : Same H0 H) (q : ∀ x d H', Same H H' → Od K S H' x d → p d → Q x H') : rSlTT K (.ref a) lo hi H Q := by
  refine .inr (sl_any (ha.mono (tk_same s)) fun b H1 s1 hb => ?_)
  obtain ⟨es, o1, m1, b1⟩ := cut_od (hx.mono (fo_same (s.trans s1))) lo hi
  exact q _ (.tuple es) _ s1 (.tup hb o1) (ok.t es (fun e he => .inl (m1 e he)) (by omega))
theorem gt_init : Gd K S H0 σ p (tSl (rSlTT K) (tVar 1) tNoPart (tPart (tUn (rU fun i => .int (-i)) (tC (.int 1))))) := fun H Q s q =>
  ⟨.ref a, hv, 1, rfl, -1, rfl, gt_sl hv ha hx ok none (some (-1)) s q⟩
theorem gt_tail : Gd K S H0 σ p (tSl (rSlTT K) (tVar 1) (tPart (tC (.int 1))) tNoPart) := fun H Q s q =>
  ⟨.ref a, hv, 1, rfl, gt_sl hv ha hx ok (some 1) none s q⟩
theorem gt_cat {b : Addr} {ys : List V} {es : List PyData} {H : Hp} {Q : VK} (s : Same H0 H) (hb : ITup K H b ys) (oe : OdAll K S H ys es) (l : Bool) (m : ∀ e ∈ es, e ∈ ds ∨ e = .none) (bb : PyData.bulkAll es ≤ PyData.bulkAll ds + 1) (few : es.length ≤ 100001)
    (q : ∀ x d H', Same H H' → Od K S H' x d → p d → Q x H') : if l = true then rCatA K (.ref a) (.ref b) H Q else rCatA K (.ref b) (.ref a) H Q := by
  have h1 := ok.few
  have h2 := hx.len
  have h3 := oe.len
  have h4 : xs.length + ys.length ≤ sizeLine := Nat.le_trans (show xs.length + ys.length ≤ 300000 by omega) (by decide)
  have hxH := hx.mono (fo_same (S := S) s)
  cases l with
  | true =>
    refine cat_bigO (ha.mono (tk_same s)) hb h4 fun c H1 s1 hc => q _ (.tuple (ds ++ es)) _ s1 (.tup hc ((hxH.app oe).mono (fo_same s1))) (ok.t _ (fun e he => ?_) (by rw [bulkAll_app]; omega))
    rcases List.mem_append.mp he with he | he
    · exact .inl he
    · exact m e he
  | false =>
    refine cat_bigO hb (ha.mono (tk_same s)) (by omega) fun c H1 s1 hc => q _ (.tuple (es ++ ds)) _ s1 (.tup hc ((oe.app hxH).mono (fo_same s1))) (ok.t _ (fun e he => ?_) (by rw [bulkAll_app]; omega))
    rcases List.mem_append.mp he with he | he
    · exact m e he
    · exact .inl he
theorem gt_last : Gd K S H0 σ p (tOp (rCatA K) (tVar 1) (tSl (rSlTT K) (tVar 1) (tPart (tUn (rU fun i => .int (-i)) (tC (.int 1)))) tNoPart)) := fun H Q s q =>
  ⟨.ref a, hv, .ref a, hv, 1, rfl, -1, rfl, by
    refine .inr (sl_any (lo := some (-1)) (hi := none) (ha.mono (tk_same s)) fun b H1 s1 hb => ?_)
    obtain ⟨es, o1, m1, b1⟩ := cut_od (hx.mono (fo_same (s.trans s1))) (some (-1)) none
    have h1 := ok.few
    have h2 := hx.len
    have h3 := o1.len
    have h4 := cutV_length xs (some (-1)) none
    exact gt_cat hv ha hx ok (s.trans s1) hb o1 true (fun e he => .inl (m1 e he)) (by omega) (by omega) fun x d H' s' o' p' => q x d H' (s1.trans s') o' p'⟩
theorem gt_head : Gd K S H0 σ p (tOp (rCatA K) (tSl (rSlTT K) (tVar 1) tNoPart (tPart (tC (.int 1)))) (tVar 1)) := fun H Q s q =>
  ⟨.ref a, hv, 1, rfl, by
    refine .inr (sl_any (lo := none) (hi := some 1) (ha.mono (tk_same s)) fun b H1 s1 hb => ⟨.ref a, hv, ?_⟩)
    obtain ⟨es, o1, m1, b1⟩ := cut_od (hx.mono (fo_same (s.trans s1))) none (some 1)
    have h1 := ok.few
    have h2 := hx.len
    have h3 := o1.len
    have h4 := cutV_length xs none (some 1)
    exact gt_cat hv ha hx ok (s.trans s1) hb o1 false (fun e he => .inl (m1 e he)) (by omega) (by omega) fun x d H' s' o' p' => q x d H' (s1.trans s') o' p'⟩
theorem gt_none : Gd K S H0 σ p (tOp (rCatA K) (tVar 1) (tTup (tCons (tC .non) tNil))) := fun H Q s q =>
  ⟨.ref a, hv, by show 1 ≤ sizeLine; decide, fun b hb => by
    have s1 := same_new (o := .tup [.non]) hb
    exact gt_cat hv ha hx ok (s.trans s1) (.inl upd_same) (es := [.none]) (.cons .non .nil) true (fun e he => .inr (List.mem_singleton.mp he)) (by show 0 + 1 + 0 ≤ _; omega) (by decide) fun x d H' s' o' p' => q x d H' (s1.trans s') o' p'⟩
end
section
variable {K : PySem.W.Frag} {S : Addr → Prop} {H0 : Hp} {σ : L2.St} {p : PyData → Prop} {z : Str}
variable (hv : σ[1]? = some (some (.str z))) (l : z.length ≤ 5000) (ok : ∀ y : Str, y.length ≤ 11 * z.length + 2 → (∀ c ∈ y.cps.toList, c < 128) → p (.str y)) (pl : ∀ c ∈ z.cps.toList, c < 128)
include hv l ok pl
theorem gs_mk {y : Str} {H : Hp} {Q : VK} (hl : y.length ≤ 11 * z.length + 2) (hp : ∀ c ∈ y.cps.toList, c < 128) (q : ∀ x d H', Same H H' → Od K S H' x d → p d → Q x H') : Q (.str y) H := q _ _ H (Same.refl H) (.str y (by omega)) (ok y hl hp)
theorem app_len' (x y : Str) : (x ++ y).length = x.length + y.length := by
  show (x.cps ++ y.cps).size = _
  rw [Array.size_append]; rfl
theorem gs_addR (y : Str) (h1 : y.length ≤ 2) (hy : ∀ c ∈ y.cps.toList, c < 128) : Gd K S H0 σ p (tOp rAddS (tVar 1) (tC (.str y))) := fun H Q s q =>
  ⟨.str z, hv, z, y, rfl, rfl, Nat.le_trans (show z.length + y.length ≤ 10000 by omega) (by decide), gs_mk hv l ok pl (by rw [app_len' hv l ok pl]; omega) (fun c hc => by
    rcases mem_add.mp hc with hc | hc
    · exact pl c hc
    · exact hy c hc) q⟩
theorem gs_addL (y : Str) (h1 : y.length ≤ 2) (hy : ∀ c ∈ y.cps.toList, c < 128) : Gd K S H0 σ p (tOp rAddS (tC (.str y)) (tVar 1)) := fun H Q s q =>
  ⟨.str z, hv, y, z, rfl, rfl, Nat.le_trans (show y.length + z.length ≤ 10000 by omega) (by decide), gs_mk hv l ok pl (by rw [app_len' hv l ok pl]; omega) (fun c hc => by
    rcases mem_add.mp hc with hc | hc
    · exact hy c hc
    · exact pl c hc) q⟩
theorem gs_upper : Gd K S H0 σ p (tBM0 K "str" (fun x xs H Q => ∃ a, x = .str a ∧ xs = [] ∧ a.length ≤ 5592405 ∧ Q (.str (Txt.upper a)) H) (tVar 1)) := fun H Q s q =>
  ⟨.str z, hv, rfl, z, rfl, rfl, by omega, gs_mk hv l ok pl (by have := len_upper z; omega) (fun c hc => by
    rw [upper_ascii pl] at hc
    simp only [Array.toList_map, List.mem_map] at hc
    obtain ⟨x, hx, rfl⟩ := hc
    have := pl x hx
    unfold up1
    split <;> omega) q⟩
theorem gs_lower : Gd K S H0 σ p (tBM0 K "str" (fun x xs H Q => ∃ a, x = .str a ∧ xs = [] ∧ a.length ≤ 5592405 ∧ Q (.str (Txt.lower a)) H) (tVar 1)) := fun H Q s q =>
  ⟨.str z, hv, rfl, z, rfl, rfl, by omega, gs_mk hv l ok pl (by have := len_lower z; omega) (fun c hc => by
    rw [lower_ascii pl] at hc
    simp only [Array.toList_map, List.mem_map] at hc
    obtain ⟨x, hx, rfl⟩ := hc
    have := pl x hx
    unfold lo1
    split <;> omega) q⟩
theorem gs_init : Gd K S H0 σ p (tSl (rSlTT K) (tVar 1) tNoPart (tPart (tUn (rU fun i => .int (-i)) (tC (.int 1))))) := fun H Q s q =>
  ⟨.str z, hv, 1, rfl, -1, rfl, .inl ⟨z, rfl, Nat.le_trans l (by decide), gs_mk hv l ok pl (by
    show (List.toArray _).size ≤ _
    rw [List.size_toArray, List.length_take, List.length_drop, Array.length_toList]
    have : z.length = z.cps.size := rfl
    omega) (fun c hc => pl c (List.mem_of_mem_drop (List.mem_of_mem_take (by simpa [cutS] using hc)))) q⟩⟩
theorem gs_times : Gd K S H0 σ p (tOp rMulT (tVar 1) (tC (.int 11))) := fun H Q s q =>
  ⟨.str z, hv, z, 11, rfl, rfl, by decide, by decide, by omega, gs_mk hv l ok pl (by rw [timesS_len]; show 11 * z.length ≤ _; omega) (fun c hc => by
    rw [timesS_list] at hc
    obtain ⟨y, hy, hc⟩ := List.mem_flatten.mp hc
    rw [(List.mem_replicate.mp hy).2] at hc
    exact pl c hc) q⟩
end
section
variable {K : PySem.W.Frag} {S : Addr → Prop} {H0 : Hp} {σ : L2.St} {p : PyData → Prop} {v : V} {t : PyData} {n : Int} {B : Nat}
variable (hv : σ[1]? = some (some v)) (hn : numV v = some n) (B9 : B ≤ 90) (B1 : 10 ≤ B) (nb : n.natAbs < 2 ^ B) (ok : ∀ i : Int, i.natAbs < 2 ^ (B + 2) → p (.int i))
include hv hn B9 B1 nb ok
theorem gi_mk {i : Int} {H : Hp} {Q : VK} (h : i.natAbs ≤ 2 * n.natAbs + 2) (q : ∀ x d H', Same H H' → Od K S H' x d → p d → Q x H') : Q (.int i) H := by
  have e : 2 ^ (B + 2) = 4 * 2 ^ B := by rw [Nat.pow_add]; omega
  have h1 : 1 ≤ 2 ^ B := Nat.one_le_two_pow
  have h2 : i.natAbs < 2 ^ (B + 2) := by omega
  exact q _ _ H (Same.refl H) (.int i (Nat.lt_of_lt_of_le h2 (Nat.pow_le_pow_right (by decide) (by omega)))) (ok i h2)
theorem gi_add (j : Int) (h : j.natAbs ≤ 2) : Gd K S H0 σ p (tOp rAddB (tVar 1) (tC (.int j))) := fun H Q s q => ⟨v, hv, n, j, hn, rfl, gi_mk hv hn B9 B1 nb ok (by omega) q⟩
theorem gi_sub : Gd K S H0 σ p (tOp rSubB (tVar 1) (tC (.int 1))) := fun H Q s q => ⟨v, hv, n, 1, hn, rfl, gi_mk hv hn B9 B1 nb ok (by omega) q⟩
theorem gi_neg : Gd K S H0 σ p (tOp rMulC (tUn (rU fun i => .int (-i)) (tC (.int 1))) (tVar 1)) := fun H Q s q =>
  ⟨1, rfl, v, hv, -1, n, rfl, hn, wide_mul (a := 2) (b := B) (by decide) nb (by decide) (by omega) (by omega), gi_mk hv hn B9 B1 nb ok (by omega) q⟩
theorem gi_dbl : Gd K S H0 σ p (tOp rMulB (tVar 1) (tC (.int 2))) := fun H Q s q =>
  ⟨v, hv, n, 2, hn, rfl, wide_mul (a := B) (b := 2) nb (by decide) (by omega) (by decide) (by omega), gi_mk hv hn B9 B1 nb ok (by omega) q⟩
theorem gi_eq (okb : ∀ b, p (.bool b)) : Gd K S H0 σ p (tOp (rEqD K) (tVar 1) (tC (.int 1))) := fun H Q s q => by
  rcases numV_inv hn with rfl | ⟨b, rfl, _⟩
  · exact ⟨.int n, hv, .int n, .int 1, .int n, .int 1, rfl, rfl, q _ _ H (Same.refl H) (.bl _) (okb _)⟩
  · exact ⟨.bl b, hv, .bool b, .int 1, .bl b, .int 1, rfl, rfl, q _ _ H (Same.refl H) (.bl _) (okb _)⟩
theorem gi_str (oks : ∀ y : Str, y.length ≤ B + 5 → (∀ c ∈ y.cps.toList, c < 128) → p (.str y)) : Gd K S H0 σ p (tCB (fun xs H Q => (∃ i : Int, xs = [.int i] ∧ i.natAbs.log2 < 1920 ∧ Q (.str (toString i)) H) ∨ ∃ b : Bool, xs = [.bl b] ∧ Q (.str (if b then "True" else "False")) H) (tCons (tVar 1) tNil)) := fun H Q s q => by
  rcases numV_inv hn with rfl | ⟨b, rfl, _⟩
  · have h1 := int_len (i := n) (by omega) nb
    have h2 := int_plain n
    rw [PyData.shown_int] at h1 h2
    exact ⟨.int n, hv, .inl ⟨n, rfl, Nat.lt_of_lt_of_le (PySem.Flt.log2_lt_of (by omega) nb) (by omega), q _ _ H (Same.refl H) (.str _ (by omega)) (oks _ (by omega) h2)⟩⟩
  · refine ⟨.bl b, hv, .inr ⟨b, rfl, ?_⟩⟩
    cases b with
    | true => exact q _ _ H (Same.refl H) (.str _ (by decide)) (oks _ (by show 4 ≤ _; omega) (by decide))
    | false => exact q _ _ H (Same.refl H) (.str _ (by decide)) (oks _ (by show 5 ≤ _; omega) (by decide))
end
section
variable {K : PySem.W.Frag} {S : Addr → Prop} {H0 : Hp} {σ : L2.St} {p : PyData → Prop} {v : V} {t : PyData}
theorem g_one (hv : σ[1]? = some (some v)) (o : Od K S H0 v t) (h : p (.tuple [t])) : Gd K S H0 σ p (tTup (tCons (tVar 1) tNil)) := fun H Q s q =>
  ⟨v, hv, by show 1 ≤ sizeLine; decide, fun l hl => q _ _ _ (same_new hl) (.tup (.inl upd_same) (.cons (o.mono (fo_same (s.trans (same_new hl)))) .nil)) h⟩
theorem g_lst (hv : σ[1]? = some (some v)) (o : Od K S H0 v t) (hS : ∀ a, H0 a = none → S a) (h : p (.list [t])) : Gd K S H0 σ p (tLstB (tCons (tVar 1) tNil)) := fun H Q s q =>
  ⟨v, hv, by show 1 ≤ sizeLine; decide, fun l hl hb => q _ _ _ (same_new hl) (.lst (hS l (s.free hl)) hb upd_same (.cons (o.mono (fo_same (s.trans (same_new hl)))) .nil)) h⟩
end
/-- some + [..] * 2 -/
theorem add_lstB {K : PySem.W.Frag} {S : Addr → Prop} {H0 H : Hp} {σ : L2.St} {p : PyData → Prop} {n i : Nat} {ta : TA} {D : L2.Ends} {M : Addr} {ws : List V} {es : List PyData} (g : GdA K S H0 σ p n ta) (s : Same H0 H) (hn : n ≤ 100) (hM : σ[i]? = some (some (.ref M))) (eM : H M = some (.lst ws)) (lw : ws.length ≤ 100) (ow : OdAll K S H ws es) (pe : ∀ d ∈ es, p d)
    (k : ∀ N xs ds H', Same H H' → H N = none → H' N = some (.lst xs) → OdAll K S H' xs ds → (∀ d ∈ ds, p d) → xs.length = ws.length + 2 * n → D.nx (σ.set i (some (.ref N))) H') : tAsg (tOp rCat (tVar i) (tOp rRep (tLstB ta) (tC (.int 2)))) (gName i) D σ H := by
  refine ⟨.ref M, hM, g H _ s fun us fs H2 s2 o2 p2 l2 => ⟨Nat.le_of_lt (small1000 (by omega)), fun L hL _ => ?_⟩⟩
  have sL := same_new (o := .lst us) hL
  refine ⟨L, 2, us, rfl, rfl, upd_same, by decide, by decide, Nat.le_of_lt (small1000 (by show us.length * 2 ≤ _; omega)), fun R hR => ?_⟩
  have sR := same_new (o := .lst (List.replicate (2 : Int).toNat us).flatten) hR
  have s3 := (s2.trans sL).trans sR
  have lr : ((List.replicate (2 : Int).toNat us).flatten).length = 2 * n := by
    rw [List.length_flatten, List.map_replicate, List.sum_replicate_nat, l2]; rfl
  refine ⟨M, R, ws, _, rfl, rfl, s3 _ _ eM, upd_same, Nat.le_of_lt (small1000 (by rw [lr]; omega)), fun N hN => ?_⟩
  have sN := same_new (o := .lst (ws ++ (List.replicate (2 : Int).toNat us).flatten)) hN
  refine k N _ (es ++ (List.replicate (2 : Int).toNat fs).flatten) _ (s3.trans sN) ((s3).free hN) upd_same ((ow.mono (fo_same (s3.trans sN))).app ((odAll_rep o2 _).mono (fo_same ((sL.trans sR).trans sN)))) (fun d hd => ?_) (by rw [List.length_append, lr])
  rcases List.mem_append.mp hd with hd | hd
  · exact pe d hd
  · obtain ⟨y, hy, hd⟩ := List.mem_flatten.mp hd
    rw [(List.mem_replicate.mp hy).2] at hd
    exact p2 d hd
/-- some[:4] + more * 3 -/
theorem add_more {K : PySem.W.Frag} {S : Addr → Prop} {H : Hp} {σ : L2.St} {p : PyData → Prop} {i j : Nat} {D : L2.Ends} {M N : Addr} {ws us : List V} {es fs : List PyData} (hM : σ[i]? = some (some (.ref M))) (hN : σ[j]? = some (some (.ref N))) (eM : H M = some (.lst ws)) (eN : H N = some (.lst us)) (lw : 4 ≤ ws.length) (l2 : us.length ≤ 100) (ow : OdAll K S H ws es) (ou : OdAll K S H us fs) (pe : ∀ d ∈ es, p d) (pf : ∀ d ∈ fs, p d)
    (k : ∀ R xs ds H', Same H H' → H R = none → H' R = some (.lst xs) → OdAll K S H' xs ds → (∀ d ∈ ds, p d) → xs.length = 4 + 3 * us.length → D.nx (σ.set i (some (.ref R))) H') : tAsg (tOp rCat (tSl (rSlL K) (tVar i) tNoPart (tPart (tC (.int 4)))) (tOp rRep (tVar j) (tC (.int 3)))) (gName i) D σ H := by
  have ec : cutV ws none (some ((4 : Nat) : Int)) = ws.take 4 := cut_take lw
  refine ⟨.ref M, hM, 4, rfl, M, ws, rfl, .of eM, fun T hT => ?_⟩
  rw [show (some 4 : Option Int) = some ((4 : Nat) : Int) from rfl, ec]
  have sT := same_new (o := .lst (ws.take 4)) hT
  refine ⟨.ref N, hN, N, 3, us, rfl, rfl, sT _ _ eN, by decide, by decide, Nat.le_of_lt (small1000 (by show us.length * 3 ≤ _; omega)), fun U hU => ?_⟩
  have sU := same_new (o := .lst (List.replicate (3 : Int).toNat us).flatten) hU
  have lr : ((List.replicate (3 : Int).toNat us).flatten).length = 3 * us.length := by
    rw [List.length_flatten, List.map_replicate, List.sum_replicate_nat]; rfl
  have l4 : (ws.take 4).length = 4 := by rw [List.length_take]; omega
  refine ⟨T, U, _, _, rfl, rfl, sU _ _ upd_same, upd_same, Nat.le_of_lt (small1000 (by rw [lr, l4]; omega)), fun R hR => ?_⟩
  have sR := same_new (o := .lst (ws.take 4 ++ (List.replicate (3 : Int).toNat us).flatten)) hR
  have s3 := (sT.trans sU).trans sR
  refine k R _ (es.take 4 ++ (List.replicate (3 : Int).toNat fs).flatten) _ s3 ((sT.trans sU).free hR) upd_same (((ow.take 4).mono (fo_same s3)).app ((odAll_rep ou _).mono (fo_same s3))) (fun d hd => ?_) (by rw [List.length_append, lr, l4])
  rcases List.mem_append.mp hd with hd | hd
  · exact pe d (List.mem_of_mem_take hd)
  · obtain ⟨y, hy, hd⟩ := List.mem_flatten.mp hd
    rw [(List.mem_replicate.mp hy).2] at hd
    exact pf d hd
end K63

set_option Elab.async false
set_option linter.all false
set_option maxRecDepth 100000
set_option exponentiation.threshold 20000
set_option pp.deepTerms false
set_option pp.deepTerms.threshold 8
namespace K63
open PySem PySem.Spec PyProof.Rows L2 Ly Mt
/-! ### _law_bent -/
section
variable {P : Program} {w : World} {K : PySem.W.Frag} {mg : Str → Option Value} {base : Heap}
abbrev s__law_bent : Stmt := topS 54
theorem sc__law_bent : FnScope ["store", "thing", "at", "some", "more"] ["store", "thing"] (defScope s__law_bent) := ⟨rfl, rfl, rfl, by decide +kernel, rfl, by decide +kernel, by decide +kernel⟩
def sp_bent (K : PySem.W.Frag) (n : Nat) : Sp := fun vs H Q _ => ∃ (S : Addr → Prop) (c : Addr) (v : V) (d : PyData) (L B : Nat), vs = [.ref c, v] ∧ Sto H c ∧ ¬ S c ∧ Od K S H v d ∧ d.depth < n ∧ lfD L B d = true ∧ L ≤ 5000 ∧ B ≤ 90 ∧ 10 ≤ L ∧ 10 ≤ B ∧ d.bulk ≤ 100000 ∧
  ∀ x e H', Sto H' c → But c H H' → Od K (fun a => S a ∨ H a = none) H' x e → Bent L B d e → Q x H'
theorem ok_bent0 {f : Addr} {fd : FuncData} {k : Nat} (F : Fun K "_law_bent" "_law_bent" s__law_bent f fd) : FnOk P w K mg base CX0 (k + 1) f fd ["store", "thing"] (sp_bent K 0) := by
  refine F.ok sc__law_bent (fun vs H Q E h => ?_) (fun cdv A outer s H vs Q E hr h => ?_)
  · obtain ⟨_, _, _, _, _, _, _, _, _, _, n, _⟩ := h
    exact absurd n (Nat.not_lt_zero _)
  · obtain ⟨_, _, _, _, _, _, _, _, _, _, n, _⟩ := h
    exact absurd n (Nat.not_lt_zero _)
set_option maxHeartbeats 2000000 in
theorem ok__law_bent {f : Addr} {fd : FuncData} {k : Nat} (F : Fun K "_law_bent" "_law_bent" s__law_bent f fd) (T : Tx K mg){ki d k1 : Nat} (D__law_bent : Def P w K mg base ki "_law_bent" s__law_bent ["store", "thing"] (sp_bent K d)) (hk : ki ≤ k) (D__law_pick : Def P w K mg base k1 "_law_pick" s__law_pick ["store", "many"] sp_pick) (e1 : k1 ≤ k) : FnOk P w K mg base CX0 (k + 1) f fd ["store", "thing"] (sp_bent K (d + 1)) := by
  have nd := sc__law_bent.nd
  refine F.ok sc__law_bent (fun vs H Q E h => ?_) (fun cdv A outer s H vs Q E hr h => ?_)
  · obtain ⟨_, _, _, _, _, _, rfl, _⟩ := h
    rfl
  · obtain ⟨S, c, v, t, L, B, rfl, u, nS, od, tn, lf, L5, B9, L1, B1, bk, q⟩ := h
    have nc : H c ≠ none := by
      obtain ⟨_, _, hc, _⟩ := u.ex
      rw [hc]; exact Option.some_ne_none _
    refine ⟨_, (C8.pss_cut (ps_if (PW.pt (pw_and (pt_val (pe_callB (kcall_isi K) (by rfl) T.m_isinstance (by decide +kernel) (pa_cons (pv 1) (pa_cons (pe_bltn (v := .ty "tuple") (u := .type "tuple") (by rfl) T.m_tuple (by decide +kernel) rfl) pa_nil)))) (pw_and (pt_cmpR (kop_neTup0 K hr.units) (pv 1) (pe_tup pa_nil) (nomark _)) (pw_and1 (pt_cmpR op_gt (pe_def D__law_pick (hr.mono (by omega)) rfl (pa_cons (pv 0) (pa_cons pe_int pa_nil))) pe_int (nomark _))))))
        (pss_cons (ps_set (i := 2) nd rfl (.inl rfl) (pe_def D__law_pick (hr.mono (by omega)) rfl (pa_cons (pv 0) (pa_cons (pe_callB (kcall_len K) (by rfl) T.m_len PySem.boot_len (pa_cons (pv 1) pa_nil)) pa_nil))))
        (pss_one (ps_ret (pe_op (kop_catA K) (pe_op (kop_catA K) (pe_slice (ksl_tupA K) (pv 1) po_none (po_some (pv 2))) (pe_tup (pa_cons (pe_def D__law_bent (hr.mono (by omega)) rfl (pa_cons (pv 0) (pa_cons (pe_ix (kix_tup K) (pv 1) (pv 2) (fun _ _ => rfl)) pa_nil))) pa_nil))) (pe_slice (ksl_tupA K) (pv 1) (po_some (pe_op op_add (pv 2) pe_int)) po_none)))))
        pss_nil)
      (pss_cons (ps_set (i := 3) nd rfl (.inl rfl) (pe_lstB (pa_cons pe_non (pa_cons pe_bl (pa_cons pe_bl (pa_cons pe_int (pa_cons pe_int (pa_cons (pe_un un_neg pe_int) (pa_cons pe_int (pa_cons pe_int (pa_cons pe_str (pa_cons pe_str (pa_cons pe_str (pa_cons pe_str (pa_cons (pe_tup pa_nil) (pa_cons (pe_lstB pa_nil) (pa_cons (pe_tup (pa_cons pe_int (pa_cons pe_int pa_nil))) (pa_cons (pe_tup (pa_cons pe_int (pa_cons pe_int pa_nil))) (pa_cons (pe_tup (pa_cons pe_int (pa_cons pe_int pa_nil))) (pa_cons (pe_tup (pa_cons pe_int (pa_cons (pe_un un_neg pe_int) pa_nil))) (pa_cons (pe_tup (pa_cons pe_int (pa_cons pe_int pa_nil))) (pa_cons pe_dnewK pa_nil))))))))))))))))))))))
      (C8.pss_cut (ps_if (pt_val (pe_callB (kcall_isi K) (by rfl) T.m_isinstance (by decide +kernel) (pa_cons (pv 1) (pa_cons (pe_bltn (v := .ty "tuple") (u := .type "tuple") (by rfl) T.m_tuple (by decide +kernel) rfl) pa_nil))))
        (pss_cons (ps_set (i := 4) nd rfl (.inl rfl) (pe_lstB (pa_cons (pe_callTy (kcall_listB K) (by rfl) T.m_list (by decide +kernel) (pa_cons (pv 1) pa_nil)) (pa_cons (pe_op (kop_catA K) (pv 1) (pe_slice (ksl_tt K) (pv 1) (po_some (pe_un un_neg pe_int)) po_none)) (pa_cons (pe_slice (ksl_tt K) (pv 1) po_none (po_some (pe_un un_neg pe_int))) (pa_cons (kpe_revT K (pv 1)) (pa_cons (pe_op (kop_catA K) (pv 1) (pe_tup (pa_cons pe_non pa_nil))) (pa_cons (pe_tup (pa_cons (pv 1) pa_nil)) (pa_cons (pe_slice (ksl_tt K) (pv 1) (po_some pe_int) po_none) (pa_cons (pe_op (kop_catA K) (pe_slice (ksl_tt K) (pv 1) po_none (po_some pe_int)) (pv 1)) pa_nil))))))))))
        (pss_one (ps_set (i := 3) nd rfl (.inl rfl) (pe_op op_cat (pe_slice sl_list (pv 3) po_none (po_some pe_int)) (pe_op op_rep (pv 4) pe_int)))))
        (pss_one (ps_if (pt_val (pe_callB (kcall_isi K) (by rfl) T.m_isinstance (by decide +kernel) (pa_cons (pv 1) (pa_cons (pe_bltn (v := .ty "str") (u := .type "str") (by rfl) T.m_str (by decide +kernel) rfl) pa_nil))))
          (pss_one (ps_set (i := 3) nd rfl (.inl rfl) (pe_op op_cat (pv 3) (pe_op op_rep (pe_lstB (pa_cons (pe_op op_add_str (pv 1) pe_str) (pa_cons (lpe_bm0 K PySem.F.plainAttrs_str PySem.F.slot_str_upper PySem.F.type_str_upper mt_upper (pv 1)) (pa_cons (lpe_bm0 K PySem.F.plainAttrs_str PySem.F.slot_str_lower PySem.F.type_str_lower mt_lower (pv 1)) (pa_cons (pe_slice (ksl_tt K) (pv 1) po_none (po_some (pe_un un_neg pe_int))) (pa_cons (pe_op op_add_str (pv 1) pe_str) (pa_cons (pe_op op_add_str pe_str (pv 1)) (pa_cons (pe_op op_mulT (pv 1) pe_int) (pa_cons (pe_op op_add_str (pv 1) pe_str) pa_nil))))))))) pe_int))))
          (pss_one (ps_if (pt_val (pe_callB (kcall_isi K) (by rfl) T.m_isinstance (by decide +kernel) (pa_cons (pv 1) (pa_cons (pe_bltn (v := .ty "int") (u := .type "int") (by rfl) T.m_int (by decide +kernel) rfl) pa_nil))))
            (pss_one (ps_set (i := 3) nd rfl (.inl rfl) (pe_op op_cat (pv 3) (pe_op op_rep (pe_lstB (pa_cons (pe_op op_addB (pv 1) pe_int) (pa_cons (pe_op op_subB (pv 1) pe_int) (pa_cons (pe_op op_mulC (pe_un un_neg pe_int) (pv 1)) (pa_cons (pe_cmpR (kop_eqD K hr.units) (pv 1) pe_int (nomark _)) (pa_cons (pe_callTy call_strB (by rfl) T.m_str (by decide +kernel) (pa_cons (pv 1) pa_nil)) (pa_cons (pe_op op_mulB (pv 1) pe_int) (pa_cons (pe_tup (pa_cons (pv 1) pa_nil)) (pa_cons (pe_lstB (pa_cons (pv 1) pa_nil)) (pa_cons (pe_op op_addB (pv 1) pe_int) pa_nil)))))))))) pe_int))))
            pss_nil)))))
      (pss_one (ps_ret (pe_ix (kix_list K) (pv 3) (pe_def D__law_pick (hr.mono (by omega)) rfl (pa_cons (pv 0) (pa_cons (pe_callB (kcall_len K) (by rfl) T.m_len PySem.boot_len (pa_cons (pv 3) pa_nil)) pa_nil))) (fun _ _ => rfl))))))), ?_⟩
    have fo : ∀ {H'}, But c H H' → Fo S H H' := fun b => ⟨b.tk u, fun a o s e => b _ _ (fun z => by subst z; exact nS s) e⟩
    refine ⟨fun σ' H' => σ' = [some (.ref c), some v, none, none, none] ∧ Sto H' c ∧ But c H H', ?_, ?_⟩
    · refine ⟨v, rfl, v, _, .type (tyName t), _, jTup t, rfl, .ty _, od_ty od, kit_ty (kit_tup t), jTup t, rfl, ?_⟩
      rcases od.tup_or with ⟨a, xs, ds, rfl, rfl, ha, hx⟩ | n
      rotate_left
      · rw [n]
        exact iteF ⟨rfl, u, .refl _ _⟩
      have lx := hx.len
      refine iteT ⟨.ref a, rfl, by show 0 ≤ sizeLine; decide, fun e he => ?_⟩
      have s1 := same_new (o := .tup []) he
      refine ⟨a, e, xs, rfl, rfl, (ha.mono (tk_same s1)).sq, ITup.sq (.inl upd_same), _, rfl, ?_⟩
      have u1 := u.same s1
      have b1 := but_same (w := c) s1
      generalize upd H e (.tup []) = H1 at *
      by_cases hxs : xs = []
      · rw [decide_eq_true hxs]
        exact iteF ⟨rfl, u1, b1⟩
      rw [decide_eq_false hxs]
      refine iteT ⟨.ref c, rfl, c, 5, rfl, u1, by decide, fun t1 H2 ht u2 b2 => ⟨_, _, rfl, rfl, _, rfl, ?_⟩⟩
      have b12 := b1.trans b2
      by_cases h0 : ((t1 : Nat) : Int) > 0
      rotate_left
      · rw [decide_eq_false h0]
        exact iteF ⟨rfl, u2, b12⟩
      rw [decide_eq_true h0]
      have ha2 := ha.mono (b12.tk u)
      have l0 : xs.length ≠ 0 := fun z => hxs (List.eq_nil_of_length_eq_zero z)
      refine iteT ⟨.ref c, rfl, .ref a, rfl, a, xs, rfl, .inr ha2.sq, c, (xs.length : Nat), rfl, u2, by omega, fun i H3 hi u3 b3 => ?_⟩
      have b13 := b12.trans b3
      have ha3 := ha.mono (b13.tk u)
      have hx3 := hx.mono (fo b13)
      have il : i < ds.length := by omega
      obtain ⟨di, hdi⟩ : ∃ di, ds[i]? = some di := ⟨_, List.getElem?_eq_getElem il⟩
      obtain ⟨xi, hxi, odi⟩ := hx3.get hdi
      have dall : PyData.depthAll ds < d := by
        have : PyData.depthAll ds + 1 < d + 1 := tn
        omega
      have lfs : lfDs L B ds = true := lf
      have bks : PyData.bulkAll ds ≤ 100000 := bk
      have bat := bulkAll_at hdi
      have hdm := List.mem_of_getElem? hdi
      have ddi : di.depth ≤ PyData.depthAll ds := depthAll_le.mp (Nat.le_refl _) di hdm
      have lds : ds.length ≤ PyData.bulkAll ds := len_bulk ds
      have big : ∀ n : Nat, n ≤ 1000000 → n ≤ sizeLine := fun n h => Nat.le_trans h (by decide)
      refine ⟨.ref a, rfl, .int (i : Nat), rfl, (i : Nat), rfl, sl_any ha3 fun p1 H4 s4 hp1 => ?_⟩
      rw [cut_take (n := i) (by omega)] at hp1
      have u4 := u3.same s4
      have b14 := b13.trans (but_same s4)
      have ha4 := ha3.mono (tk_same s4)
      refine ⟨.ref c, rfl, .ref a, rfl, .int (i : Nat), rfl, a, xs, (i : Nat), xi, rfl, rfl, ha4.sq, atI_nat hxi, S, c, xi, di, L, B, rfl, u4, nS, odi.mono (fo_same s4), by omega, lfDs_iff.mp lfs di hdm, L5, B9, L1, B1, by omega, fun x e H5 u5 b5 o5 be => ⟨by show 1 ≤ sizeLine; decide, fun p2 hp2 => ?_⟩⟩
      have b15 := b14.trans b5
      have s6 := same_new (o := .tup [x]) hp2
      refine cat_bigO (hp1.mono ((b5.tk u4).trans (tk_same s6))) (.inl upd_same) (big _ (by rw [List.length_take]; show _ + 1 ≤ _; omega)) fun p3 H6 s6' hp3 => ?_
      have s56 := s6.trans s6'
      have b16 := b15.trans (but_same s56)
      have ha6 := ha.mono (b16.tk u)
      refine ⟨.ref a, rfl, .int (i : Nat), rfl, _, _, rfl, rfl, (i : Int) + 1, rfl, ?_⟩
      unfold tNoPart
      dsimp only
      rw [show (i : Int) + 1 = ((i + 1 : Nat) : Int) by omega]
      refine sl_any ha6 fun p4 H7 s7 hp4 => ?_
      rw [cut_from (n := i + 1) (by omega)] at hp4
      refine cat_bigO (hp3.mono (tk_same s7)) hp4 (big _ (by rw [List.length_append, List.length_take, List.length_drop]; show _ + 1 + _ ≤ _; omega)) fun p5 H8 s8 hp5 => ?_
      have s78 := s7.trans s8
      have b18 := b16.trans (but_same s78)
      have o8 : OdAll K (fun a => S a ∨ H a = none) H8 (xs.take i ++ [x] ++ xs.drop (i + 1)) (ds.take i ++ [e] ++ ds.drop (i + 1)) := by
        have hx8 : OdAll K (fun a => S a ∨ H a = none) H8 xs ds := odAll_sub (fun a h => .inl h) (hx.mono (fo b18))
        have hN : ∀ a, H4 a = none → H a = none := fun a h => by
          cases e : H a with
          | none => rfl
          | some o =>
            by_cases z : a = c
            · subst z
              obtain ⟨_, _, h2, _⟩ := u4.ex
              rw [h2] at h; cases h
            · rw [b14 _ _ z e] at h; cases h
        have oe : Od K (fun a => S a ∨ H a = none) H8 x e := od_sub (fun a h => h.imp id (hN a)) (o5.mono (fo_same (s56.trans s78)))
        exact ((hx8.take i).snoc oe).app (hx8.drop (i + 1))
      refine q _ (.tuple (ds.take i ++ [e] ++ ds.drop (i + 1))) H8 ((u5.same s56).same s78) b18 (.tup hp5 o8) ⟨?_⟩
      obtain ⟨bl, bd, bb⟩ := be.bn
      have e1 : (PyData.tuple ds).depth = PyData.depthAll ds + 1 := rfl
      have e2 : (PyData.tuple ds).bulk = PyData.bulkAll ds := rfl
      rw [e1, e2]
      refine bn_tup.mpr ⟨lfDs_iff.mpr fun y hy => ?_, depthAll_le.mpr fun y hy => ?_, ?_⟩
      · rw [List.mem_append, List.mem_append, List.mem_singleton] at hy
        rcases hy with (hy | rfl) | hy
        · exact lfD_mono (by omega) (by omega) (lfDs_iff.mp lfs y (List.mem_of_mem_take hy))
        · exact bl
        · exact lfD_mono (by omega) (by omega) (lfDs_iff.mp lfs y (List.mem_of_mem_drop hy))
      · rw [List.mem_append, List.mem_append, List.mem_singleton] at hy
        rcases hy with (hy | rfl) | hy
        · have := depthAll_le.mp (Nat.le_refl _) y (List.mem_of_mem_take hy); omega
        · omega
        · have := depthAll_le.mp (Nat.le_refl _) y (List.mem_of_mem_drop hy); omega
      · rw [bulkAll_app, bulkAll_app]
        have e3 : PyData.bulkAll [e] = e.bulk + 1 + 0 := rfl
        omega
    · rintro σ' H1 ⟨rfl, u1, b1⟩
      have od1 := od.mono (fo b1)
      have hN : ∀ a, H1 a = none → H a = none := fun a h => by
        cases e : H a with
        | none => rfl
        | some o =>
          by_cases z : a = c
          · subst z
            obtain ⟨_, _, h2, _⟩ := u1.ex
            rw [h2] at h; cases h
          · rw [b1 _ _ z e] at h; cases h
      have hS : ∀ a, H1 a = none → (fun a => S a ∨ H a = none) a := fun a h => .inr (hN a h)
      have od1' : Od K (fun a => S a ∨ H a = none) H1 v t := od_sub (fun a h => .inl h) od1
      generalize hS' : (fun a => S a ∨ H a = none) = S' at *
      have sb : ∀ e, Bn 10 10 1 20 e → Bent L B t e := fun e h => small_bent B1 h
      have sm0 : ∀ i : Int, i.natAbs < 100 → SmI i := fun i h => Nat.lt_of_lt_of_le h (by decide)
      -- the twenty things
      refine set_lstB (K := K) (p := Bent L B t) (n := 20) (S := S') (gda_cons (gd_non (sb _ ⟨rfl, by decide, by decide⟩)) (gda_cons (gd_bl true (sb _ ⟨rfl, by decide, by decide⟩)) (gda_cons (gd_bl false (sb _ ⟨rfl, by decide, by decide⟩)) (gda_cons (gd_int 0 (sm0 _ (by decide)) (sb _ ⟨by decide, by decide, by decide⟩)) (gda_cons (gd_int 1 (sm0 _ (by decide)) (sb _ ⟨by decide, by decide, by decide⟩)) (gda_cons (gd_neg 1 (sm0 _ (by decide)) (sb _ ⟨by decide, by decide, by decide⟩)) (gda_cons (gd_int 2 (sm0 _ (by decide)) (sb _ ⟨by decide, by decide, by decide⟩)) (gda_cons (gd_int 17 (sm0 _ (by decide)) (sb _ ⟨by decide, by decide, by decide⟩)) (gda_cons (gd_str "" (by decide) (sb _ ⟨by decide, by decide, by decide⟩)) (gda_cons (gd_str "number" (by decide) (sb _ ⟨by decide, by decide, by decide⟩)) (gda_cons (gd_str "A" (by decide) (sb _ ⟨by decide, by decide, by decide⟩)) (gda_cons (gd_str "f" (by decide) (sb _ ⟨by decide, by decide, by decide⟩)) (gda_cons (gd_tup0 (sb _ ⟨rfl, by decide, by decide⟩)) (gda_cons (gd_lst0 hS (sb _ ⟨rfl, by decide, by decide⟩)) (gda_cons (gd_pair 0 1 (sm0 _ (by decide)) (sm0 _ (by decide)) (sb _ ⟨by decide, by decide, by decide⟩)) (gda_cons (gd_pair 1 1 (sm0 _ (by decide)) (sm0 _ (by decide)) (sb _ ⟨by decide, by decide, by decide⟩)) (gda_cons (gd_pair 2 4 (sm0 _ (by decide)) (sm0 _ (by decide)) (sb _ ⟨by decide, by decide, by decide⟩)) (gda_cons (gd_pairN 1 1 (sm0 _ (by decide)) (sm0 _ (by decide)) (sb _ ⟨by decide, by decide, by decide⟩)) (gda_cons (gd_pair 0 2 (sm0 _ (by decide)) (sm0 _ (by decide)) (sb _ ⟨by decide, by decide, by decide⟩)) (gda_cons (gd_dic0 hS (sb _ ⟨rfl, by decide, by decide⟩)) gda_nil)))))))))))))))))))) (Same.refl _) (by decide) fun ws es H2 M s2 ows pes l20 hM _ => ?_
      have sM := same_new (o := .lst ws) hM
      have s12 := s2.trans sM
      have u2 := u1.same s12
      have b2 := b1.trans (but_same s12)
      have ows2 := ows.mono (fo_same (S := S') sM)
      have od2 := od1'.mono (fo_same s12)
      have eM : (upd H2 M (.lst ws)) M = some (.lst ws) := upd_same
      generalize upd H2 M (.lst ws) = H3 at *
      have nS' : ¬ S' c := by
        rw [← hS']
        rintro (z | z)
        · exact nS z
        · exact nc z
      have hS3 : ∀ a, H3 a = none → S' a := fun a h => hS a (s12.free h)
      have nMc : M ≠ c := u1.same s2 |>.ne hM
      refine ⟨fun σ' H' => ∃ (N : Addr) (xs : List V) (ds : List PyData) (y4 : Option V), σ' = [some (.ref c), some v, none, some (.ref N), y4] ∧ Sto H' c ∧ But c H H' ∧ N ≠ c ∧ H' N = some (.lst xs) ∧ OdAll K S' H' xs ds ∧ (∀ d ∈ ds, Bent L B t d) ∧ 1 ≤ xs.length ∧ xs.length ≤ 1000, ?_, ?_⟩
      rotate_left
      · rintro σ' H4 ⟨N, xs, ds, y4, rfl, u4, b4, nN, eN, oxs, pds, x1, x1000⟩
        refine ⟨.ref N, rfl, .ref c, rfl, .ref N, rfl, N, xs, rfl, .inl (.of eN), c, (xs.length : Nat), rfl, u4, by omega, fun i H5 hi u5 b5 => ?_⟩
        obtain ⟨x, hx⟩ : ∃ x, xs[i]? = some x := ⟨_, List.getElem?_eq_getElem (by omega)⟩
        obtain ⟨e, he, oe⟩ := oxs.getV hx
        refine ⟨N, xs, (i : Nat), x, rfl, rfl, .of (b5 _ _ nN eN), atI_nat hx, q x e H5 u5 (b4.trans b5) (oe.mono ⟨b5.tk u4, fun a o s e => b5 _ _ (fun z => by subst z; exact nS' s) e⟩) (pds e (List.mem_of_getElem? he))⟩
      have done : ∀ (N : Addr) (xs : List V) (ds : List PyData) (H' : Hp) (y4 : Option V), Same H3 H' → N ≠ c → H' N = some (.lst xs) → OdAll K S' H' xs ds → (∀ d ∈ ds, Bent L B t d) → 1 ≤ xs.length → xs.length ≤ 1000 →
          ∃ (N' : Addr) (xs : List V) (ds : List PyData) (y4' : Option V), [some (.ref c), some v, none, some (.ref N), y4] = [some (.ref c), some v, none, some (.ref N'), y4'] ∧ Sto H' c ∧ But c H H' ∧ N' ≠ c ∧ H' N' = some (.lst xs) ∧ OdAll K S' H' xs ds ∧ (∀ d ∈ ds, Bent L B t d) ∧ 1 ≤ xs.length ∧ xs.length ≤ 1000 := fun N xs ds H' y4 s hN eN o p l1 l2 =>
        ⟨N, xs, ds, y4, rfl, u2.same s, b2.trans (but_same s), hN, eN, o, p, l1, l2⟩
      refine ⟨v, rfl, v, _, .type (tyName t), _, jTup t, rfl, .ty _, od_ty od2, kit_ty (kit_tup t), jTup t, rfl, ?_⟩
      rcases od2.tup_or with ⟨a, xs, ds, rfl, rfl, ha, hx⟩ | n
      · have lds := len_bulk ds
        have bks : PyData.bulkAll ds ≤ 100000 := bk
        have lfs : lfDs L B ds = true := lf
        have e1 : (PyData.tuple ds).depth = PyData.depthAll ds + 1 := rfl
        have e2 : (PyData.tuple ds).bulk = PyData.bulkAll ds := rfl
        have okT : OkT ds (Bent L B (.tuple ds)) := by
          refine ⟨by omega, fun es hes hb => ⟨?_⟩, ⟨?_⟩, ⟨?_⟩⟩
          · rw [e1, e2]
            refine bn_tup.mpr ⟨lfDs_iff.mpr fun y hy => ?_, depthAll_le.mpr fun y hy => ?_, by omega⟩
            · rcases hes y hy with h | rfl
              · exact lfD_mono (by omega) (by omega) (lfDs_iff.mp lfs y h)
              · rfl
            · rcases hes y hy with h | rfl
              · have := depthAll_le.mp (Nat.le_refl _) y h; omega
              · exact Nat.zero_le _
          · rw [e1, e2]
            exact ⟨lfDs_mono (by omega) (by omega) lfs, by show PyData.depthAll ds + 1 ≤ _; omega, by show PyData.bulkAll ds ≤ _; omega⟩
          · rw [e1, e2]
            refine bn_tup.mpr ⟨lfDs_iff.mpr fun y hy => ?_, depthAll_le.mpr fun y hy => ?_, ?_⟩
            · rw [List.mem_singleton.mp hy]
              exact lfD_mono (d := .tuple ds) (by omega) (by omega) lf
            · rw [List.mem_singleton.mp hy, e1]; omega
            · show PyData.bulkAll ds + 1 + 0 ≤ _; omega
        have hv : ([some (.ref c), some (.ref a), none, some (.ref M), none] : L2.St)[1]? = some (some (.ref a)) := rfl
        refine iteT ?_
        refine set_lstB (K := K) (p := Bent L B (.tuple ds)) (n := 8) (S := S') (gda_cons (gt_list hv ha hx okT hS3) (gda_cons (gt_last hv ha hx okT) (gda_cons (gt_init hv ha hx okT) (gda_cons (gt_rev hv ha hx okT) (gda_cons (gt_none hv ha hx okT) (gda_cons (gt_one hv ha hx okT) (gda_cons (gt_tail hv ha hx okT) (gda_cons (gt_head hv ha hx okT) gda_nil)))))))) (Same.refl _) (by decide) fun us fs H4 N s4 ous pfs l8 hN _ => ?_
        have sN := same_new (o := .lst us) hN
        have s34 := s4.trans sN
        exact add_more (p := Bent L B (.tuple ds)) (i := 3) (j := 4) rfl rfl (s34 _ _ eM) upd_same (by omega) (by omega) (ows2.mono (fo_same s34)) (ous.mono (fo_same sN)) pes pfs fun R xs' ds' H' s' hR eR o' p' l' => done R xs' ds' H' _ (s34.trans s') (u2.ne (s34.free hR)) eR o' p' (by omega) (by omega)
      · rw [n]
        refine iteF ?_
        have nT : v = v := rfl
        refine ⟨v, rfl, v, _, .type (tyName t), _, jStr t, rfl, .ty _, od_ty od2, kit_ty (kit_str t), jStr t, rfl, ?_⟩
        rcases od2.str_or with ⟨z, rfl, rfl, lz⟩ | n2
        · have lf' : (decide (z.length ≤ L) && z.cps.toList.all fun c => decide (c < 128)) = true := lf
          rw [Bool.and_eq_true, decide_eq_true_iff] at lf'
          have pl : ∀ c ∈ z.cps.toList, c < 128 := fun c hc => of_decide_eq_true (List.all_eq_true.mp lf'.2 c hc)
          have zb : (PyData.str z).bulk = z.length := rfl
          have okS : ∀ y : Str, y.length ≤ 11 * z.length + 2 → (∀ c ∈ y.cps.toList, c < 128) → Bent L B (.str z) (.str y) := fun y hy hp => ⟨⟨by
            show (decide (y.length ≤ _) && y.cps.toList.all fun c => decide (c < 128)) = true
            rw [decide_eq_true (by omega), Bool.true_and]
            exact List.all_eq_true.mpr fun c hc => decide_eq_true (hp c hc), Nat.zero_le _, by show y.length ≤ _; rw [zb]; omega⟩⟩
          have hv : ([some (.ref c), some (.str z), none, some (.ref M), none] : L2.St)[1]? = some (some (.str z)) := rfl
          have l5 : z.length ≤ 5000 := by omega
          refine iteT ?_
          exact add_lstB (K := K) (S := S') (p := Bent L B (.str z)) (n := 8) (i := 3) (gda_cons (gs_addR hv l5 okS pl "x" (by decide) (by decide)) (gda_cons (gs_upper hv l5 okS pl) (gda_cons (gs_lower hv l5 okS pl) (gda_cons (gs_init hv l5 okS pl) (gda_cons (gs_addR hv l5 okS pl " " (by decide) (by decide)) (gda_cons (gs_addL hv l5 okS pl "9" (by decide) (by decide)) (gda_cons (gs_times hv l5 okS pl) (gda_cons (gs_addR hv l5 okS pl "_" (by decide) (by decide)) gda_nil)))))))) (Same.refl _) (by decide) rfl eM (by omega) ows2 pes fun N xs' ds' H' s' hN eN o' p' l' => done N xs' ds' H' _ s' (u2.ne hN) eN o' p' (by omega) (by omega)
        · rw [n2]
          refine iteF ?_
          refine ⟨v, rfl, v, _, .type (tyName t), _, jIntB t, rfl, .ty _, od_ty od2, kit_ty (kit_int t), jIntB t, rfl, ?_⟩
          cases h3 : jIntB t with
          | false =>
            refine iteF ?_
            exact done M ws es H3 _ (Same.refl _) nMc eM ows2 pes (by omega) (by omega)
          | true =>
            obtain ⟨n, hn, nb⟩ : ∃ n, numV v = some n ∧ n.natAbs < 2 ^ B := by
              cases od2 <;> first | (cases h3; done) | skip
              · rename_i b
                refine ⟨_, rfl, ?_⟩
                have : 1 < 2 ^ B := Nat.one_lt_two_pow (by omega)
                cases b <;> (show (_ : Nat) < _; omega)
              · exact ⟨_, rfl, of_decide_eq_true lf⟩
            have hv : ([some (.ref c), some v, none, some (.ref M), none] : L2.St)[1]? = some (some v) := rfl
            have okI : ∀ i : Int, i.natAbs < 2 ^ (B + 2) → Bent L B t (.int i) := fun i hi => ⟨⟨decide_eq_true hi, Nat.zero_le _, Nat.zero_le _⟩⟩
            have okb : ∀ b, Bent L B t (.bool b) := fun b => ⟨⟨rfl, Nat.zero_le _, Nat.zero_le _⟩⟩
            have oks : ∀ y : Str, y.length ≤ B + 5 → (∀ c ∈ y.cps.toList, c < 128) → Bent L B t (.str y) := fun y hy hp => ⟨⟨by
              show (decide (y.length ≤ _) && y.cps.toList.all fun c => decide (c < 128)) = true
              rw [decide_eq_true (by omega), Bool.true_and]
              exact List.all_eq_true.mpr fun c hc => decide_eq_true (hp c hc), Nat.zero_le _, by show y.length ≤ _; omega⟩⟩
            have ok1 : Bent L B t (.tuple [t]) := ⟨bn_tup.mpr ⟨by show (lfD _ _ t && true) = true; rw [lfD_mono (by omega) (by omega) lf]; rfl, by show max t.depth 0 ≤ _; omega, by show t.bulk + 1 + 0 ≤ _; omega⟩⟩
            have ok2 : Bent L B t (.list [t]) := ⟨⟨by show (lfD _ _ t && true) = true; rw [lfD_mono (by omega) (by omega) lf]; rfl, by show max t.depth 0 + 1 ≤ _; omega, by show t.bulk + 1 + 0 ≤ _; omega⟩⟩
            refine iteT ?_
            exact add_lstB (K := K) (S := S') (p := Bent L B t) (n := 9) (i := 3) (gda_cons (gi_add hv hn B9 B1 nb okI 1 (by decide)) (gda_cons (gi_sub hv hn B9 B1 nb okI) (gda_cons (gi_neg hv hn B9 B1 nb okI) (gda_cons (gi_eq hv hn B9 B1 nb okI okb) (gda_cons (gi_str hv hn B9 B1 nb okI oks) (gda_cons (gi_dbl hv hn B9 B1 nb okI) (gda_cons (g_one hv od2 ok1) (gda_cons (g_lst hv od2 hS3 ok2) (gda_cons (gi_add hv hn B9 B1 nb okI 2 (by decide)) gda_nil))))))))) (Same.refl _) (by decide) rfl eM (by omega) ows2 pes fun N xs' ds' H' s' hN eN o' p' l' => done N xs' ds' H' _ s' (u2.ne hN) eN o' p' (by omega) (by omega)
end
end K63

set_option Elab.async false
set_option linter.all false
set_option maxRecDepth 100000
/-! one sign, so many times -/
namespace Ly
open PySem PySem.Spec PyProof.Rows L2
def rMulS : R2 := fun x y H Q => ∃ (c : Nat) (n : Int), x = .str ⟨#[c]⟩ ∧ y = .int n ∧ 1 ≤ n ∧ n ≤ 1000 ∧ Q (.str ⟨(List.replicate n.toNat c).toArray⟩) H
theorem foldl_sign (c : Nat) : ∀ (n : Nat) (a : Array Nat), (List.replicate n #[c]).foldl (· ++ ·) a = a ++ (List.replicate n c).toArray
  | 0, a => by simp
  | n + 1, a => by
    rw [List.replicate_succ, List.foldl_cons, foldl_sign c n, List.replicate_succ, Array.append_assoc]
    congr 1
    simp
theorem op_mulS {X : Cx} : OpR X (binaryOp .Mult) rMulS := by
  intro pins s σ H x y v u Q I rx ry h
  obtain ⟨c, n, rfl, rfl, h1, h2, q⟩ := h
  obtain ⟨t, rfl⟩ := rx
  obtain ⟨t', rfl⟩ := ry
  have f0 : ¬ n < 1 := by omega
  have lc : (⟨#[c]⟩ : Str).length = 1 := rfl
  refine P.mul_str (by
    rw [decide_eq_false (show ¬ n < -(2 ^ 63) by omega), decide_eq_false (show ¬ n ≥ 2 ^ 63 by omega)]; rfl) (fun _ _ => ?_) (fun _ _ => ?_) ?_
  · rw [lc]
    intro z
    have := Int.lt_mul_of_ediv_lt (by omega) z
    omega
  · rw [lc]
    unfold Builtin.Str.tooLong
    rw [decide_eq_false]
    have : n.toNat ≤ 1000 := by omega
    have h3 : 1000 ≤ sizeLine := by decide
    omega
  · rw [if_neg f0]
    have e : (⟨(List.replicate n.toNat #[c]).foldl (· ++ ·) #[]⟩ : Str) = ⟨(List.replicate n.toNat c).toArray⟩ := by
      rw [foldl_sign]; simp
    split
    · next hh =>
      have n1 : n = 1 := by
        rw [lc] at hh
        simpa using hh
      subst n1
      exact ⟨.str ⟨#[c]⟩, H, I, ⟨_, rfl⟩, q⟩
    · refine ⟨?_, ?_⟩
      · rw [show (⟨(List.replicate n.toNat (⟨#[c]⟩ : Str).cps).foldl (· ++ ·) #[]⟩ : Str) = ⟨(List.replicate n.toNat c).toArray⟩ from e]
        show (List.replicate n.toNat c).toArray.size ≤ sizeLine
        simp only [List.size_toArray, List.length_replicate]
        have h3 : 1000 ≤ sizeLine := by decide
        omega
      · exact ⟨.str _, H, I.tok _, ⟨_, rfl⟩, by rw [e]; exact q⟩
end Ly

set_option Elab.async false
set_option linter.all false
set_option maxRecDepth 100000
set_option exponentiation.threshold 20000
set_option pp.deepTerms false
set_option pp.deepTerms.threshold 8
namespace K63
open PySem PySem.Spec PyProof.Rows L2 Ly Mt
/-! ### the kinds that are drawn -/
def namesS (d : Nat) : List Str := ([["A", "B", "C"], ["Tree", "Forest", "T"], ["K", "KK", "KKK"], ["X1z", "X2z", "X3z"]] : List (List Str)).getD d []
def titleS (s n : Nat) : Str := if s = 0 then ⟨#[77, 48 + n]⟩ else if s = 1 then ⟨#[65 + n]⟩ else ⟨(List.replicate (n + 1) 81).toArray⟩
def nameB (z : Str) : Bool := decide (1 ≤ z.length) && (decide (z.length ≤ 10) && (decide (z ≠ "fun") && (decide (z ≠ "kind") && (decide (z ≠ "number") && ((match z.cps[0]? with | some c => !digC c | none => false) && z.cps.toList.all (fun c => lowC c || highC c || digC c))))))
theorem nameB_ok {z : Str} (h : nameB z = true) : NameOk z := by
  unfold nameB at h
  simp only [Bool.and_eq_true, decide_eq_true_eq] at h
  obtain ⟨h1, h2, h3, h4, h5, h6, h7⟩ := h
  refine ⟨⟨h1, h2⟩, ⟨h3, h4, h5⟩, ?_, fun c hc => List.all_eq_true.mp h7 c hc⟩
  split at h6
  · next c e => exact ⟨c, e, by simpa using h6⟩
  · simp at h6
def highB (z : Str) : Bool := nameB z && (match z.cps[0]? with | some c => highC c | none => false)
theorem highB_ok {z : Str} (h : highB z = true) : High z := by
  unfold highB at h
  rw [Bool.and_eq_true] at h
  refine ⟨nameB_ok h.1, ?_⟩
  have h2 := h.2
  split at h2
  · next c e => exact ⟨c, e, h2⟩
  · simp at h2
theorem titles_high : ∀ s < 3, ∀ n < 9, highB (titleS s n) = true := by decide +kernel
theorem titles_inj : ∀ s < 3, ∀ n < 9, ∀ m < 9, titleS s n = titleS s m → n = m := by decide +kernel
theorem titles_nd : ∀ s < 3, ∀ i < 3, ∀ t < 4, ((List.range t).map fun m => titleS s (3 * i + m)).Nodup := by decide +kernel
theorem names_high : ∀ d < 4, ∀ z ∈ namesS d, highB z = true := by decide +kernel
theorem names_nd : ∀ d < 4, (namesS d).Nodup := by decide +kernel
theorem names_len : ∀ d < 4, (namesS d).length = 3 := by decide +kernel
theorem names_num : ∀ d < 4, ("number" : Str) ∉ namesS d := by decide +kernel
theorem title0 : ∀ n < 9, ("M" : Str) ++ (toString ((n : Nat) : Int) : Str) = titleS 0 n := by decide +kernel
theorem title1 : ∀ n < 9, atI ("ABCDEFGHI" : Str).cps.toList ((n : Nat) : Int) = some (65 + n) := by decide +kernel
theorem ImAll.app {K : PySem.W.Frag} {H : Hp} : ∀ {xs ys : List V} {ds es : List PyData}, ImAll K H xs ds → ImAll K H ys es → ImAll K H (xs ++ ys) (ds ++ es)
  | [], _, [], _, _, h => h
  | x :: xs, _, d :: ds, _, .cons a r, h => .cons a (ImAll.app r h)
theorem cat_big {K : PySem.W.Frag} {a b : Addr} {xs ys : List V} {H : Hp} {Q : VK} (h : ITup K H a xs) (h2 : ITup K H b ys) (hz : xs.length + ys.length ≤ 8000) (q : ∀ p H', Same H H' → ITup K H' p (xs ++ ys) → Q (.ref p) H') : rCatA K (.ref a) (.ref b) H Q := by
  refine ⟨a, b, xs, ys, rfl, rfl, h.sq, h2.sq, Nat.le_trans hz (by decide), fun e => q b H (Same.refl H) (by rw [e]; exact h2), fun _ e => q a H (Same.refl H) (by rw [e, List.append_nil]; exact h), fun _ _ p hp => q p _ (same_new hp) (.inl upd_same)⟩
structure MkUp (ns : List Str) (most : Nat) (mk : Mk) : Prop where
  few : mk.2.length ≤ most
  fld : ∀ f ∈ mk.2, f = ("number" : Str) ∨ f ∈ ns
structure KsUp (s : Nat) (ns : List Str) (most i : Nat) (ks : List Kd) : Prop where
  len : ks.length = i
  nm : ks.map (·.1) = ns.take i
  mks : ∀ k ∈ ks, 1 ≤ k.2.length ∧ k.2.length ≤ 3
  mkk : ∀ k ∈ ks, ∀ m ∈ k.2, MkUp ns most m
  ttl : ∀ m ∈ allMk ks, ∃ n, n < 3 * i ∧ m.1 = titleS s n
  ndm : ((allMk ks).map (·.1)).Nodup
  leaf : ∀ kd, ks[0]? = some kd → ∃ m ∈ kd.2, ∀ f ∈ m.2, f = ("number" : Str)
theorem KsUp.snoc {s : Nat} {ns : List Str} {most i : Nat} {ks : List Kd} (s3 : s < 3) (i3 : i < 3) (h : KsUp s ns most i ks) {z : Str} (hz : ns[i]? = some z) {mks : List Mk} (t1 : 1 ≤ mks.length) (t3 : mks.length ≤ 3) (hm : ∀ m ∈ mks, MkUp ns most m) (hn : mks.map (·.1) = (List.range mks.length).map fun m => titleS s (3 * i + m)) (hl : i = 0 → ∃ m ∈ mks, ∀ f ∈ m.2, f = ("number" : Str)) : KsUp s ns most (i + 1) (ks ++ [(z, mks)]) := by
  have ea : allMk (ks ++ [(z, mks)]) = allMk ks ++ mks := by
    unfold allMk
    rw [List.flatMap_append, List.flatMap_cons, List.flatMap_nil, List.append_nil]
  have tt : ∀ m ∈ mks, ∃ n, n < 3 ∧ m.1 = titleS s (3 * i + n) := fun m hm => by
    have : m.1 ∈ mks.map (·.1) := List.mem_map.mpr ⟨m, hm, rfl⟩
    rw [hn] at this
    obtain ⟨n, h1, h2⟩ := List.mem_map.mp this
    exact ⟨n, by have := List.mem_range.mp h1; omega, h2.symm⟩
  refine ⟨by rw [List.length_append, h.len]; rfl, ?_, fun k hk => ?_, fun k hk => ?_, fun m hm' => ?_, ?_, fun kd hk => ?_⟩
  · rw [List.map_append, h.nm, List.take_add_one, hz]; rfl
  · rcases List.mem_append.mp hk with hk | hk
    · exact h.mks k hk
    · rw [List.mem_singleton.mp hk]; exact ⟨t1, t3⟩
  · rcases List.mem_append.mp hk with hk | hk
    · exact h.mkk k hk
    · rw [List.mem_singleton.mp hk]; exact hm
  · rw [ea] at hm'
    rcases List.mem_append.mp hm' with hm' | hm'
    · obtain ⟨n, h1, h2⟩ := h.ttl m hm'
      exact ⟨n, by omega, h2⟩
    · obtain ⟨n, h1, h2⟩ := tt m hm'
      exact ⟨3 * i + n, by omega, h2⟩
  · rw [ea, List.map_append, List.nodup_append]
    refine ⟨h.ndm, by rw [hn]; exact titles_nd s s3 i i3 _ (by omega), fun a ha b hb e => ?_⟩
    obtain ⟨m, hm1, rfl⟩ := List.mem_map.mp ha
    obtain ⟨m', hm2, rfl⟩ := List.mem_map.mp hb
    obtain ⟨n, h1, h2⟩ := h.ttl m hm1
    obtain ⟨n', h3, h4⟩ := tt m' hm2
    rw [h2, h4] at e
    have := titles_inj s s3 n (by omega) (3 * i + n') (by omega) e
    omega
  · by_cases i0 : i = 0
    · subst i0
      obtain rfl := List.eq_nil_of_length_eq_zero h.len
      obtain rfl := Option.some.inj hk
      exact hl rfl
    · rw [List.getElem?_append_left (by rw [h.len]; omega)] at hk
      exact h.leaf kd hk
/-- the kinds as they are drawn -/
structure SmallK (most : Nat) (ks : List Kd) : Prop where
  k3 : ks.length ≤ 3
  mks : ∀ k ∈ ks, k.2.length ≤ 3
  fld : ∀ k ∈ ks, ∀ m ∈ k.2, m.2.length ≤ most
  leaf : ∀ kd, ks[0]? = some kd → ∃ m ∈ kd.2, ∀ f ∈ m.2, f = ("number" : Str)
theorem KsUp.ok {s d most n : Nat} {ks : List Kd} (s3 : s < 3) (d4 : d < 4) (m4 : most ≤ 4) (n1 : 1 ≤ n) (n3 : n ≤ 3) (h : KsUp s ((namesS d).take n) most n ks) : KindsOk ks ∧ SmallK most ks := by
  have nl := names_len d d4
  have en : ks.map (·.1) = (namesS d).take n := by rw [h.nm, List.take_take, Nat.min_self]
  refine ⟨⟨by have := h.len; omega, fun k hk => ?_, fun k hk => by have := h.mks k hk; omega, fun k hk m hm => ⟨?_, ?_⟩, ?_, h.ndm, fun k hk m hm f hf => ?_⟩, by have := h.len; omega, fun k hk => (h.mks k hk).2, fun k hk m hm => (h.mkk k hk m hm).few, h.leaf⟩
  · have : k.1 ∈ ks.map (·.1) := List.mem_map.mpr ⟨k, hk, rfl⟩
    rw [en] at this
    exact highB_ok (names_high d d4 _ (List.mem_of_mem_take this))
  · obtain ⟨n', h1, h2⟩ := h.ttl m (List.mem_flatMap.mpr ⟨k, hk, hm⟩)
    rw [h2]
    exact highB_ok (titles_high s s3 n' (by omega))
  · have := (h.mkk k hk m hm).few
    omega
  · rw [en]
    exact (names_nd d d4).sublist (List.take_sublist _ _)
  · rw [en]
    exact (h.mkk k hk m hm).fld f hf
theorem KsUp.nil (s : Nat) (ns : List Str) (most : Nat) : KsUp s ns most 0 [] := ⟨rfl, rfl, fun k hk => by simp at hk, fun k hk => by simp at hk, fun m hm => by simp [allMk] at hm, .nil, fun kd hk => by simp at hk⟩
end K63

set_option Elab.async false
set_option linter.all false
set_option maxRecDepth 100000
/-! sorted of a list of pairs whose first is an int of its own, whose second is any object -/
namespace SrtO
open PySem PySem.W PySem.Calls PyProof.Rows Srt
section
variable {prog : Program} {w : World} {A : Around} {E : Value → Shared → Prop} {s : Shared}
/-- a pair of an int and an object -/
def IsKey (h : Heap) (v : Value) (x : Int) : Prop := ∃ a o t b n, v = .ref a ∧ h.get? a = some o ∧ o.cls = .type "tuple" ∧ o.data = .seq #[.int x t, .ref b] n
theorem IsKey.keeps {h h' : Heap} {v : Value} {x : Int} (p : IsKey h v x) (k : ∀ b o, h.get? b = some o → o.cls = .type "tuple" → h'.get? b = some o) : IsKey h' v x := by
  obtain ⟨a, o, t, u, n, e, ho, hc, hd⟩ := p
  exact ⟨a, o, t, u, n, e, k _ _ ho hc, hc, hd⟩
theorem swo_key {α : Type} (k : α → Int) : Swo fun v u => decide (k v < k u) := by
  refine ⟨fun x y h => ?_, fun x y z h1 h2 => ?_⟩
  · have := of_decide_eq_true h
    exact decide_eq_false (by omega)
  · have h3 := of_decide_eq_false h1
    have h4 := of_decide_eq_false h2
    exact decide_eq_false (by omega)
theorem eqBool_self {a : Addr} {Q : Bool → Shared → Prop} (h : Q true s) : wpAny (model prog w) A (eqBool (.ref a) (.ref a)) Q E s := by
  unfold eqBool
  refine wpAny_holding ?_
  rw [if_pos (show (Value.ref a == Value.ref a) = true from beq_iff_eq.mpr rfl)]
  exact wpAny_bind (wpAny_rule (wpAny_pure h))
theorem key_cmp {vs : List Value} {k : Value → Int} (hp : ∀ v ∈ vs, IsKey s.heap v (k v)) (inj : ∀ v ∈ vs, ∀ u ∈ vs, k v = k u → v = u) : Cmp prog w A s (tuples' true) (fun p => p.1 ∈ vs) (lt2 fun v u => decide (k v < k u)) := by
  intro p q hm hm'
  have h1 := hp _ hm
  have h2 := hp _ hm'
  have hi := inj _ hm _ hm'
  show wpAny (model prog w) A (keyLt' (tuples' true) p.1 q.1) (fun r s' => s' = s ∧ r = decide (k p.1 < k q.1)) (fun _ _ => False) s
  generalize k p.1 = x at h1 hi ⊢
  generalize k q.1 = x' at h2 hi ⊢
  obtain ⟨a, o, t, b, n, e, ho, hc, hd⟩ := h1
  obtain ⟨a', o', t', b', n', e', ho', hc', hd'⟩ := h2
  rw [e, e'] at hi
  rw [e, e']
  refine PySem.W.kat_lt ho hd ho' hd' ?_
  show PySem.W.KatLex prog w A true (decide (2 < 2)) _ [(.int x t, .int x' t'), (.ref b, .ref b')] 0 s
  refine PySem.W.kat_cons (SeqAt.EqAt.int_int x t x' t' prog w _ _ ?_)
  refine PySem.W.kat_go (fun e1 => ?_) (fun e1 => ?_)
  · have ex : x = x' := by simpa using e1
    have ea := hi ex
    have ea' : a = a' := Value.ref.inj ea
    subst ea' ex
    rw [ho] at ho'
    cases ho'
    rw [hd] at hd'
    have eb : b = b' := by
      injection hd' with h3 _
      have h4 : (#[Value.int x t, Value.ref b] : Array Value)[1]? = (#[Value.int x t', Value.ref b'] : Array Value)[1]? := by rw [h3]
      simpa using h4
    subst eb
    refine PySem.W.kat_yes (PySem.W.kat_cons (eqBool_self ?_))
    exact PySem.W.kat_yes (PySem.W.kat_nil ⟨rfl, (decide_eq_false (Int.lt_irrefl _)).symm⟩)
  · exact PySem.W.kat_no (oneLt_int ⟨rfl, rfl⟩)
theorem firsts_key {h : Heap} : ∀ {vs : List Value}, (∀ v ∈ vs, ∃ x, IsKey h v x) → ∃ fs : List Value, PySem.W.KatTups h vs fs ∧ fs.length = vs.length ∧ ∀ f ∈ fs, ∃ x t, f = Value.int x t
  | [], _ => ⟨[], PySem.W.KatTups.nil, rfl, fun _ hm => by simp at hm⟩
  | v :: vs, hp => by
    obtain ⟨fs, h1, h2, h3⟩ := firsts_key (vs := vs) fun v' hm => hp v' (List.mem_cons_of_mem _ hm)
    obtain ⟨x, a, o, t, u, n, e, ho, hc, hd⟩ := hp v (List.mem_cons_self ..)
    subst e
    refine ⟨.int x t :: fs, PySem.W.KatTups.cons ho hc hd rfl h1, by rw [List.length_cons, List.length_cons, h2], fun f hm => ?_⟩
    rcases List.mem_cons.mp hm with rfl | hm
    · exact ⟨x, t, rfl⟩
    · exact h3 f hm
theorem keys_sortable {a : Addr} {vs : List Value} {k : Value → Int} (h0 : 0 < vs.length) (hp : ∀ v ∈ vs, IsKey s.heap v (k v)) (inj : ∀ v ∈ vs, ∀ u ∈ vs, k v = k u → v = u) (ha : ∀ o, s.heap.get? a = some o → o.cls ≠ .type "tuple") : SortableO prog w A s a vs fun v u => decide (k v < k u) := by
  intro h' keep
  have hp' : ∀ v ∈ vs, IsKey h' v (k v) := fun v hm => (hp v hm).keeps fun b o e c => keep b o (fun z => by subst z; exact ha o e c) e
  obtain ⟨fs, h1, h2, h3⟩ := firsts_key fun v hm => ⟨_, hp' v hm⟩
  refine ⟨tuples' true, fun Q E hq => ?_, key_cmp hp' inj⟩
  refine PySem.W.kat_kind (T := .type "int") h1 (by omega) (fun f hm => ?_) (by rfl) ?_
  · obtain ⟨x, t, rfl⟩ := h3 f hm
    exact PySem.W.Looks.now
  · have e : (Value.type "int" != Value.type "tuple") = true := by first | decide +kernel | rfl | decide
    rw [e]
    exact hq
theorem sorted_keys {l : Addr} {vs : List Value} {k : Value → Int} {Q : Value → Shared → Prop} (hl : s.heap.IsList l vs.toArray) (hz : vs.length ≤ sizeLine) (hp : ∀ v ∈ vs, IsKey s.heap v (k v)) (inj : ∀ v ∈ vs, ∀ u ∈ vs, k v = k u → v = u)
    (h : ∀ (h' : Heap) (d : Addr) (out : List Value), Srtd (fun v u => decide (k v < k u)) out → Stb (fun v u => decide (k v < k u)) out vs → (∀ b o, s.heap.get? b = some o → h'.get? b = some o) → s.heap.objs.size ≤ d → (∃ n, h'.get? d = some (seqObj "list" out.toArray n)) → Q (.ref d) { s with heap := h' }) :
    wpAny (model prog w) A (call (.builtin "sorted") [.ref l]) Q E s := by
  refine sorted_ord (swo_key k) hl hz (fun h2 h₁ a ha kk => ?_) fun out hs hb => ?_
  · refine keys_sortable (s := { s with heap := h₁ }) (by omega) (fun v hm => (hp v hm).keeps fun b o e _ => (kk b o e).2) inj fun o e => ?_
    have e' : some o = some (seqObj "list" vs.toArray 0) := e.symm.trans ha
    cases e'
    intro c
    exact absurd (Value.type.inj c) (by decide)
  · exact h _ _ out hs hb (fun b o e => sortedAll_old e) (Nat.le_succ _) (sortedAll_at s.heap vs out.toArray)
end
end SrtO
namespace Ly
open PySem PySem.Spec PyProof.Rows L2
/-- sorted(xs), xs pairs of an int of its own and an object: a new list by the ints -/
def rSortedK (K : PySem.W.Frag) : List V → Hp → VK → Prop := fun vs H Q => ∃ (a : Addr) (xs : List V) (k : V → Int), vs = [V.ref a] ∧ SqL K H a xs ∧ (∀ x ∈ xs, ∃ t b, x = V.ref t ∧ H t = some (.tup [.int (k x), .ref b])) ∧ (∀ x ∈ xs, ∀ y ∈ xs, k x = k y → x = y) ∧
  ∀ ys p, ys.Pairwise (fun x y => k x ≤ k y) → ys.Perm xs → H p = none → Q (.ref p) (upd H p (.lst ys))
theorem kcr_sortedK {X : Cx} (K : PySem.W.Frag) (eK : X.K = K := by rfl) : CallR X (.builtin "sorted") (rSortedK K) := by
  subst eK
  intro pins s σ H vs us Q I r h
  obtain ⟨a, xs, k, rfl, hs, hx, inj, q⟩ := h
  obtain ⟨its, rv, hl, hz⟩ := I.list hs
  obtain ⟨u, rfl, ru⟩ := vals1 r
  obtain rfl : u = Value.ref a := ru
  obtain ⟨e1, e2⟩ := refs_back rv fun x m => by
    obtain ⟨t, b, e, _⟩ := hx x m
    exact ⟨t, e⟩
  refine SrtO.sorted_keys (k := fun u => k (backV u)) hl.isList (by rw [← rv.length]; exact hz) (fun v hv => ?_) (fun v hv u hu e => ?_) fun h' d out h1 h2 kp hd hn => ?_
  · obtain ⟨t, rfl⟩ := e2 v hv
    have hm : V.ref t ∈ xs := by rw [e1]; exact List.mem_map.mpr ⟨_, hv, rfl⟩
    obtain ⟨t', b, e, ht⟩ := hx _ hm
    cases e
    obtain ⟨_, its2, r2, o, ho, hc, n, hd⟩ := I.hok _ _ ht
    obtain ⟨u1, u2, rfl, ri, rj⟩ := vals2 r2
    obtain ⟨t1, rfl⟩ := ri
    obtain rfl : u2 = Value.ref b := rj
    exact ⟨t, o, t1, b, n, rfl, ho, hc, hd⟩
  · obtain ⟨t, rfl⟩ := e2 v hv
    obtain ⟨t', rfl⟩ := e2 u hu
    have hm : V.ref t ∈ xs := by rw [e1]; exact List.mem_map.mpr ⟨_, hv, rfl⟩
    have hm' : V.ref t' ∈ xs := by rw [e1]; exact List.mem_map.mpr ⟨_, hu, rfl⟩
    have := inj _ hm _ hm' e
    cases this
    rfl
  · have h3 : ∀ u ∈ out, ∃ a, u = Value.ref a := fun u hu => e2 u (h2.perm.mem_iff.mp hu)
    obtain ⟨n, hn⟩ := hn
    have hb : (out.map backV).Perm xs := by
      rw [e1]
      exact h2.perm.map backV
    refine ⟨.ref d, upd H d (.lst (out.map backV)), I.laid (t' := s.toks) kp hd ⟨?_, out, n, vals_back h3, hn⟩, rfl, q _ d ?_ hb (I.hok.fresh hd)⟩
    · rw [hb.length_eq]
      exact hz
    · rw [List.pairwise_map]
      refine List.Pairwise.imp (fun {x y} h => ?_) h1
      have := of_decide_eq_false h
      omega
section
variable {X : Cx} {k : Nat} {C : Addr} {m : Str} {ps : List Str} {sp : Sp} {apos pos : Pos} {o : Expr} {to : TE}
theorem pe_met0 {pl : Sem Bool} (O : Met X.prog X.w X.K X.mg X.base k C m ps sp) (c : Cls X.K C) (hr : Room k X.A) (ho : PE X o to)
    (ht : eval (.Call (.Attribute o m apos) [] [] pos) X.env = (do
      let ov ← eval o X.env
      standAt apos.atName
      let (f, first) ← holding [ov] (getMethod ov m pl)
      callWith pos f first (backTo pos (starEach [] X.env)) (backToKw pos (keywordEach [] X.env))) := by rfl) : PE X (.Call (.Attribute o m apos) [] [] pos) (tMeth C m sp [] E0 to tNil) := by
  obtain ⟨f, fd, F, M, hb⟩ := O.ex
  exact pe_meth0 ho c M F hr hb .nil pass0 ht
end
theorem ksl_list {X : Cx} (K : PySem.W.Frag) (e : X.K = K := by rfl) : SlR X (rSlL K) := by subst e; exact sl_list
end Ly

set_option Elab.async false
set_option linter.all false
set_option maxRecDepth 100000
set_option exponentiation.threshold 20000
set_option pp.deepTerms false
set_option pp.deepTerms.threshold 8
namespace K63
open PySem PySem.Spec PyProof.Rows L2 Ly Mt
def numS : List Str := ["number"]
theorem numS_len : numS.length = 1 := rfl
section
variable {P : Program} {w : World} {K : PySem.W.Frag} {mg : Str → Option Value} {base : Heap}
abbrev s__law_kinds : Stmt := topS 41
theorem sc__law_kinds : FnScope ["store", "most", "many", "style", "dress", "names", "kinds", "k", "count", "leaf", "makers", "m", "fields", "turn", "title", "field"] ["store", "most"] (defScope s__law_kinds) := ⟨rfl, rfl, rfl, by decide +kernel, rfl, by decide +kernel, by decide +kernel⟩
def sp_kinds (K : PySem.W.Frag) : Sp := fun vs H Q _ => ∃ (c : Addr) (most : Nat), vs = [.ref c, .int (most : Nat)] ∧ most ≤ 4 ∧ Sto H c ∧ ∀ p ks H', Sto H' c → But c H H' → KindsOk ks → SmallK most ks → Im K H' (.ref p) (ksD ks) → Q (.ref p) H'
set_option maxHeartbeats 2000000 in
theorem ok__law_kinds {f : Addr} {fd : FuncData} {k : Nat} (F : Fun K "_law_kinds" "_law_kinds" s__law_kinds f fd) (T : Tx K mg){k1 : Nat} (D__law_pick : Def P w K mg base k1 "_law_pick" s__law_pick ["store", "many"] sp_pick) (e1 : k1 ≤ k) : FnOk P w K mg base CX0 (k + 1) f fd ["store", "most"] (sp_kinds K) := by
  have nd := sc__law_kinds.nd
  refine F.ok sc__law_kinds (fun vs H Q E h => ?_) (fun cdv A outer s H vs Q E hr h => ?_)
  · obtain ⟨_, _, rfl, _⟩ := h
    rfl
  · obtain ⟨c, most, rfl, m4, u, q⟩ := h
    refine ⟨_, (pss_cons (ps_par3 (i := 2) (j := 3) (l := 4) (by rfl) nd rfl rfl rfl (by decide) (by decide) (by decide) rfl rfl rfl (pa_cons (pe_op op_add pe_int (pe_def D__law_pick (hr.mono (by omega)) rfl (pa_cons (pv 0) (pa_cons pe_int pa_nil)))) (pa_cons (pe_def D__law_pick (hr.mono (by omega)) rfl (pa_cons (pv 0) (pa_cons pe_int pa_nil))) (pa_cons (pe_def D__law_pick (hr.mono (by omega)) rfl (pa_cons (pv 0) (pa_cons pe_int pa_nil))) pa_nil))) (by rfl))
      (pss_cons (ps_set (i := 5) nd rfl (.inl rfl) (pe_slice sl_list (pe_ix (kix_list K) (pe_lst (pa_cons (pe_lst (pa_cons pe_str (pa_cons pe_str (pa_cons pe_str pa_nil)))) (pa_cons (pe_lst (pa_cons pe_str (pa_cons pe_str (pa_cons pe_str pa_nil)))) (pa_cons (pe_lst (pa_cons pe_str (pa_cons pe_str (pa_cons pe_str pa_nil)))) (pa_cons (pe_lst (pa_cons pe_str (pa_cons pe_str (pa_cons pe_str pa_nil)))) pa_nil))))) (pv 4) (fun _ _ => rfl)) po_none (po_some (pv 2))))
      (pss_cons (ps_set (i := 6) nd rfl (.inl rfl) (pe_tup pa_nil))
      (pss_cons (ps_for PassesOwn.never rfl (pi_range1 rfl T.m_range (pa_cons (pv 2) pa_nil)) (pg_name (i := 7) nd rfl (.inl rfl))
        (pss_cons (ps_set (i := 8) nd rfl (.inl rfl) (pe_op op_add pe_int (pe_def D__law_pick (hr.mono (by omega)) rfl (pa_cons (pv 0) (pa_cons pe_int pa_nil)))))
        (pss_cons (ps_set (i := 9) nd rfl (.inl rfl) (pe_def D__law_pick (hr.mono (by omega)) rfl (pa_cons (pv 0) (pa_cons (pv 8) pa_nil))))
        (pss_cons (ps_set (i := 10) nd rfl (.inl rfl) (pe_tup pa_nil))
        (pss_cons (ps_for PassesOwn.never rfl (pi_range1 rfl T.m_range (pa_cons (pv 8) pa_nil)) (pg_name (i := 11) nd rfl (.inl rfl))
          (pss_cons (ps_set (i := 12) nd rfl (.inl rfl) (pe_tup pa_nil))
          (pss_cons (ps_for PassesOwn.never rfl (pi_range1 rfl T.m_range (pa_cons (pe_def D__law_pick (hr.mono (by omega)) rfl (pa_cons (pv 0) (pa_cons (pe_op op_add (pv 1) pe_int) pa_nil))) pa_nil)) (pg_name (i := 13) nd rfl (.inl rfl))
            (pss_one (ps_set (i := 12) nd rfl (.inl rfl) (pe_op (kop_catA K) (pv 12) (pe_tup (pa_cons (pe_ix (kix_list K) (pe_op op_cat (pe_op op_cat (pe_lst (pa_cons pe_str pa_nil)) (pv 5)) (pv 5)) (pe_def D__law_pick (hr.mono (by omega)) rfl (pa_cons (pv 0) (pa_cons (pe_op op_add pe_int (pe_op op_mul pe_int (pv 2))) pa_nil))) (fun _ _ => rfl)) pa_nil))))))
          (C8.pss_cut (ps_if (PW.pt (pw_and (pt_cmpR op_eq (pv 11) (pv 9) (nomark _)) (pw_and1 (PW.pt (pw_or (pt_cmpR op_eq (pv 7) pe_int (nomark _)) (pw_or1 (pt_cmpR op_gt (pe_def D__law_pick (hr.mono (by omega)) rfl (pa_cons (pv 0) (pa_cons pe_int pa_nil))) pe_int (nomark _))))))))
            (pss_one (ps_set (i := 12) nd rfl (.inl rfl) (pe_callTy (kcall_tuple K) (by rfl) T.m_tuple (by decide +kernel) (pa_cons (pe_lc (own := [("field", 15)]) (g := gName 15) rfl nd (kpi_tup K (pv 12)) (blkOk_by (by rfl)) (fun _ _ _ _ _ => (pg_name (i := 15) nd rfl (.inl rfl))) (fun _ _ _ _ _ => (pts_one (pt_cmpR op_eq (pv 15) pe_str (nomark _)))) (fun _ _ _ _ _ => (pv 15))) pa_nil))))
            pss_nil)
          (pss_cons (ps_set (i := 14) nd rfl (.inl rfl) (pe_ix (kix_list K) (pe_lst (pa_cons (pe_op op_add_str pe_str (pe_callTy call_str_int (by rfl) T.m_str (by decide +kernel) (pa_cons (pe_op op_add (pe_op op_mul pe_int (pv 7)) (pv 11)) pa_nil))) (pa_cons (pe_ix ix_str pe_str (pe_op op_add (pe_op op_mul pe_int (pv 7)) (pv 11)) (fun _ _ => rfl)) (pa_cons (pe_op op_mulS pe_str (pe_op op_add (pe_op op_add (pe_op op_mul pe_int (pv 7)) (pv 11)) pe_int)) pa_nil)))) (pv 3) (fun _ _ => rfl)))
          (pss_one (ps_set (i := 10) nd rfl (.inl rfl) (pe_op (kop_catA K) (pv 10) (pe_tup (pa_cons (pe_tup (pa_cons (pv 14) (pa_cons (pv 12) pa_nil))) pa_nil))))))))))
        (pss_one (ps_set (i := 6) nd rfl (.inl rfl) (pe_op (kop_catA K) (pv 6) (pe_tup (pa_cons (pe_tup (pa_cons (pe_ix (kix_list K) (pv 5) (pv 7) (fun _ _ => rfl)) (pa_cons (pv 10) pa_nil))) pa_nil))))))))))
      (pss_one (ps_ret (pv 6))))))), ?_⟩
    refine ⟨.ref c, rfl, c, 3, rfl, u, by decide, fun n0 H1 n03 u1 b1 => ⟨_, _, rfl, rfl, .ref c, rfl, c, 3, rfl, u1, by decide, fun st H2 st3 u2 b2 => ⟨.ref c, rfl, c, 4, rfl, u2, by decide, fun d H3 d4 u3 b3 => ⟨.int ((1 + n0 : Nat) : Int), .int (st : Nat), .int (d : Nat), congrArg (fun z => [V.int z, .int (st : Nat), .int (d : Nat)]) (show (1 : Int) + n0 = ((1 + n0 : Nat) : Int) by omega), ?_⟩⟩⟩⟩
    obtain ⟨n, hn⟩ : ∃ n, 1 + n0 = n := ⟨_, rfl⟩
    rw [hn]
    have n1 : 1 ≤ n := by omega
    have n3 : n ≤ 3 := by omega
    have st3' : st < 3 := by omega
    have d4' : d < 4 := by omega
    have B3 : But c H H3 := (b1.trans b2).trans b3
    refine ⟨by show 3 ≤ sizeLine; decide, fun L1 hL1 => ⟨by show 3 ≤ sizeLine; decide, fun L2 hL2 => ⟨by show 3 ≤ sizeLine; decide, fun L3 hL3 => ⟨by show 3 ≤ sizeLine; decide, fun L4 hL4 => ⟨by show 4 ≤ sizeLine; decide, fun L5 hL5 => ?_⟩⟩⟩⟩⟩
    have sA := same_new (o := .lst [V.str "A", .str "B", .str "C"]) hL1
    have sB := same_new (o := .lst [V.str "Tree", .str "Forest", .str "T"]) hL2
    have sC := same_new (o := .lst [V.str "K", .str "KK", .str "KKK"]) hL3
    have sD := same_new (o := .lst [V.str "X1z", .str "X2z", .str "X3z"]) hL4
    have sE := same_new (o := .lst [V.ref L1, .ref L2, .ref L3, .ref L4]) hL5
    have s5 : Same H3 _ := (((sA.trans sB).trans sC).trans sD).trans sE
    have e1 := sE _ _ (sD _ _ (sC _ _ (sB _ _ (show (upd H3 L1 (.lst [V.str "A", .str "B", .str "C"])) L1 = some (.lst ((namesS 0).map V.str)) from upd_same))))
    have e2 := sE _ _ (sD _ _ (sC _ _ (show (upd (upd H3 L1 (.lst [V.str "A", .str "B", .str "C"])) L2 (.lst [V.str "Tree", .str "Forest", .str "T"])) L2 = some (.lst ((namesS 1).map V.str)) from upd_same)))
    have e3 := sE _ _ (sD _ _ (show (upd (upd (upd H3 L1 (.lst [V.str "A", .str "B", .str "C"])) L2 (.lst [V.str "Tree", .str "Forest", .str "T"])) L3 (.lst [V.str "K", .str "KK", .str "KKK"])) L3 = some (.lst ((namesS 2).map V.str)) from upd_same))
    have e4 := sE _ _ (show (upd (upd (upd (upd H3 L1 (.lst [V.str "A", .str "B", .str "C"])) L2 (.lst [V.str "Tree", .str "Forest", .str "T"])) L3 (.lst [V.str "K", .str "KK", .str "KKK"])) L4 (.lst [V.str "X1z", .str "X2z", .str "X3z"])) L4 = some (.lst ((namesS 3).map V.str)) from upd_same)
    have e5 : (upd (upd (upd (upd (upd H3 L1 (.lst [V.str "A", .str "B", .str "C"])) L2 (.lst [V.str "Tree", .str "Forest", .str "T"])) L3 (.lst [V.str "K", .str "KK", .str "KKK"])) L4 (.lst [V.str "X1z", .str "X2z", .str "X3z"])) L5 (.lst [V.ref L1, .ref L2, .ref L3, .ref L4])) L5 = some (.lst [V.ref L1, .ref L2, .ref L3, .ref L4]) := upd_same
    clear sA sB sC sD sE hL1 hL2 hL3 hL4 hL5
    generalize upd (upd (upd (upd (upd H3 L1 (.lst [V.str "A", .str "B", .str "C"])) L2 (.lst [V.str "Tree", .str "Forest", .str "T"])) L3 (.lst [V.str "K", .str "KK", .str "KKK"])) L4 (.lst [V.str "X1z", .str "X2z", .str "X3z"])) L5 (.lst [V.ref L1, .ref L2, .ref L3, .ref L4]) = H4 at *
    obtain ⟨Ld, gs, eLd⟩ : ∃ Ld, atI [V.ref L1, .ref L2, .ref L3, .ref L4] (d : Nat) = some (.ref Ld) ∧ H4 Ld = some (.lst ((namesS d).map V.str)) := by
      have : d = 0 ∨ d = 1 ∨ d = 2 ∨ d = 3 := by omega
      rcases this with rfl | rfl | rfl | rfl
      · exact ⟨L1, rfl, e1⟩
      · exact ⟨L2, rfl, e2⟩
      · exact ⟨L3, rfl, e3⟩
      · exact ⟨L4, rfl, e4⟩
    have nl := names_len d d4'
    refine ⟨.int (d : Nat), rfl, L5, _, _, _, rfl, rfl, .of e5, gs, .int (n : Nat), rfl, _, rfl, Ld, _, rfl, .of eLd, fun N hN => ?_⟩
    rw [cut_take (by rw [List.length_map, nl]; omega), ← List.map_take]
    generalize hns : (namesS d).take n = ns
    have lns : ns.length = n := by rw [← hns, List.length_take, nl]; omega
    have sN := same_new (o := .lst (ns.map V.str)) hN
    refine ⟨by show 0 ≤ sizeLine; decide, fun T0 hT0 => ?_⟩
    have sT := same_new (o := .tup []) hT0
    have u4 := ((u3.same s5).same sN).same sT
    have B4 : But c H _ := B3.trans (but_same ((s5.trans sN).trans sT))
    have eN := sT _ _ (show (upd H4 N (.lst (ns.map V.str))) N = some (.lst (ns.map V.str)) from upd_same)
    have nN : N ≠ c := (u3.same s5).ne hN
    have iT : Im K (upd (upd H4 N (.lst (ns.map V.str))) T0 (.tup [])) (.ref T0) (ksD []) := .tup (.inl upd_same) .nil
    generalize upd (upd H4 N (.lst (ns.map V.str))) T0 (.tup []) = H5 at *
    clear e1 e2 e3 e4 e5 hN hT0 sN sT
    refine ⟨.int (n : Nat), rfl, (n : Nat), rfl, by omega, by omega, ?_⟩
    refine for_it (walk_range (lo := 0) (n := (n : Int).toNat)) (fun i σ Ha => ∃ (y7 y8 y9 y10 y11 y12 y13 y14 : Option V) (T : Addr) (ks : List Kd), σ = [some (.ref c), some (.int (most : Nat)), some (.int (n : Nat)), some (.int (st : Nat)), some (.int (d : Nat)), some (.ref N), some (.ref T), y7, y8, y9, y10, y11, y12, y13, y14, none] ∧ Sto Ha c ∧ But c H5 Ha ∧ Im K Ha (.ref T) (ksD ks) ∧ KsUp st ns most i ks) ⟨_, _, _, _, _, _, _, _, T0, [], rfl, u4, .refl _ _, iT, .nil _ _ _⟩ (fun _ _ _ _ _ => trivial) ?_ ?_
    · rintro i x σ Ha Hb hi ⟨y7, y8, y9, y10, y11, y12, y13, y14, T, ks, rfl, ua, ba, im, up⟩ ⟨rfl, rfl⟩
      rw [Int.toNat_natCast] at hi
      show gName 7 (V.int ((0 : Int) + (i : Nat))) _ _ _
      rw [show (0 : Int) + (i : Nat) = (i : Nat) by omega]
      refine ⟨.ref c, rfl, c, 3, rfl, ua, by decide, fun m0 H6 m03 u6 b6 => ⟨_, _, rfl, rfl, ?_⟩⟩
      show gName 8 (V.int ((1 : Int) + (m0 : Nat))) _ _ _
      rw [show (1 : Int) + (m0 : Nat) = ((1 + m0 : Nat) : Int) by omega]
      obtain ⟨cn, hcn⟩ : ∃ cn, 1 + m0 = cn := ⟨_, rfl⟩
      rw [hcn]
      refine ⟨.ref c, rfl, .int (cn : Nat), rfl, c, (cn : Nat), rfl, u6, by omega, fun lf H7 lf3 u7 b7 => ?_⟩
      refine ⟨by show 0 ≤ sizeLine; decide, fun M0 hM0 => ?_⟩
      have sM := same_new (o := .tup []) hM0
      have u8 := u7.same sM
      have b8 := (b6.trans b7).trans (but_same sM)
      have iM : Im K (upd H7 M0 (.tup [])) (.ref M0) (.tuple (([] : List Mk).map mkD)) := .tup (.inl upd_same) .nil
      generalize upd H7 M0 (.tup []) = H8 at *
      refine ⟨.int (cn : Nat), rfl, (cn : Nat), rfl, by omega, by omega, ?_⟩
      refine for_it (walk_range (lo := 0) (n := (cn : Int).toNat)) (fun t σ Hc => ∃ (y11 y12 y13 y14 : Option V) (M : Addr) (mks : List Mk), σ = [some (.ref c), some (.int (most : Nat)), some (.int (n : Nat)), some (.int (st : Nat)), some (.int (d : Nat)), some (.ref N), some (.ref T), some (.int (i : Nat)), some (.int (cn : Nat)), some (.int (lf : Nat)), some (.ref M), y11, y12, y13, y14, none] ∧ Sto Hc c ∧ But c Hb Hc ∧ Im K Hc (.ref M) (.tuple (mks.map mkD)) ∧ mks.map (·.1) = ((List.range t).map fun m => titleS st (3 * i + m)) ∧ (∀ m ∈ mks, MkUp ns most m) ∧ (i = 0 → lf < t → ∃ m ∈ mks, ∀ f ∈ m.2, f = ("number" : Str))) ⟨_, _, _, _, M0, [], rfl, u8, b8, iM, rfl, fun m hm => by simp at hm, fun _ h => by omega⟩ (fun _ _ _ _ _ => trivial) ?_ ?_
      · rintro t x σ Hc Hd ht ⟨y11, y12, y13, y14, M, mks, rfl, uc, bc, imM, nmM, upM, lfM⟩ ⟨rfl, rfl⟩
        rw [Int.toNat_natCast] at ht
        show gName 11 (V.int ((0 : Int) + (t : Nat))) _ _ _
        rw [show (0 : Int) + (t : Nat) = (t : Nat) by omega]
        have lM : mks.length = t := by
          have := congrArg List.length nmM
          rwa [List.length_map, List.length_map, List.length_range] at this
        refine ⟨by show 0 ≤ sizeLine; decide, fun F0 hF0 => ?_⟩
        have sF := same_new (o := .tup []) hF0
        have u9 := uc.same sF
        have iF : Im K (upd Hd F0 (.tup [])) (.ref F0) (sD []) := .tup (.inl upd_same) .nil
        generalize upd Hd F0 (.tup []) = H9 at *
        refine ⟨.ref c, rfl, .int (most : Nat), rfl, _, _, rfl, rfl, c, ((most + 1 : Nat) : Int), rfl, u9, by omega, fun ft H10 ft3 u10 b10 => ⟨(ft : Nat), rfl, by omega, by omega, ?_⟩⟩
        have b10' : But c Hd H10 := (but_same sF).trans b10
        refine for_it (walk_range (lo := 0) (n := (ft : Int).toNat)) (fun s σ He => ∃ (y13 : Option V) (F : Addr) (fs : List Str), σ = [some (.ref c), some (.int (most : Nat)), some (.int (n : Nat)), some (.int (st : Nat)), some (.int (d : Nat)), some (.ref N), some (.ref T), some (.int (i : Nat)), some (.int (cn : Nat)), some (.int (lf : Nat)), some (.ref M), some (.int (t : Nat)), some (.ref F), y13, y14, none] ∧ Sto He c ∧ But c Hd He ∧ Im K He (.ref F) (sD fs) ∧ fs.length = s ∧ ∀ f ∈ fs, f = ("number" : Str) ∨ f ∈ ns) ⟨_, F0, [], rfl, u10, b10', Im.mono (b10.tk u9) _ iF, rfl, fun f hf => by simp at hf⟩ (fun _ _ _ _ _ => trivial) ?_ ?_
        · rintro s x σ He Hf hs ⟨y13, F, fs, rfl, ue, be, imF, lF, hfs⟩ ⟨rfl, rfl⟩
          show gName 13 (V.int ((0 : Int) + (s : Nat))) _ _ _
          have eNf : Hf N = some (.lst (ns.map V.str)) := be _ _ nN (bc _ _ nN (ba _ _ nN eN))
          refine ⟨.ref F, rfl, by show 1 ≤ sizeLine; decide, fun A1 hA1 => ?_⟩
          have s1 := same_new (o := .lst [V.str "number"]) hA1
          have eA1 : (upd Hf A1 (.lst [V.str "number"])) A1 = some (.lst (numS.map V.str)) := upd_same
          have eN1 := s1 _ _ eNf
          generalize upd Hf A1 (.lst [V.str "number"]) = G1 at *
          refine ⟨.ref N, rfl, A1, N, numS.map V.str, ns.map V.str, rfl, rfl, eA1, eN1, Nat.le_trans (show (List.map V.str numS).length + (List.map V.str ns).length ≤ 1000 by simp only [List.length_map, numS_len]; omega) (by decide), fun A2 hA2 => ?_⟩
          rw [← List.map_append]
          have s2 := same_new (o := .lst ((numS ++ ns).map V.str)) hA2
          have eA2 : (upd G1 A2 (.lst ((numS ++ ns).map V.str))) A2 = some (.lst ((numS ++ ns).map V.str)) := upd_same
          have eN2 := s2 _ _ eN1
          generalize upd G1 A2 (.lst ((numS ++ ns).map V.str)) = G2 at *
          refine ⟨.ref N, rfl, A2, N, (numS ++ ns).map V.str, ns.map V.str, rfl, rfl, eA2, eN2, Nat.le_trans (show (List.map V.str (numS ++ ns)).length + (List.map V.str ns).length ≤ 1000 by simp only [List.length_map, List.length_append, numS_len]; omega) (by decide), fun A3 hA3 => ?_⟩
          rw [← List.map_append]
          have s3 := same_new (o := .lst ((numS ++ ns ++ ns).map V.str)) hA3
          have eA3 : (upd G2 A3 (.lst ((numS ++ ns ++ ns).map V.str))) A3 = some (.lst ((numS ++ ns ++ ns).map V.str)) := upd_same
          have s123 := (s1.trans s2).trans s3
          have ug := ue.same s123
          have nA3 : A3 ≠ c := (ue.same (s1.trans s2)).ne hA3
          generalize upd G2 A3 (.lst ((numS ++ ns ++ ns).map V.str)) = G3 at *
          refine ⟨.ref c, rfl, .int (n : Nat), rfl, _, _, rfl, rfl, .inr ⟨by omega, by omega⟩, _, _, rfl, rfl, c, ((1 + 2 * n : Nat) : Int), rfl, ug, by omega, fun pk G4 pk3 ug4 bg4 => ?_⟩
          have pl : pk < (numS ++ ns ++ ns).length := by simp only [List.length_append, numS_len]; omega
          have eA3' := bg4 _ _ nA3 eA3
          have hz : (numS ++ ns ++ ns)[pk]? = some (numS ++ ns ++ ns)[pk] := List.getElem?_eq_getElem pl
          have hzm := List.getElem_mem pl
          generalize (numS ++ ns ++ ns)[pk] = z at hz hzm
          refine ⟨A3, _, _, .str z, rfl, rfl, .of eA3', atI_nat (by rw [List.getElem?_map, hz]; rfl), by show 1 ≤ sizeLine; decide, fun T2 hT2 => ?_⟩
          have sT2 := same_new (o := .tup [V.str z]) hT2
          obtain ⟨pF, fx, epF, hpF, hfx⟩ := imF.tuple_inv
          cases epF
          have lfx : fx.length = fs.length := by rw [all_len hfx]
          have tg := ((tk_same s123).trans (bg4.tk ug)).trans (tk_same sT2)
          refine cat_any (hpF.mono tg) (.inl upd_same) (by rw [List.length_singleton]; omega) fun p H11 s11 ip => ?_
          have ug11 := (ug4.same sT2).same s11
          refine ⟨_, p, fs ++ [z], rfl, ug11, ((be.trans (but_same s123)).trans bg4).trans (but_same (sT2.trans s11)), .tup ip ?_, by rw [List.length_append, lF]; rfl, fun f hf => ?_⟩
          · rw [List.map_append]
            exact ImAll.app (ImAll.mono (tg.trans (tk_same s11)) _ hfx) (.cons (.str z) .nil)
          · rcases List.mem_append.mp hf with hf | hf
            · exact hfs f hf
            · rw [List.mem_singleton.mp hf]
              simp only [numS, List.mem_append, List.mem_singleton] at hzm
              rcases hzm with (h | h) | h
              · exact .inl h
              · exact .inr h
              · exact .inr h
        · rintro σ He ⟨y13, F, fs, rfl, ue, be, imF, lF, hfs⟩
          rw [Int.toNat_natCast] at lF
          refine ⟨fun σ' He' => ∃ (F' : Addr) (fs' : List Str), σ' = [some (.ref c), some (.int (most : Nat)), some (.int (n : Nat)), some (.int (st : Nat)), some (.int (d : Nat)), some (.ref N), some (.ref T), some (.int (i : Nat)), some (.int (cn : Nat)), some (.int (lf : Nat)), some (.ref M), some (.int (t : Nat)), some (.ref F'), y13, y14, none] ∧ Sto He' c ∧ But c Hd He' ∧ Im K He' (.ref F') (sD fs') ∧ fs'.length ≤ most ∧ (∀ f ∈ fs', f = ("number" : Str) ∨ f ∈ ns) ∧ (i = 0 → t = lf → ∀ f ∈ fs', f = ("number" : Str)), ?_, ?_⟩
          · refine ⟨.int (t : Nat), rfl, .int (lf : Nat), rfl, rfl, _, rfl, ?_⟩
            by_cases e1 : V.int (t : Nat) = V.int (lf : Nat)
            · rw [decide_eq_true e1]
              have etl : t = lf := by have := V.int.inj e1; omega
              refine iteT ⟨.int (i : Nat), rfl, rfl, _, rfl, ?_⟩
              by_cases e2 : V.int (i : Nat) = V.int 0
              · rw [decide_eq_true e2]
                refine iteT (iteT ?_)
                obtain ⟨pF, fx, epF, hpF, hfx⟩ := imF.tuple_inv
                cases epF
                obtain rfl := im_strs hfx
                refine ⟨.ref F, rfl, F, rfl, ⟨_, hpF.sq⟩, fun D hD => ?_⟩
                refine lc_it (walk_tup (xs := fs.map V.str)) (fun j Hx => Same He Hx ∧ Hx D = some (.lst (((fs.take j).filter (fun f => decide (f = ("number" : Str)))).map V.str))) ⟨same_new hD, upd_same⟩ (fun j Hx _ z => (hpF.mono (tk_same z.1)).sq) (fun j x Hx Hy hj z y => ?_) (fun Hx z => ?_)
                · obtain ⟨sm, eD⟩ := z
                  obtain ⟨rfl, hxj⟩ := y
                  rw [List.getElem?_map] at hxj
                  obtain ⟨f, hf, rfl⟩ := Option.map_eq_some_iff.mp hxj
                  refine ⟨rfl, .str f, rfl, rfl, _, rfl, ?_⟩
                  rw [dec_str]
                  by_cases hn : f = ("number" : Str)
                  · rw [decide_eq_true hn]
                    refine iteT ⟨.str f, rfl, _, eD, small1000 (by rw [List.length_map]; exact Nat.le_trans (List.length_filter_le ..) (by rw [List.length_take]; omega)), fun b o e => ?_, ?_⟩
                    · rw [upd_ne (ne_of_none e hD)]; exact sm _ _ e
                    · rw [upd_same, List.take_add_one, hf, List.filter_append, List.map_append]; simp [hn]
                  · rw [decide_eq_false hn]
                    refine iteF ⟨sm, ?_⟩
                    rw [eD, List.take_add_one, hf, List.filter_append]; simp [hn]
                · obtain ⟨sm, eD⟩ := z
                  rw [List.length_map, List.take_of_length_le (Nat.le_refl _)] at eD
                  refine ⟨D, _, rfl, .inl ⟨.of eD, fun l hl => ?_⟩⟩
                  refine ⟨l, fs.filter (fun f => decide (f = ("number" : Str))), rfl, (ue.same sm).same (same_new hl), (be.trans (but_same sm)).trans (but_same (same_new hl)), .tup (.inl upd_same) (strs_im _), Nat.le_trans (List.length_filter_le ..) (by omega), fun f hf => .inl ?_, fun _ _ f hf => ?_⟩
                  · exact of_decide_eq_true (List.mem_filter.mp hf).2
                  · exact of_decide_eq_true (List.mem_filter.mp hf).2
              · rw [decide_eq_false e2]
                have i0 : i ≠ 0 := fun e => e2 (by rw [e]; rfl)
                refine iteF ⟨.ref c, rfl, c, 6, rfl, ue, by decide, fun w H12 w6 u12 b12 => ⟨_, _, rfl, rfl, _, rfl, ?_⟩⟩
                by_cases hw : ((w : Nat) : Int) > 0
                · rw [decide_eq_true hw]
                  have imF2 := Im.mono (b12.tk ue) _ imF
                  have be2 := be.trans b12
                  refine iteT ?_
                  obtain ⟨pF, fx, epF, hpF, hfx⟩ := imF2.tuple_inv
                  cases epF
                  obtain rfl := im_strs hfx
                  refine ⟨.ref F, rfl, F, rfl, ⟨_, hpF.sq⟩, fun D hD => ?_⟩
                  refine lc_it (walk_tup (xs := fs.map V.str)) (fun j Hx => Same H12 Hx ∧ Hx D = some (.lst (((fs.take j).filter (fun f => decide (f = ("number" : Str)))).map V.str))) ⟨same_new hD, upd_same⟩ (fun j Hx _ z => (hpF.mono (tk_same z.1)).sq) (fun j x Hx Hy hj z y => ?_) (fun Hx z => ?_)
                  · obtain ⟨sm, eD⟩ := z
                    obtain ⟨rfl, hxj⟩ := y
                    rw [List.getElem?_map] at hxj
                    obtain ⟨f, hf, rfl⟩ := Option.map_eq_some_iff.mp hxj
                    refine ⟨rfl, .str f, rfl, rfl, _, rfl, ?_⟩
                    rw [dec_str]
                    by_cases hn : f = ("number" : Str)
                    · rw [decide_eq_true hn]
                      refine iteT ⟨.str f, rfl, _, eD, small1000 (by rw [List.length_map]; exact Nat.le_trans (List.length_filter_le ..) (by rw [List.length_take]; omega)), fun b o e => ?_, ?_⟩
                      · rw [upd_ne (ne_of_none e hD)]; exact sm _ _ e
                      · rw [upd_same, List.take_add_one, hf, List.filter_append, List.map_append]; simp [hn]
                    · rw [decide_eq_false hn]
                      refine iteF ⟨sm, ?_⟩
                      rw [eD, List.take_add_one, hf, List.filter_append]; simp [hn]
                  · obtain ⟨sm, eD⟩ := z
                    rw [List.length_map, List.take_of_length_le (Nat.le_refl _)] at eD
                    refine ⟨D, _, rfl, .inl ⟨.of eD, fun l hl => ?_⟩⟩
                    refine ⟨l, fs.filter (fun f => decide (f = ("number" : Str))), rfl, (u12.same sm).same (same_new hl), (be2.trans (but_same sm)).trans (but_same (same_new hl)), .tup (.inl upd_same) (strs_im _), Nat.le_trans (List.length_filter_le ..) (by omega), fun f hf => .inl ?_, fun _ _ f hf => ?_⟩
                    · exact of_decide_eq_true (List.mem_filter.mp hf).2
                    · exact of_decide_eq_true (List.mem_filter.mp hf).2
                · rw [decide_eq_false hw]
                  exact iteF ⟨F, fs, rfl, u12, be.trans b12, Im.mono (b12.tk ue) _ imF, by omega, hfs, fun e => absurd e i0⟩
            · rw [decide_eq_false e1]
              exact iteF (iteF ⟨F, fs, rfl, ue, be, imF, by omega, hfs, fun _ e => absurd (by rw [e]) e1⟩)
          · rintro σ' He' ⟨F', fs', rfl, ue', be', imF', lF', hfs', nF'⟩
            obtain ⟨v, hv⟩ : ∃ v, 3 * i + t = v := ⟨_, rfl⟩
            have v9 : v < 9 := by omega
            have ev : (3 : Int) * (i : Nat) + (t : Nat) = ((v : Nat) : Int) := by omega
            have log : ((v : Nat) : Int).natAbs.log2 < 1920 := by
              rw [Int.natAbs_natCast]
              refine Nat.lt_of_le_of_lt (Nat.log2_le_self v) (by omega)
            have l0 : (("M" : Str).length + (toString ((v : Nat) : Int) : Str).length) ≤ sizeLine := by
              have := (highB_ok (titles_high 0 (by decide) v v9)).1.len.2
              rw [← title0 v v9] at this
              have e : (("M" : Str) ++ (toString ((v : Nat) : Int) : Str)).length = ("M" : Str).length + (toString ((v : Nat) : Int) : Str).length := Array.size_append
              rw [e] at this
              exact Nat.le_trans this (by decide)
            refine ⟨.int (i : Nat), rfl, _, _, rfl, rfl, .inl ⟨by decide, by decide⟩, .int (t : Nat), rfl, _, _, rfl, rfl, ⟨(v : Nat), congrArg (fun z => [V.int z]) ev, log, _, _, rfl, rfl, l0, ?_⟩⟩
            refine ⟨.int (i : Nat), rfl, _, _, rfl, rfl, .inl ⟨by decide, by decide⟩, .int (t : Nat), rfl, _, _, rfl, rfl, ⟨_, (v : Nat), 65 + v, rfl, congrArg V.int ev, by decide, title1 v v9, ?_⟩⟩
            refine ⟨.int (i : Nat), rfl, _, _, rfl, rfl, .inl ⟨by decide, by decide⟩, .int (t : Nat), rfl, _, _, rfl, rfl, _, _, rfl, rfl, ⟨81, ((v + 1 : Nat) : Int), rfl, congrArg V.int (show (3 : Int) * (i : Nat) + (t : Nat) + 1 = ((v + 1 : Nat) : Int) by omega), by omega, by omega, ?_⟩⟩
            rw [title0 v v9]
            refine ⟨by show 3 ≤ sizeLine; decide, fun A hA => ?_⟩
            have sA := same_new (o := .lst [V.str (titleS 0 v), .str ⟨#[65 + v]⟩, .str ⟨(List.replicate ((v + 1 : Nat) : Int).toNat 81).toArray⟩]) hA
            have gA : atI [V.str (titleS 0 v), .str ⟨#[65 + v]⟩, .str ⟨(List.replicate ((v + 1 : Nat) : Int).toNat 81).toArray⟩] ((st : Nat) : Int) = some (.str (titleS st v)) := by
              have : st = 0 ∨ st = 1 ∨ st = 2 := by omega
              rcases this with h | h | h <;> rw [h] <;> rfl
            refine ⟨.int (st : Nat), rfl, A, _, _, _, rfl, rfl, .of upd_same, gA, ?_⟩
            generalize upd He' A (.lst [V.str (titleS 0 v), .str ⟨#[65 + v]⟩, .str ⟨(List.replicate ((v + 1 : Nat) : Int).toNat 81).toArray⟩]) = H13 at *
            refine ⟨.ref M, rfl, .str (titleS st v), rfl, .ref F', rfl, by show 2 ≤ sizeLine; decide, fun P1 hP1 => ⟨by show 1 ≤ sizeLine; decide, fun P2 hP2 => ?_⟩⟩
            have sP1 := same_new (o := .tup [V.str (titleS st v), .ref F']) hP1
            have sP2 := same_new (o := .tup [V.ref P1]) hP2
            have iP1 : Im K (upd H13 P1 (.tup [V.str (titleS st v), .ref F'])) (.ref P1) (mkD (titleS st v, fs')) := .tup (.inl upd_same) (.cons (.str _) (.cons (Im.mono ((tk_same sA).trans (tk_new hP1)) _ imF') .nil))
            obtain ⟨pM, mx, epM, hpM, hmx⟩ := imM.tuple_inv
            cases epM
            have lmx : mx.length = mks.length := by rw [all_len hmx]
            have tg := (((be'.tk uc).trans (tk_same sA)).trans (tk_same sP1)).trans (tk_same sP2)
            refine cat_any (hpM.mono tg) (.inl upd_same) (by rw [List.length_singleton]; omega) fun p H14 s14 ip => ?_
            refine ⟨_, _, _, _, p, mks ++ [(titleS st v, fs')], rfl, (((ue'.same sA).same sP1).same sP2).same s14, ((bc.trans be').trans (but_same ((sA.trans sP1).trans sP2))).trans (but_same s14), .tup ip ?_, ?_, fun m hm => ?_, fun i0 h => ?_⟩
            · rw [List.map_append]
              exact ImAll.app (ImAll.mono (tg.trans (tk_same s14)) _ hmx) (.cons (Im.mono ((tk_same sP2).trans (tk_same s14)) _ iP1) .nil)
            · rw [List.map_append, nmM, List.range_succ, List.map_append, List.map_cons, List.map_nil, List.map_cons, List.map_nil, hv]
            · rcases List.mem_append.mp hm with hm | hm
              · exact upM m hm
              · rw [List.mem_singleton.mp hm]; exact ⟨lF', hfs'⟩
            · by_cases h2 : lf < t
              · obtain ⟨m, hm, hf⟩ := lfM i0 h2
                exact ⟨m, List.mem_append_left _ hm, hf⟩
              · exact ⟨_, List.mem_append_right _ (List.mem_singleton.mpr rfl), nF' i0 (by omega)⟩
      · rintro σ Hc ⟨y11, y12, y13, y14, M, mks, rfl, uc, bc, imM, nmM, upM, lfM⟩
        rw [Int.toNat_natCast] at nmM lfM
        have lM : mks.length = cn := by
          have := congrArg List.length nmM
          rwa [List.length_map, List.length_map, List.length_range] at this
        have eNc : Hc N = some (.lst (ns.map V.str)) := bc _ _ nN (ba _ _ nN eN)
        have hz : ns[i]? = some ns[i] := List.getElem?_eq_getElem (by omega)
        generalize ns[i] = z at hz
        refine ⟨.ref T, rfl, .ref N, rfl, .int (i : Nat), rfl, N, _, _, .str z, rfl, rfl, .of eNc, atI_nat (by rw [List.getElem?_map, hz]; rfl), .ref M, rfl, by show 2 ≤ sizeLine; decide, fun P1 hP1 => ⟨by show 1 ≤ sizeLine; decide, fun P2 hP2 => ?_⟩⟩
        have sP1 := same_new (o := .tup [V.str z, .ref M]) hP1
        have sP2 := same_new (o := .tup [V.ref P1]) hP2
        have iP1 : Im K (upd Hc P1 (.tup [V.str z, .ref M])) (.ref P1) (kdD (z, mks)) := .tup (.inl upd_same) (.cons (.str z) (.cons (Im.mono (tk_new hP1) _ imM) .nil))
        obtain ⟨pT, tx, epT, hpT, htx⟩ := im.tuple_inv
        cases epT
        have ltx : tx.length = ks.length := by rw [all_len htx]
        have tg := ((bc.tk ua).trans (tk_same sP1)).trans (tk_same sP2)
        have ul := up.len
        refine cat_any (hpT.mono tg) (.inl upd_same) (by rw [List.length_singleton]; omega) fun p H11 s11 ip => ?_
        refine ⟨_, _, _, _, _, _, _, _, p, ks ++ [(z, mks)], rfl, ((uc.same sP1).same sP2).same s11, ((ba.trans bc).trans (but_same (sP1.trans sP2))).trans (but_same s11), .tup ip ?_, up.snoc st3' (by omega) hz (by omega) (by omega) upM (by rw [nmM, lM]) fun i0 => lfM i0 (by omega)⟩
        rw [List.map_append]
        exact ImAll.app (ImAll.mono (tg.trans (tk_same s11)) _ htx) (.cons (Im.mono ((tk_same sP2).trans (tk_same s11)) _ iP1) .nil)
    · rintro σ Ha ⟨y7, y8, y9, y10, y11, y12, y13, y14, T, ks, rfl, ua, ba, im, up⟩
      rw [Int.toNat_natCast] at up
      subst hns
      obtain ⟨o1, o2⟩ := up.ok st3' d4' m4 n1 n3
      exact ⟨.ref T, rfl, q T ks Ha ua (B4.trans ba) o1 o2 im⟩
end
end K63

set_option Elab.async false
set_option linter.all false
set_option maxRecDepth 100000
set_option exponentiation.threshold 20000
set_option pp.deepTerms false
set_option pp.deepTerms.threshold 8
namespace K63
open PySem PySem.Spec PyProof.Rows L2 Ly Mt
/-! ### all makers in one list -/
abbrev MR := Str × List Str × Str × Nat × Nat
def mrDt (r : MR) : PyData := .tuple [.str r.1, sD r.2.1, .str r.2.2.1, nD r.2.2.2.1, nD r.2.2.2.2]
def mrOf (k : Nat) (kd : Kd) (m : Nat) : MR := ((kd.2.getD m (noS, [])).1, (kd.2.getD m (noS, [])).2, kd.1, k, m)
def mrK (k : Nat) (kd : Kd) (t : Nat) : List MR := (List.range t).map (mrOf k kd)
def mrsOf (ks : List Kd) (n : Nat) : List MR := (List.range n).flatMap fun k => mrK k (ks.getD k (noS, [])) (ks.getD k (noS, [])).2.length
def mrs (ks : List Kd) : List MR := mrsOf ks ks.length
theorem mrK_succ (k : Nat) (kd : Kd) (t : Nat) : mrK k kd (t + 1) = mrK k kd t ++ [mrOf k kd t] := by
  unfold mrK
  rw [List.range_succ, List.map_append]; rfl
theorem mrsOf_succ (ks : List Kd) (n : Nat) : mrsOf ks (n + 1) = mrsOf ks n ++ mrK n (ks.getD n (noS, [])) (ks.getD n (noS, [])).2.length := by
  unfold mrsOf
  rw [List.range_succ, List.flatMap_append, List.flatMap_cons, List.flatMap_nil, List.append_nil]
theorem getD_some {α : Type} {l : List α} {i : Nat} {d x : α} (h : l[i]? = some x) : l.getD i d = x := by rw [List.getD_eq_getElem?_getD, h]; rfl
theorem mrs_mem {ks : List Kd} {r : MR} : r ∈ mrs ks ↔ ∃ k kd m mk, ks[k]? = some kd ∧ kd.2[m]? = some mk ∧ r = (mk.1, mk.2, kd.1, k, m) := by
  unfold mrs mrsOf
  rw [List.mem_flatMap]
  constructor
  · rintro ⟨k, hk, hr⟩
    have hk := List.mem_range.mp hk
    have ek := List.getElem?_eq_getElem hk
    rw [getD_some ek] at hr
    obtain ⟨m, hm, rfl⟩ := List.mem_map.mp hr
    have hm := List.mem_range.mp hm
    have em := List.getElem?_eq_getElem hm
    refine ⟨k, _, m, _, ek, em, ?_⟩
    unfold mrOf
    rw [getD_some em]
  · rintro ⟨k, kd, m, mk, ek, em, rfl⟩
    refine ⟨k, List.mem_range.mpr (List.getElem?_eq_some_iff.mp ek).1, ?_⟩
    rw [getD_some ek]
    refine List.mem_map.mpr ⟨m, List.mem_range.mpr (List.getElem?_eq_some_iff.mp em).1, ?_⟩
    unfold mrOf
    rw [getD_some em]
theorem mrs_few {ks : List Kd} (ok : KindsOk ks) : ∀ n, n ≤ ks.length → (mrsOf ks n).length ≤ 6 * n
  | 0, _ => Nat.le_refl _
  | n + 1, h => by
    have ih := mrs_few ok n (by omega)
    have ek := List.getElem?_eq_getElem (show n < ks.length by omega)
    rw [mrsOf_succ, List.length_append, getD_some ek]
    unfold mrK
    rw [List.length_map, List.length_range]
    have := (ok.mks _ (List.mem_of_getElem? ek)).2
    omega
section
variable {P : Program} {w : World} {K : PySem.W.Frag} {mg : Str → Option Value} {base : Heap}
end
end K63

set_option Elab.async false
set_option linter.all false
set_option maxRecDepth 100000
/-! lists of texts as data, for == -/
namespace Ly
open PySem PySem.Spec PyProof.Rows L2
section
variable {K : PySem.W.Frag} {H : Hp}
theorem dp_strs : ∀ ns : List Str, DpAll K H (ns.map V.str) (ns.map PyData.str)
  | [] => .nil
  | n :: ns => .cons (.str n) (dp_strs ns)
theorem lay_strs : ∀ ns : List Str, (∀ n ∈ ns, PyData.strOk n = true) → PyData.canLayAll0 (ns.map PyData.str) = true
  | [], _ => by simp [PyData.canLayAll0]
  | n :: ns, h => by simp [PyData.canLayAll0, PyData.canLay0, lay_strs ns fun x hx => h x (List.mem_cons_of_mem _ hx), h n (List.mem_cons_self ..)]
theorem deep_strs : ∀ ns : List Str, PyData.depthAll (ns.map PyData.str) ≤ 1
  | [] => by simp [PyData.depthAll]
  | n :: ns => by
    have := deep_strs ns
    simp only [List.map_cons, PyData.depthAll, PyData.depth]
    omega
theorem shaped_strs (ns : List Str) (ok : ∀ n ∈ ns, PyData.strOk n = true) : SeqAt.shaped (.list (ns.map PyData.str)) = true := by
  have h := deep_strs ns
  have h2 : PyData.depth (.list (ns.map PyData.str)) ≤ 64 := by
    simp only [PyData.depth]; omega
  show (PyData.canLay0 (.list (ns.map PyData.str)) && decide (PyData.depth (.list (ns.map PyData.str)) ≤ 64)) = true
  rw [Bool.and_eq_true]
  exact ⟨by simp only [PyData.canLay0]; exact lay_strs ns ok, decide_eq_true h2⟩
theorem eqv_strs_nil (ns : List Str) : PyData.eqv (.list (ns.map PyData.str)) (.list []) = ns.isEmpty := by
  cases ns <;> simp [PyData.eqv, PyData.eqvAll]
end
end Ly

set_option Elab.async false
set_option linter.all false
set_option maxRecDepth 100000
set_option exponentiation.threshold 20000
set_option pp.deepTerms false
set_option pp.deepTerms.threshold 8
namespace K63
open PySem PySem.Spec PyProof.Rows L2 Ly Mt
/-! ### weights -/
def wts : List (Int × Int) := [(1, 1), (1, 1), (-1, 1), (2, 1), (-1, 1), (1, 2), (-3, 2), (5, 3), (7, 1), (1000000000001, 1), (-2, 1)]
def wD (w : Int × Int) : PyData := .tuple [.int w.1, .int w.2]
def Wt (q : Rat) : Prop := q ≠ 0 ∧ ∃ t : Int, q * 6 = (t : Rat) ∧ t.natAbs ≤ 1000000000001 * 6
theorem wts_data : ∀ w ∈ wts, (Rat.divInt w.1 w.2).num = w.1 ∧ ((Rat.divInt w.1 w.2).den : Int) = w.2 := by decide +kernel
theorem wts_ok : ∀ w ∈ wts, Rat.divInt w.1 w.2 ≠ 0 ∧ Rat.divInt w.1 w.2 * 6 = ((w.1 * (6 / w.2) : Int) : Rat) ∧ (w.1 * (6 / w.2)).natAbs ≤ 1000000000001 * 6 := by decide +kernel
theorem wts_rat {w : Int × Int} (h : w ∈ wts) : wD w = rD (Rat.divInt w.1 w.2) ∧ Wt (Rat.divInt w.1 w.2) := by
  obtain ⟨a, b⟩ := wts_data w h
  obtain ⟨c, d, e⟩ := wts_ok w h
  refine ⟨?_, c, _, d, e⟩
  unfold wD rD
  rw [a, b]
section
variable {P : Program} {w : World} {K : PySem.W.Frag} {mg : Str → Option Value} {base : Heap}
abbrev s__law_weight : Stmt := topS 42
theorem sc__law_weight : FnScope ["store", "some"] ["store"] (defScope s__law_weight) := ⟨rfl, rfl, rfl, by decide +kernel, rfl, by decide +kernel, by decide +kernel⟩
def sp_weight (K : PySem.W.Frag) : Sp := fun vs H Q _ => ∃ (c : Addr), vs = [.ref c] ∧ Sto H c ∧ ∀ p q H', Sto H' c → But c H H' → Im K H' (.ref p) (rD q) → Wt q → Q (.ref p) H'
set_option maxHeartbeats 1000000 in
theorem ok__law_weight {f : Addr} {fd : FuncData} {k : Nat} (F : Fun K "_law_weight" "_law_weight" s__law_weight f fd) (T : Tx K mg){k1 : Nat} (D__law_pick : Def P w K mg base k1 "_law_pick" s__law_pick ["store", "many"] sp_pick) (e1 : k1 ≤ k) : FnOk P w K mg base CX0 (k + 1) f fd ["store"] (sp_weight K) := by
  have nd := sc__law_weight.nd
  refine F.ok sc__law_weight (fun vs H Q E h => ?_) (fun cdv A outer s H vs Q E hr h => ?_)
  · obtain ⟨_, rfl, _⟩ := h
    rfl
  · obtain ⟨c, rfl, u, q⟩ := h
    refine ⟨_, (pss_cons (ps_set (i := 1) nd rfl (.inl rfl) (pe_lst (pa_cons (pe_tup (pa_cons pe_int (pa_cons pe_int pa_nil))) (pa_cons (pe_tup (pa_cons pe_int (pa_cons pe_int pa_nil))) (pa_cons (pe_tup (pa_cons (pe_un un_neg pe_int) (pa_cons pe_int pa_nil))) (pa_cons (pe_tup (pa_cons pe_int (pa_cons pe_int pa_nil))) (pa_cons (pe_tup (pa_cons (pe_un un_neg pe_int) (pa_cons pe_int pa_nil))) (pa_cons (pe_tup (pa_cons pe_int (pa_cons pe_int pa_nil))) (pa_cons (pe_tup (pa_cons (pe_un un_neg pe_int) (pa_cons pe_int pa_nil))) (pa_cons (pe_tup (pa_cons pe_int (pa_cons pe_int pa_nil))) (pa_cons (pe_tup (pa_cons pe_int (pa_cons pe_int pa_nil))) (pa_cons (pe_tup (pa_cons (pe_op op_add (pe_op op_pow pe_int pe_int) pe_int) (pa_cons pe_int pa_nil))) (pa_cons (pe_tup (pa_cons (pe_un un_neg pe_int) (pa_cons pe_int pa_nil))) pa_nil)))))))))))))
      (pss_one (ps_ret (pe_ix (kix_list K) (pv 1) (pe_def D__law_pick (hr.mono (by omega)) rfl (pa_cons (pv 0) (pa_cons pe_int pa_nil))) (fun _ _ => rfl))))), ?_⟩
    refine ⟨by show 2 ≤ sizeLine; decide, fun T1 h1 => ?_⟩
    have s1 := same_new (o := .tup [.int (1), .int 1]) h1
    have i1 : Im K (upd H T1 (.tup [.int (1), .int 1])) (.ref T1) (wD wts[0]) := .tup (.inl upd_same) (.cons (.int _) (.cons (.int _) .nil))
    have a1 : ImAll K _ [V.ref T1] ((wts.take 1).map wD) := .cons i1 .nil
    generalize upd H T1 (.tup [.int (1), .int 1]) = G1 at *
    clear h1
    refine ⟨by show 2 ≤ sizeLine; decide, fun T2 h2 => ?_⟩
    have s2 := same_new (o := .tup [.int (1), .int 1]) h2
    have i2 : Im K (upd G1 T2 (.tup [.int (1), .int 1])) (.ref T2) (wD wts[1]) := .tup (.inl upd_same) (.cons (.int _) (.cons (.int _) .nil))
    have a2 : ImAll K _ [V.ref T1, V.ref T2] ((wts.take 2).map wD) := (ImAll.mono (tk_same s2) _ a1).snoc i2
    have z2 := s1.trans s2
    clear a1 s2 i2 s1 i1
    generalize upd G1 T2 (.tup [.int (1), .int 1]) = G2 at *
    clear h2
    refine ⟨_, rfl, by show 2 ≤ sizeLine; decide, fun T3 h3 => ?_⟩
    have s3 := same_new (o := .tup [.int (-1), .int 1]) h3
    have i3 : Im K (upd G2 T3 (.tup [.int (-1), .int 1])) (.ref T3) (wD wts[2]) := .tup (.inl upd_same) (.cons (.int _) (.cons (.int _) .nil))
    have a3 : ImAll K _ [V.ref T1, V.ref T2, V.ref T3] ((wts.take 3).map wD) := (ImAll.mono (tk_same s3) _ a2).snoc i3
    have z3 := z2.trans s3
    clear a2 s3 i3 z2
    generalize upd G2 T3 (.tup [.int (-1), .int 1]) = G3 at *
    clear h3
    refine ⟨by show 2 ≤ sizeLine; decide, fun T4 h4 => ?_⟩
    have s4 := same_new (o := .tup [.int (2), .int 1]) h4
    have i4 : Im K (upd G3 T4 (.tup [.int (2), .int 1])) (.ref T4) (wD wts[3]) := .tup (.inl upd_same) (.cons (.int _) (.cons (.int _) .nil))
    have a4 : ImAll K _ [V.ref T1, V.ref T2, V.ref T3, V.ref T4] ((wts.take 4).map wD) := (ImAll.mono (tk_same s4) _ a3).snoc i4
    have z4 := z3.trans s4
    clear a3 s4 i4 z3
    generalize upd G3 T4 (.tup [.int (2), .int 1]) = G4 at *
    clear h4
    refine ⟨_, rfl, by show 2 ≤ sizeLine; decide, fun T5 h5 => ?_⟩
    have s5 := same_new (o := .tup [.int (-1), .int 1]) h5
    have i5 : Im K (upd G4 T5 (.tup [.int (-1), .int 1])) (.ref T5) (wD wts[4]) := .tup (.inl upd_same) (.cons (.int _) (.cons (.int _) .nil))
    have a5 : ImAll K _ [V.ref T1, V.ref T2, V.ref T3, V.ref T4, V.ref T5] ((wts.take 5).map wD) := (ImAll.mono (tk_same s5) _ a4).snoc i5
    have z5 := z4.trans s5
    clear a4 s5 i5 z4
    generalize upd G4 T5 (.tup [.int (-1), .int 1]) = G5 at *
    clear h5
    refine ⟨by show 2 ≤ sizeLine; decide, fun T6 h6 => ?_⟩
    have s6 := same_new (o := .tup [.int (1), .int 2]) h6
    have i6 : Im K (upd G5 T6 (.tup [.int (1), .int 2])) (.ref T6) (wD wts[5]) := .tup (.inl upd_same) (.cons (.int _) (.cons (.int _) .nil))
    have a6 : ImAll K _ [V.ref T1, V.ref T2, V.ref T3, V.ref T4, V.ref T5, V.ref T6] ((wts.take 6).map wD) := (ImAll.mono (tk_same s6) _ a5).snoc i6
    have z6 := z5.trans s6
    clear a5 s6 i6 z5
    generalize upd G5 T6 (.tup [.int (1), .int 2]) = G6 at *
    clear h6
    refine ⟨_, rfl, by show 2 ≤ sizeLine; decide, fun T7 h7 => ?_⟩
    have s7 := same_new (o := .tup [.int (-3), .int 2]) h7
    have i7 : Im K (upd G6 T7 (.tup [.int (-3), .int 2])) (.ref T7) (wD wts[6]) := .tup (.inl upd_same) (.cons (.int _) (.cons (.int _) .nil))
    have a7 : ImAll K _ [V.ref T1, V.ref T2, V.ref T3, V.ref T4, V.ref T5, V.ref T6, V.ref T7] ((wts.take 7).map wD) := (ImAll.mono (tk_same s7) _ a6).snoc i7
    have z7 := z6.trans s7
    clear a6 s7 i7 z6
    generalize upd G6 T7 (.tup [.int (-3), .int 2]) = G7 at *
    clear h7
    refine ⟨by show 2 ≤ sizeLine; decide, fun T8 h8 => ?_⟩
    have s8 := same_new (o := .tup [.int (5), .int 3]) h8
    have i8 : Im K (upd G7 T8 (.tup [.int (5), .int 3])) (.ref T8) (wD wts[7]) := .tup (.inl upd_same) (.cons (.int _) (.cons (.int _) .nil))
    have a8 : ImAll K _ [V.ref T1, V.ref T2, V.ref T3, V.ref T4, V.ref T5, V.ref T6, V.ref T7, V.ref T8] ((wts.take 8).map wD) := (ImAll.mono (tk_same s8) _ a7).snoc i8
    have z8 := z7.trans s8
    clear a7 s8 i8 z7
    generalize upd G7 T8 (.tup [.int (5), .int 3]) = G8 at *
    clear h8
    refine ⟨by show 2 ≤ sizeLine; decide, fun T9 h9 => ?_⟩
    have s9 := same_new (o := .tup [.int (7), .int 1]) h9
    have i9 : Im K (upd G8 T9 (.tup [.int (7), .int 1])) (.ref T9) (wD wts[8]) := .tup (.inl upd_same) (.cons (.int _) (.cons (.int _) .nil))
    have a9 : ImAll K _ [V.ref T1, V.ref T2, V.ref T3, V.ref T4, V.ref T5, V.ref T6, V.ref T7, V.ref T8, V.ref T9] ((wts.take 9).map wD) := (ImAll.mono (tk_same s9) _ a8).snoc i9
    have z9 := z8.trans s9
    clear a8 s9 i9 z8
    generalize upd G8 T9 (.tup [.int (7), .int 1]) = G9 at *
    clear h9
    refine ⟨_, _, rfl, rfl, ⟨by decide, by decide, by decide⟩, _, _, rfl, rfl, by show 2 ≤ sizeLine; decide, fun T10 h10 => ?_⟩
    have s10 := same_new (o := .tup [.int (10 ^ (12 : Int).toNat + 1), .int 1]) h10
    have i10 : Im K (upd G9 T10 (.tup [.int (10 ^ (12 : Int).toNat + 1), .int 1])) (.ref T10) (wD wts[9]) := .tup (.inl upd_same) (.cons (.int _) (.cons (.int _) .nil))
    have a10 : ImAll K _ [V.ref T1, V.ref T2, V.ref T3, V.ref T4, V.ref T5, V.ref T6, V.ref T7, V.ref T8, V.ref T9, V.ref T10] ((wts.take 10).map wD) := (ImAll.mono (tk_same s10) _ a9).snoc i10
    have z10 := z9.trans s10
    clear a9 s10 i10 z9
    generalize upd G9 T10 (.tup [.int (10 ^ (12 : Int).toNat + 1), .int 1]) = G10 at *
    clear h10
    refine ⟨_, rfl, by show 2 ≤ sizeLine; decide, fun T11 h11 => ?_⟩
    have s11 := same_new (o := .tup [.int (-2), .int 1]) h11
    have i11 : Im K (upd G10 T11 (.tup [.int (-2), .int 1])) (.ref T11) (wD wts[10]) := .tup (.inl upd_same) (.cons (.int _) (.cons (.int _) .nil))
    have a11 : ImAll K _ [V.ref T1, V.ref T2, V.ref T3, V.ref T4, V.ref T5, V.ref T6, V.ref T7, V.ref T8, V.ref T9, V.ref T10, V.ref T11] ((wts.take 11).map wD) := (ImAll.mono (tk_same s11) _ a10).snoc i11
    have z11 := z10.trans s11
    clear a10 s11 i11 z10
    generalize upd G10 T11 (.tup [.int (-2), .int 1]) = G11 at *
    clear h11
    refine ⟨by show 11 ≤ sizeLine; decide, fun L hL => ?_⟩
    have sL := same_new (o := .lst [V.ref T1, V.ref T2, V.ref T3, V.ref T4, V.ref T5, V.ref T6, V.ref T7, V.ref T8, V.ref T9, V.ref T10, V.ref T11]) hL
    have eL : (upd G11 L (.lst [V.ref T1, V.ref T2, V.ref T3, V.ref T4, V.ref T5, V.ref T6, V.ref T7, V.ref T8, V.ref T9, V.ref T10, V.ref T11])) L = some (.lst [V.ref T1, V.ref T2, V.ref T3, V.ref T4, V.ref T5, V.ref T6, V.ref T7, V.ref T8, V.ref T9, V.ref T10, V.ref T11]) := upd_same
    have a12 := ImAll.mono (tk_same sL) _ a11
    have z12 := z11.trans sL
    have nL := (u.same z11).ne hL
    generalize upd G11 L (.lst [V.ref T1, V.ref T2, V.ref T3, V.ref T4, V.ref T5, V.ref T6, V.ref T7, V.ref T8, V.ref T9, V.ref T10, V.ref T11]) = G12 at *
    have u12 := u.same z12
    refine ⟨.ref L, rfl, .ref c, rfl, c, 11, rfl, u12, by decide, fun d H3 d11 u3 b3 => ?_⟩
    obtain ⟨ww, hw⟩ : ∃ ww, wts[d]? = some ww := ⟨_, List.getElem?_eq_getElem (show d < wts.length by show d < 11; omega)⟩
    have hm := List.mem_of_getElem? hw
    obtain ⟨x, ex, ix⟩ := all_at (f := wD) (l := wts) (ImAll.mono (b3.tk u12) _ a12) hw
    obtain ⟨pw, wx, rfl, hpw, hwx⟩ := ix.tuple_inv
    obtain ⟨r1, r2⟩ := wts_rat hm
    refine ⟨L, _, _, .ref pw, rfl, rfl, .of (b3 _ _ nL eL), atI_nat ex, q pw _ H3 u3 ((but_same z12).trans b3) ?_ r2⟩
    rw [← r1]
    exact ix
abbrev s__law_vector : Stmt := topS 43
theorem sc__law_vector : FnScope ["store", "size", "k"] ["store", "size"] (defScope s__law_vector) := ⟨rfl, rfl, rfl, by decide +kernel, rfl, by decide +kernel, by decide +kernel⟩
def sp_vector (K : PySem.W.Frag) : Sp := fun vs H Q _ => ∃ (c : Addr) (n : Nat), vs = [.ref c, .int (n : Nat)] ∧ n ≤ 100 ∧ Sto H c ∧ ∀ p r H', Sto H' c → But c H H' → Im K H' (.ref p) (vD r) → r.length = n → (∀ q ∈ r, q = 0 ∨ Wt q) → Q (.ref p) H'
set_option maxHeartbeats 1000000 in
theorem ok__law_vector {f : Addr} {fd : FuncData} {k : Nat} (F : Fun K "_law_vector" "_law_vector" s__law_vector f fd) (T : Tx K mg){k1 : Nat} (D__law_pick : Def P w K mg base k1 "_law_pick" s__law_pick ["store", "many"] sp_pick) {k2 : Nat} (D__law_weight : Def P w K mg base k2 "_law_weight" s__law_weight ["store"] (sp_weight K)) (e1 : k1 ≤ k) (e2 : k2 ≤ k) : FnOk P w K mg base CX0 (k + 1) f fd ["store", "size"] (sp_vector K) := by
  have nd := sc__law_vector.nd
  refine F.ok sc__law_vector (fun vs H Q E h => ?_) (fun cdv A outer s H vs Q E hr h => ?_)
  · obtain ⟨_, _, rfl, _⟩ := h
    rfl
  · obtain ⟨c, n, rfl, n1, u, q⟩ := h
    refine ⟨_, (pss_one (ps_ret (pe_callTy (kcall_tuple K) (by rfl) T.m_tuple (by decide +kernel) (pa_cons (pe_lc (own := [("k", 2)]) (g := gName 2) (tt := tYes) rfl nd (pi_range1 rfl T.m_range (pa_cons (pv 1) pa_nil)) (blkOk_by (by rfl)) (fun _ _ _ _ _ => (pg_name (i := 2) nd rfl (.inl rfl))) (fun _ _ _ _ _ => pts_nil) (fun _ _ _ _ _ => (pe_ifExp (pt_cmpR op_eq (pe_def D__law_pick (hr.mono (by omega)) rfl (pa_cons (pv 0) (pa_cons pe_int pa_nil))) pe_int (nomark _)) (pe_tup (pa_cons pe_int (pa_cons pe_int pa_nil))) (pe_def D__law_weight (hr.mono (by omega)) rfl (pa_cons (pv 0) pa_nil))))) pa_nil)))), ?_⟩
    refine ⟨.int (n : Nat), rfl, (n : Nat), rfl, by omega, by omega, fun D hD => ?_⟩
    have nDc := u.ne hD
    refine lc_all (walk_range (lo := 0) (n := (n : Int).toNat)) (fun i Hx => Sto Hx c ∧ But c H Hx ∧ ∃ (ws : List V) (r : List Rat), Hx D = some (.lst ws) ∧ ImAll K Hx ws (r.map rD) ∧ r.length = i ∧ ∀ q ∈ r, q = 0 ∨ Wt q) ⟨u.same (same_new hD), but_same (same_new hD), [], [], upd_same, .nil, rfl, fun q hq => by simp at hq⟩ (fun _ _ _ _ => trivial) (fun i x Hx Hy hi z y => ?_) (fun Hx z => ?_)
    · obtain ⟨ux, bx, ws, r, eD, im, lr, rw0⟩ := z
      obtain ⟨rfl, rfl⟩ := y
      rw [Int.toNat_natCast] at hi
      have lw : ws.length = r.length := all_len im
      have fin : ∀ (pq : Addr) (qq : Rat) (H9 : Hp), Sto H9 c → But c Hy H9 → Im K H9 (.ref pq) (rD qq) → (qq = 0 ∨ Wt qq) → ∃ acc, H9 D = some (.lst acc) ∧ acc.length < sizeLine ∧ Sto (upd H9 D (.lst (acc ++ [.ref pq]))) c ∧ But c H (upd H9 D (.lst (acc ++ [.ref pq]))) ∧ ∃ (ws : List V) (r : List Rat), (upd H9 D (.lst (acc ++ [.ref pq]))) D = some (.lst ws) ∧ ImAll K (upd H9 D (.lst (acc ++ [.ref pq]))) ws (r.map rD) ∧ r.length = i + 1 ∧ ∀ q ∈ r, q = 0 ∨ Wt q := fun pq qq H9 u9 b9 i9 w9 => by
        have e9 := b9 _ _ nDc eD
        refine ⟨ws, e9, small1000 (by omega), u9.upd nDc, fun b o nb e => ?_, _, r ++ [qq], upd_same, ?_, by rw [List.length_append, lr]; rfl, fun q hq => (List.mem_append.mp hq).elim (rw0 q) fun h => by rw [List.mem_singleton.mp h]; exact w9⟩
        · rw [upd_ne (ne_of_none e hD)]; exact b9 _ _ nb (bx _ _ nb e)
        · rw [List.map_append]
          exact (ImAll.mono ((b9.tk ux).trans (tk_lst e9)) _ im).snoc (Im.mono (tk_lst e9) _ i9)
      refine ⟨rfl, ?_⟩
      refine ⟨.ref c, rfl, c, 3, rfl, ux, by decide, fun d H3 d3 u3 b3 => ⟨rfl, _, rfl, ?_⟩⟩
      by_cases h : V.int (d : Nat) = V.int 0
      · rw [decide_eq_true h]
        refine iteT ⟨by show 2 ≤ sizeLine; decide, fun T hT => ?_⟩
        exact fin T 0 _ (u3.same (same_new hT)) (b3.trans (but_same (same_new hT))) (.tup (.inl upd_same) (.cons (.int _) (.cons (.int _) .nil))) (.inl rfl)
      · rw [decide_eq_false h]
        exact iteF ⟨.ref c, rfl, c, rfl, u3, fun p qq H4 u4 b4 i4 w4 => fin p qq H4 u4 (b3.trans b4) i4 (.inr w4)⟩
    · obtain ⟨ux, bx, ws, r, eD, im, lr, rw0⟩ := z
      rw [Int.toNat_natCast] at lr
      refine ⟨D, _, rfl, .inl ⟨.of eD, fun l hl => ?_⟩⟩
      exact q l r _ (ux.same (same_new hl)) (bx.trans (but_same (same_new hl))) (.tup (.inl upd_same) (ImAll.mono (tk_new hl) _ im)) lr rw0
end
end K63

set_option Elab.async false
set_option linter.all false
set_option maxRecDepth 100000
/-! sorted of a list of data -/
namespace SrtO
open PySem PySem.W PySem.Calls PyProof.Rows Srt
theorem perm_small {α : Type} : ∀ {l m : List α}, l.Perm m → m.length ≤ 1 → l = m
  | _, [], p, _ => List.perm_nil.mp p
  | _, [_], p, _ => List.perm_singleton.mp p
  | _, _ :: _ :: _, _, h => by simp at h
theorem sorted_one {prog : Program} {w : World} {A : Around} {E : Value → Shared → Prop} {s : Shared} {l : Addr} {vs : List Value} {Q : Value → Shared → Prop} (O : Swo fun (_ _ : Value) => false) (hl : s.heap.IsList l vs.toArray) (hz : vs.length ≤ sizeLine) (h1 : vs.length ≤ 1)
    (h : ∀ (h' : Heap) (d : Addr), s.heap.objs.size ≤ d → (∀ b o, s.heap.get? b = some o → h'.get? b = some o) → (∃ n, h'.get? d = some (seqObj "list" vs.toArray n)) → Q (.ref d) { s with heap := h' }) : wpAny (model prog w) A (call (.builtin "sorted") [.ref l]) Q E s := by
  refine sorted_ord O hl hz (fun h2 => by omega) fun out hs hb => ?_
  have e : out = vs := perm_small hb.perm h1
  rw [e]
  exact h _ _ (Nat.le_succ _) (fun b o e => sortedAll_old e) (sortedAll_at s.heap vs vs.toArray)
end SrtO
namespace Ly
open PySem PySem.Spec PyProof.Rows L2
def sortedOf (xs : List V) (bs : List PyData) : List (V × PyData) := (xs.zip bs).mergeSort (PySem.W.dataLe false fun x : V × PyData => x.2)
def rSortD (K : PySem.W.Frag) : List V → Hp → VK → Prop := fun vs H Q => ∃ (a : Addr) (xs : List V) (bs : List PyData), vs = [.ref a] ∧ SqL K H a xs ∧ ImAll K H xs bs ∧ PySem.W.AllAlike bs ∧ (PySem.W.Sortable bs ∨ bs.length ≤ 1) ∧ (∀ d ∈ bs, d.depth ≤ 8) ∧
  ∀ p, H p = none → Q (.ref p) (upd H p (.lst ((sortedOf xs bs).map (·.1))))
theorem zip_snd {xs : List V} {bs : List PyData} (h : xs.length = bs.length) : (xs.zip bs).map (fun x : V × PyData => x.2) = bs := by
  rw [List.map_snd_zip]
  omega
theorem kcr_sortedD {X : Cx} (K : PySem.W.Frag) (hu : X.A.units + 20 < cLine) (eK : X.K = K := by rfl) : CallR X (.builtin "sorted") (rSortD K) := by
  subst eK
  intro pins s σ H vs us Q I r q
  obtain ⟨a, xs, bs, rfl, hs, im, al, so, dp, q⟩ := q
  obtain ⟨its, rv, hl, hz⟩ := I.list hs
  rw [Vals.ref1 r]
  have l1 : xs.length = bs.length := im.length
  have lv : xs.length = its.length := rv.length
  have ez : (xs.zip bs).length = xs.length := by rw [List.length_zip]; omega
  have E1 : PySem.W.EachIs (fun (v : Value) (b : V × PyData) => RelV b.1 v ∧ ∃ as, Reads s.heap v b.2 as) its (xs.zip bs) := each_of (by omega) fun i v b h1 h2 => by
    rw [List.getElem?_zip_eq_some] at h2
    obtain ⟨h3, h4⟩ := h2
    obtain ⟨u, h5, h6⟩ := rv.get h3
    rw [h1] at h5
    obtain rfl := Option.some.inj h5
    obtain ⟨x, h7, h8⟩ := im.get h4
    rw [h3] at h7
    obtain rfl := Option.some.inj h7
    exact ⟨h6, Dp.reads I b.2 b.1 v (Im.dp _ h8) h6⟩
  rcases so with so | so
  rotate_left
  · have lv1 : its.length ≤ 1 := by omega
    have sw : SrtO.Swo (fun (_ _ : Value) => false) := ⟨fun _ _ h => Bool.noConfusion h, fun _ _ _ _ _ => rfl⟩
    refine SrtO.sorted_one sw hl.isList (by rw [← lv]; exact hz) lv1 fun h' d hd kp hn => ?_
    obtain ⟨n, hn⟩ := hn
    have eq : sortedOf xs bs = xs.zip bs := by
      unfold sortedOf
      match h : xs.zip bs with
      | [] => exact List.mergeSort_nil
      | [a] => exact List.mergeSort_singleton a
      | a :: b :: r => rw [h] at ez; simp at ez; omega
    have em : (sortedOf xs bs).map (·.1) = xs := by
      rw [eq, List.map_fst_zip]
      omega
    refine ⟨.ref d, upd H d (.lst ((sortedOf xs bs).map (·.1))), I.laid (t' := s.toks) kp hd ⟨?_, its, n, by rw [em]; exact rv, hn⟩, rfl, q _ (I.hok.fresh hd)⟩
    rw [em]; exact hz
  refine PySem.W.sorted_data (R := fun (v : Value) (b : V × PyData) => RelV b.1 v) (enc := fun b : V × PyData => b.2) (vs := its) (bs := xs.zip bs) hl.isList (E1.mono fun _ _ h => h.1) (E1.mono fun _ _ h => h.2) (by rw [zip_snd l1]; exact al) (by rw [zip_snd l1]; exact so) (by rw [ez]; exact hz) (fun b hb => ?_) fun out ho eo => ?_
  · have : b.2 ∈ bs := by rw [← zip_snd l1]; exact List.mem_map.mpr ⟨b, hb, rfl⟩
    have := dp _ this
    omega
  · have vo : Vals ((sortedOf xs bs).map (·.1)) out := by
      clear ho
      show Vals (((xs.zip bs).mergeSort (PySem.W.dataLe false fun b : V × PyData => b.2)).map (·.1)) out
      generalize (xs.zip bs).mergeSort (PySem.W.dataLe false fun b : V × PyData => b.2) = L at eo
      induction eo with
      | nil => exact .nil
      | cons h _ ih => exact .cons h ih
    obtain ⟨n, hn⟩ := sortedAll_at s.heap its out.toArray
    refine ⟨.ref (s.heap.objs.size + 1), upd H (s.heap.objs.size + 1) (.lst ((sortedOf xs bs).map (·.1))), I.laid (t' := s.toks) (fun b o e => sortedAll_old e) (Nat.le_succ _) ⟨?_, out, n, vo, hn⟩, rfl, q _ (I.hok.fresh (Nat.le_succ _))⟩
    unfold sortedOf
    rw [List.length_map, List.length_mergeSort, ez]
    exact hz
/-- what the sorted list holds -/
theorem sortedOf_perm (xs : List V) (bs : List PyData) : (sortedOf xs bs).Perm (xs.zip bs) := List.mergeSort_perm _ _
theorem sortedOf_im {K : PySem.W.Frag} {H : Hp} {xs : List V} {bs : List PyData} (im : ImAll K H xs bs) : ImAll K H ((sortedOf xs bs).map (·.1)) ((sortedOf xs bs).map (·.2)) := by
  have h : ∀ b ∈ sortedOf xs bs, Im K H b.1 b.2 := fun b hb => by
    have := (sortedOf_perm xs bs).mem_iff.mp hb
    obtain ⟨i, hi⟩ := List.getElem?_of_mem this
    rw [List.getElem?_zip_eq_some] at hi
    obtain ⟨x, h1, h2⟩ := im.get hi.2
    rw [hi.1] at h1
    obtain rfl := Option.some.inj h1
    exact h2
  generalize sortedOf xs bs = L at h
  induction L with
  | nil => exact .nil
  | cons b L ih => exact .cons (h b (List.mem_cons_self ..)) (ih fun c hc => h c (List.mem_cons_of_mem _ hc))
theorem sortedOf_data {xs : List V} {bs : List PyData} (e : xs.length = bs.length) : ((sortedOf xs bs).map (·.2)).Perm bs := by
  have := (sortedOf_perm xs bs).map (fun x : V × PyData => x.2)
  rwa [zip_snd e] at this
theorem sortedOf_asc (xs : List V) (bs : List PyData) : ((sortedOf xs bs).map (·.2)).Pairwise fun x y => PySem.W.dataLt y x = false := by
  have tl := PySem.W.sortLe_total (PyProof.Rows.listOrd PyProof.Rows.itemOrd) false fun x : V × PyData => PySem.W.keyToks x.2
  have pw := List.pairwise_mergeSort tl.trans (fun a b => by rw [Bool.or_eq_true]; exact tl.total a b) (xs.zip bs)
  rw [List.pairwise_map]
  refine List.Pairwise.imp (fun {a b} h => ?_) pw
  have : (!PySem.W.dataLt b.2 a.2) = true := h
  simpa using this
end Ly

set_option Elab.async false
set_option linter.all false
set_option maxRecDepth 100000
set_option exponentiation.threshold 20000
set_option pp.deepTerms false
set_option pp.deepTerms.threshold 8
namespace K63
open PySem PySem.Spec PyProof.Rows L2 Ly Mt
/-! ### keys of terms, in order -/
def nlt : List Nat → List Nat → Bool
  | x :: a, y :: b => decide (x < y) || (decide (x = y) && nlt a b)
  | _, _ => false
theorem lex_int (x y : Nat) (r t : List (Int ⊕ List Nat)) (b : Bool) (h : PyProof.Rows.lexLt PyProof.Rows.itemOrd r t = b) : PyProof.Rows.lexLt PyProof.Rows.itemOrd (Sum.inl (x : Int) :: r) (Sum.inl (y : Int) :: t) = (decide (x < y) || (decide (x = y) && b)) := by
  rw [PyProof.Rows.lex_cons, h]
  show (decide ((x : Int) < y) || (!decide ((y : Int) < x) && b)) = _
  by_cases h1 : x < y
  · rw [decide_eq_true h1, decide_eq_true (show (x : Int) < y by omega)]; rfl
  · rw [decide_eq_false h1, decide_eq_false (show ¬ (x : Int) < y by omega)]
    by_cases h2 : x = y
    · rw [decide_eq_true h2, decide_eq_false (show ¬ (y : Int) < x by omega)]; rfl
    · rw [decide_eq_false h2, decide_eq_true (show (y : Int) < x by omega)]; rfl
theorem lex_nats : ∀ (a b : List Nat), a.length = b.length → PyProof.Rows.lexLt PyProof.Rows.itemOrd (PySem.W.keyToksAll (a.map nD) ++ [Sum.inl 0]) (PySem.W.keyToksAll (b.map nD) ++ [Sum.inl 0]) = nlt a b
  | [], [], _ => rfl
  | x :: a, y :: b, h => by
    have ih := lex_nats a b (by simpa using h)
    show PyProof.Rows.lexLt PyProof.Rows.itemOrd (Sum.inl 1 :: (Sum.inl (x : Int) :: (PySem.W.keyToksAll (a.map nD) ++ [Sum.inl 0]))) (Sum.inl 1 :: (Sum.inl (y : Int) :: (PySem.W.keyToksAll (b.map nD) ++ [Sum.inl 0]))) = _
    rw [PyProof.Rows.lex_self]
    exact lex_int x y _ _ _ ih
def key (t : Tm) : List Nat := t.1 :: t.2.1
theorem lt_keyT {s t : Tm} (h : s.2.1.length = t.2.1.length) : PySem.W.dataLt (keyT s) (keyT t) = nlt (key s) (key t) := by
  show PyProof.Rows.lexLt PyProof.Rows.itemOrd (Sum.inl 1 :: (Sum.inl (s.1 : Int) :: (Sum.inl 1 :: (PySem.W.keyToksAll (s.2.1.map nD) ++ [Sum.inl 0])))) (Sum.inl 1 :: (Sum.inl (t.1 : Int) :: (Sum.inl 1 :: (PySem.W.keyToksAll (t.2.1.map nD) ++ [Sum.inl 0])))) = _
  rw [PyProof.Rows.lex_self]
  refine lex_int _ _ _ _ _ ?_
  rw [PyProof.Rows.lex_self]
  exact lex_nats _ _ h
theorem perm_map_inv {α β : Type} {f : α → β} {a b : List β} (h : a.Perm b) : ∀ l : List α, b = l.map f → ∃ m : List α, m.Perm l ∧ a = m.map f := by
  induction h with
  | nil =>
    intro l e
    have : l = [] := by simpa using e.symm
    subst this
    exact ⟨[], .refl _, rfl⟩
  | cons x _ ih =>
    intro l e
    cases l with
    | nil => simp at e
    | cons y l =>
      rw [List.map_cons] at e
      obtain ⟨e1, e2⟩ := List.cons.inj e
      obtain ⟨m, hm, rfl⟩ := ih l e2
      exact ⟨y :: m, hm.cons y, by rw [e1]; rfl⟩
  | swap x y t =>
    intro l e
    match l, e with
    | [], e => simp at e
    | [_], e => simp at e
    | a :: b :: l, e =>
      rw [List.map_cons, List.map_cons] at e
      obtain ⟨e1, e2⟩ := List.cons.inj e
      obtain ⟨e3, e4⟩ := List.cons.inj e2
      exact ⟨b :: a :: l, .swap a b l, by rw [e1, e3, e4]; rfl⟩
  | trans _ _ ih1 ih2 =>
    intro l e
    obtain ⟨m, hm, rfl⟩ := ih2 l e
    obtain ⟨m2, hm2, rfl⟩ := ih1 m rfl
    exact ⟨m2, hm2.trans hm, rfl⟩
def tNGetK (P : Program) (w : World) (K : PySem.W.Frag) (td ty : TE) : TE := fun σ H Q => td σ H fun x H1 => ty σ H1 fun y H2 => ∃ a xs k b v, x = .ref a ∧ rGetN P w K H2 a y xs k b ∧ valN xs k = some v ∧ Q (.ref v) H2
theorem kpe_nget {X : Cx} (P : Program) (w : World) (K : PySem.W.Frag) {o i : Expr} {pos : Pos} {td ty : TE} (hu : X.A.units + 10 < cLine) (ho : PE X o td) (hi : PE X i ty) (hs : NoSl i) (eP : X.prog = P := by rfl) (ew : X.w = w := by rfl) (eK : X.K = K := by rfl) : PE X (.Subscript o i pos) (tNGetK P w K td ty) := by
  subst eP ew eK
  exact pe_nget hu ho hi hs
theorem hu20 {A : Around} {k : Nat} (hr : Room k A) : A.units + 20 < cLine := by have := hr.units; omega
/-! ### keys of terms -/
def kOf (r : Nat) (cs : List Nat) : NestedKey := .tup [.num (r : Int), .tup (cs.map fun c : Nat => .num (c : Int))]
theorem kDs_nums : ∀ cs : List Nat, kDs (cs.map fun c : Nat => .num (c : Int)) = cs.map nD
  | [] => rfl
  | c :: cs => by
    show kD (.num (c : Int)) :: kDs _ = _
    rw [kDs_nums cs]; rfl
theorem kD_of (r : Nat) (cs : List Nat) (q : Rat) : kD (kOf r cs) = keyT (r, cs, q) := by
  show PyData.tuple [.int (r : Int), .tuple (kDs _)] = _
  rw [kDs_nums]; rfl
theorem nums_inj : ∀ {a b : List Nat}, (a.map fun c : Nat => NestedKey.num (c : Int)) = (b.map fun c : Nat => NestedKey.num (c : Int)) → a = b
  | [], [], _ => rfl
  | [], _ :: _, h => by simp at h
  | _ :: _, [], h => by simp at h
  | x :: a, y :: b, h => by
    rw [List.map_cons, List.map_cons] at h
    injection h with h1 h2
    injection h1 with h3
    rw [nums_inj h2, show x = y by omega]
theorem kOf_inj {r r' : Nat} {a b : List Nat} (h : kOf r a = kOf r' b) : r = r' ∧ a = b := by
  unfold kOf at h
  injection h with h
  injection h with h1 h2
  injection h1 with h1
  injection h2 with h2 _
  injection h2 with h2
  exact ⟨by omega, nums_inj h2⟩
theorem nums_depth : ∀ cs : List Nat, NestedKey.depthAll (cs.map fun c : Nat => .num (c : Int)) = 0
  | [] => by simp [NestedKey.depthAll]
  | c :: cs => by
    rw [List.map_cons]
    simp only [NestedKey.depthAll, NestedKey.depth]
    rw [nums_depth cs]; rfl
theorem kOf_depth (r : Nat) (cs : List Nat) : (kOf r cs).depth ≤ 8 := by
  unfold kOf
  simp only [NestedKey.depth, NestedKey.depthAll, nums_depth]
  decide
theorem nlt_total : ∀ {a b : List Nat}, a.length = b.length → nlt a b = false → nlt b a = false → a = b
  | [], [], _, _, _ => rfl
  | [], _ :: _, h, _, _ => by simp at h
  | _ :: _, [], h, _, _ => by simp at h
  | x :: a, y :: b, h, h1, h2 => by
    have h1' : (decide (x < y) || (decide (x = y) && nlt a b)) = false := h1
    have h2' : (decide (y < x) || (decide (y = x) && nlt b a)) = false := h2
    rw [Bool.or_eq_false_iff] at h1' h2'
    have e : x = y := by
      have := of_decide_eq_false h1'.1
      have := of_decide_eq_false h2'.1
      omega
    subst e
    rw [decide_eq_true rfl, Bool.true_and] at h1' h2'
    rw [nlt_total (by simpa using h) h1'.2 h2'.2]
theorem valN_some {xs : List NK} {k : NestedKey} {v : Addr} (h : valN xs k = some v) : ∃ x ∈ xs, x.1 = k ∧ x.2.2 = v := by
  unfold valN at h
  obtain ⟨x, hx, e⟩ := Option.map_eq_some_iff.mp h
  exact ⟨x, List.mem_of_find?_eq_some hx, of_decide_eq_true (List.find?_some (p := fun x : NK => decide (x.1 = k)) hx), e⟩
theorem valN_of {xs : List NK} (nd : (xs.map (·.1)).Nodup) {x : NK} (hx : x ∈ xs) : valN xs x.1 = some x.2.2 := by
  unfold valN
  cases e : xs.find? (fun y => decide (y.1 = x.1)) with
  | none =>
    have := List.find?_eq_none.mp e x hx
    exact absurd (decide_eq_true rfl) this
  | some y =>
    have h1 := List.mem_of_find?_eq_some e
    have h2 : y.1 = x.1 := of_decide_eq_true (List.find?_some (p := fun z : NK => decide (z.1 = x.1)) e)
    obtain ⟨i, hi⟩ := List.getElem?_of_mem h1
    obtain ⟨j, hj⟩ := List.getElem?_of_mem hx
    have g1 : (xs.map (·.1))[i]? = some y.1 := by rw [List.getElem?_map, hi]; rfl
    have g2 : (xs.map (·.1))[j]? = some x.1 := by rw [List.getElem?_map, hj]; rfl
    have hij := (List.getElem?_inj (List.getElem?_eq_some_iff.mp g1).1 nd).mp (g1.trans (by rw [h2]; exact g2.symm))
    subst hij
    rw [hi] at hj
    rw [Option.some.inj hj]; rfl
theorem valN_none {xs : List NK} {k : NestedKey} (h : valN xs k = none) : k ∉ xs.map (·.1) := fun z => by
  obtain ⟨x, hx, e⟩ := List.mem_map.mp z
  unfold valN at h
  rw [Option.map_eq_none_iff] at h
  have := List.find?_eq_none.mp h x hx
  exact this (decide_eq_true e)
theorem tk_ext {H : Hp} {p : Addr} {o : HO} {φ : Heap → Prop} (h : H p = some (.ext φ)) : TK H (upd H p o) := fun b ys e => by
  rw [upd_ne (fun z => by rw [z, h] at e; cases e)]; exact e
/-- the dict of terms as it is drawn -/
structure XI (K : PySem.W.Frag) (H : Hp) (dim : Nat) (ws : List Nat) (i : Nat) (xs : List NK) : Prop where
  keys : KeysIm K H xs
  nd : (xs.map (·.1)).Nodup
  few : xs.length ≤ i
  each : ∀ x ∈ xs, ∃ r cs q, x.1 = kOf r cs ∧ r < dim ∧ cs.length = ws.length ∧ (∀ (i c n : Nat), cs[i]? = some c → ws[i]? = some n → c < n) ∧ Im K H (.ref x.2.2) (rD q) ∧ Wt q
theorem XI.mono {K : PySem.W.Frag} {H H' : Hp} {dim : Nat} {ws : List Nat} {i : Nat} {xs : List NK} (h : XI K H dim ws i xs) (t : TK H H') : XI K H' dim ws i xs :=
  ⟨h.keys.mono t, h.nd, h.few, fun x hx => let ⟨r, cs, q, a, b, c, d, e, f⟩ := h.each x hx; ⟨r, cs, q, a, b, c, d, Im.mono t _ e, f⟩⟩
theorem XI.put {K : PySem.W.Frag} {H : Hp} {dim : Nat} {ws : List Nat} {i : Nat} {xs : List NK} (h : XI K H dim ws i xs) {r : Nat} {cs : List Nat} {q : Rat} {b v : Addr} (hr : r < dim) (hc : cs.length = ws.length) (hl : ∀ (i c n : Nat), cs[i]? = some c → ws[i]? = some n → c < n)
    (ib : Im K H (.ref b) (kD (kOf r cs))) (iv : Im K H (.ref v) (rD q)) (cf : Wt q) : XI K H dim ws (i + 1) (putN xs (kOf r cs) b v) := by
  have few := h.few
  refine ⟨putN_keys h.keys ib (kOf_depth r cs), ?_, Nat.le_trans (putN_length ..) (by omega), fun x hx => ?_⟩
  · unfold putN
    by_cases hs : (valN xs (kOf r cs)).isSome = true
    · rw [if_pos hs, List.map_map]
      have : (xs.map ((fun x : NK => x.1) ∘ fun x => if x.1 = kOf r cs then (x.1, x.2.1, v) else x)) = xs.map (·.1) := List.map_congr_left fun x _ => by
        show (if x.1 = kOf r cs then (x.1, x.2.1, v) else x).1 = x.1
        split <;> rfl
      rw [this]
      exact h.nd
    · rw [if_neg hs, List.map_append]
      have hn : valN xs (kOf r cs) = none := by simpa using hs
      refine List.nodup_append.mpr ⟨h.nd, List.pairwise_singleton _ _, fun a ha c hc e => ?_⟩
      have hc' : c = kOf r cs := List.mem_singleton.mp hc
      rw [e, hc'] at ha
      exact valN_none hn ha
  · unfold putN at hx
    split at hx
    · obtain ⟨y, hy, rfl⟩ := List.mem_map.mp hx
      obtain ⟨r', cs', q', a1, a2, a3, a4, a5, a6⟩ := h.each y hy
      split
      · exact ⟨r', cs', q, a1, a2, a3, a4, iv, cf⟩
      · exact ⟨r', cs', q', a1, a2, a3, a4, a5, a6⟩
    · rcases List.mem_append.mp hx with hx | hx
      · exact h.each x hx
      · rw [List.mem_singleton.mp hx]
        exact ⟨r, cs, q, rfl, hr, hc, hl, iv, cf⟩
theorem XI.alike {K : PySem.W.Frag} {H : Hp} {dim : Nat} {ws : List Nat} {n : Nat} {xs : List NK} (h : XI K H dim ws n xs) : PySem.W.AllAlike (xs.map fun x => kD x.1) := by
  intro a ha b hb
  obtain ⟨x, hx, rfl⟩ := List.mem_map.mp ha
  obtain ⟨y, hy, rfl⟩ := List.mem_map.mp hb
  obtain ⟨r, cs, _, e1, _⟩ := h.each x hx
  obtain ⟨r', cs', _, e2, _⟩ := h.each y hy
  rw [e1, e2, kD_of _ _ 0, kD_of _ _ 0]
  exact alike_keyT _ _
theorem XI.sortable {K : PySem.W.Frag} {H : Hp} {dim : Nat} {ws : List Nat} {n : Nat} {xs : List NK} (h : XI K H dim ws n xs) : PySem.W.Sortable (xs.map fun x => kD x.1) := by
  refine .inl fun a ha => ?_
  obtain ⟨x, hx, rfl⟩ := List.mem_map.mp ha
  obtain ⟨r, cs, _, e1, _⟩ := h.each x hx
  exact ⟨_, _, by rw [e1, kD_of _ _ 0]; rfl⟩
theorem XI.deep {K : PySem.W.Frag} {H : Hp} {dim : Nat} {ws : List Nat} {n : Nat} {xs : List NK} (h : XI K H dim ws n xs) : ∀ d ∈ xs.map (fun x => kD x.1), d.depth ≤ 8 := fun d hd => by
  obtain ⟨x, hx, rfl⟩ := List.mem_map.mp hd
  obtain ⟨r, cs, _, e1, _⟩ := h.each x hx
  rw [e1, kD_of _ _ 0]
  have := depth_nats cs
  show max 0 (max (PyData.depthAll (cs.map nD) + 1) 0) + 1 ≤ 8
  omega
/-- the keys in order -/
theorem XI.inorder {K : PySem.W.Frag} {H : Hp} {dim : Nat} {ws : List Nat} {n : Nat} {xs : List NK} (h : XI K H dim ws n xs) : ∃ ys : List NK, ys.Perm xs ∧ (sortedOf (xs.map fun x => V.ref x.2.1) (xs.map fun x => kD x.1)).map (·.1) = ys.map (fun x => V.ref x.2.1) ∧
    ys.Pairwise fun x y => ∀ r cs r' cs', x.1 = kOf r cs → y.1 = kOf r' cs' → nlt (r :: cs) (r' :: cs') = true := by
  have pz : (sortedOf (xs.map fun x => V.ref x.2.1) (xs.map fun x => kD x.1)).Perm (xs.map fun x => (V.ref x.2.1, kD x.1)) := by
    have := sortedOf_perm (xs.map fun x => V.ref x.2.1) (xs.map fun x => kD x.1)
    rwa [List.zip_map'] at this
  obtain ⟨ys, py, ey0⟩ := perm_map_inv pz xs rfl
  have ey := ey0.symm
  refine ⟨ys, py, ?_, ?_⟩
  · rw [← ey, List.map_map]; rfl
  · have asc := sortedOf_asc (xs.map fun x => V.ref x.2.1) (xs.map fun x => kD x.1)
    rw [← ey, List.map_map, List.pairwise_map] at asc
    have ndy : (ys.map (·.1)).Nodup := (py.map _).nodup_iff.mpr h.nd
    have ndy' := List.pairwise_map.mp ndy
    refine (List.Pairwise.and asc ndy').imp_of_mem fun {x y} hx hy hxy r cs r' cs' ex ey' => ?_
    obtain ⟨h1, h2⟩ := hxy
    obtain ⟨r1, c1, _, k1, _, l1, _⟩ := h.each x (py.mem_iff.mp hx)
    obtain ⟨r2, c2, _, k2, _, l2, _⟩ := h.each y (py.mem_iff.mp hy)
    obtain ⟨rfl, rfl⟩ := kOf_inj (ex.symm.trans k1)
    obtain ⟨rfl, rfl⟩ := kOf_inj (ey'.symm.trans k2)
    have lt0 : PySem.W.dataLt (kD y.1) (kD x.1) = false := h1
    rw [ex, ey', kD_of _ _ 0, kD_of _ _ 0, lt_keyT (by show cs'.length = cs.length; omega)] at lt0
    cases e : nlt (r :: cs) (r' :: cs') with
    | true => rfl
    | false =>
      have := nlt_total (a := r :: cs) (b := r' :: cs') (by simp; omega) e lt0
      injection this with t1 t2
      exact absurd (show x.1 = y.1 by rw [ex, ey', t1, t2]) h2
/-- the terms of a maker, drawn -/
structure Drn (dim : Nat) (ws : List Nat) (ts : List Tm) : Prop where
  ok : TermsOk dim ws 4000 ts
  few : ts.length ≤ 6
  wt : ∀ t ∈ ts, Wt t.2.2
theorem drn_mk {dim : Nat} {ws : List Nat} {ts : List Tm} (few : ts.length ≤ 6) (asc : ts.Pairwise fun a b => nlt (key a) (key b) = true) (each : ∀ t ∈ ts, TermOk dim ws t ∧ Wt t.2.2) : Drn dim ws ts := by
  refine ⟨⟨by omega, fun t ht => (each t ht).1, fun j a b ha hb => ?_⟩, few, fun t ht => (each t ht).2⟩
  obtain ⟨h1, e1⟩ := List.getElem?_eq_some_iff.mp ha
  obtain ⟨h2, e2⟩ := List.getElem?_eq_some_iff.mp hb
  have := List.pairwise_iff_getElem.mp asc j (j + 1) h1 h2 (by omega)
  rw [e1, e2] at this
  have la := (each a (List.mem_of_getElem? ha)).1.len
  have lb := (each b (List.mem_of_getElem? hb)).1.len
  rw [lt_keyT (by omega)]
  exact this
end K63

set_option Elab.async false
set_option linter.all false
namespace K63
open PySem PySem.Spec PyProof.Rows L2 Ly Mt
/-- a form's terms, where D63j is not at hand -/
def termsAt (F : Form) (i j : Nat) : List Tm := (F.maps.getD i []).getD j []
theorem get_snoc {α : Type} {l : List α} {a x : α} {i : Nat} (h : (l ++ [a])[i]? = some x) : l[i]? = some x ∨ (i = l.length ∧ x = a) := by
  by_cases hi : i < l.length
  · rw [List.getElem?_append_left hi] at h
    exact .inl h
  · rw [List.getElem?_append_right (by omega)] at h
    have hlt := (List.getElem?_eq_some_iff.mp h).1
    rw [List.length_singleton] at hlt
    rw [show i - l.length = 0 by omega] at h
    exact .inr ⟨by omega, (Option.some.inj h).symm⟩
theorem num_not {ks : List Kd} (ok : KindsOk ks) : ("number" : Str) ∉ ks.map (·.1) := fun z => by
  obtain ⟨k, hk, e⟩ := List.mem_map.mp z
  obtain ⟨_, c, hc, hh⟩ := ok.nm k hk
  rw [e] at hc
  have e2 : ("number" : Str).cps[0]? = some 110 := by decide +kernel
  rw [e2] at hc
  obtain rfl := Option.some.inj hc
  exact absurd hh (by decide +kernel)
theorem idx_get {ns : List Str} (nd : ns.Nodup) {i : Nat} {x : Str} (h : ns[i]? = some x) : ns.idxOf x = i := by
  have hm := List.mem_of_getElem? h
  have hl := List.idxOf_lt_length_of_mem hm
  have e : ns[ns.idxOf x]? = some x := by rw [List.getElem?_eq_getElem hl]; exact congrArg some (List.getElem_idxOf hl)
  exact (List.getElem?_inj hl nd).mp (e.trans h.symm)
end K63

set_option Elab.async false
set_option linter.all false
set_option maxRecDepth 100000
set_option exponentiation.threshold 20000
set_option pp.deepTerms false
set_option pp.deepTerms.threshold 8
namespace K63
open PySem PySem.Spec PyProof.Rows L2 Ly Mt
/-- a form as it is drawn -/
structure Drf (F : Form) : Prop where
  ok : FormOk 1 F
  few : ∀ i j, (termsAt F i j).length ≤ 6
  wt : ∀ i j, ∀ t ∈ termsAt F i j, Wt t.2.2
  rw : ∀ r ∈ F.rds, ∀ q ∈ r.2.2, q = 0 ∨ Wt q
structure DimsOk (ks : List Kd) (ds : List Nat) : Prop where
  len : ds.length = ks.length
  d16 : ∀ d ∈ ds, d ≤ 16
  d3 : ∀ (j : Nat) d, ds[j]? = some d → 1 ≤ j → d ≤ 3
def CellD (ks : List Kd) (ds : List Nat) (i : Nat) (m : Mk) (ts : List Tm) : Prop := Drn (ds.getD i 0) (m.2.map (wd (ks.map (·.1)) ds)) ts
def RowD (ks : List Kd) (ds : List Nat) (i : Nat) (row : List (List Tm)) : Prop := ∀ kd, ks[i]? = some kd → row.length = kd.2.length ∧ ∀ (j : Nat) m ts, kd.2[j]? = some m → row[j]? = some ts → CellD ks ds i m ts
def tlsS (d : Nat) : List Str := ([["f", "g", "h"], ["r1", "r2", "r3"], ["a", "aa", "aaa"], ["xP0", "xQ0", "xR0"]] : List (List Str)).getD d []
def lowB (z : Str) : Bool := nameB z && (match z.cps[0]? with | some c => lowC c | none => false)
theorem lowB_ok {z : Str} (h : lowB z = true) : NameOk z ∧ ∃ c, z.cps[0]? = some c ∧ lowC c = true := by
  unfold lowB at h
  rw [Bool.and_eq_true] at h
  refine ⟨nameB_ok h.1, ?_⟩
  have h2 := h.2
  split at h2
  · next c e => exact ⟨c, e, h2⟩
  · simp at h2
theorem tls_low : ∀ d < 4, ∀ z ∈ tlsS d, lowB z = true := by decide +kernel
theorem tls_nd : ∀ d < 4, (tlsS d).Nodup := by decide +kernel
theorem tls_len : ∀ d < 4, (tlsS d).length = 3 := by decide +kernel
structure RdsD (ks : List Kd) (ds : List Nat) (d t : Nat) (rs : List Rd) : Prop where
  nm : rs.map (·.1) = (tlsS d).take t
  kind : ∀ r ∈ rs, r.2.1 ∈ ks.map (·.1) ∧ r.2.2.length = ds.getD ((ks.map (·.1)).idxOf r.2.1) 0
  wt : ∀ r ∈ rs, ∀ q ∈ r.2.2, q = 0 ∨ Wt q
theorem sum_dims : ∀ {ds : List Nat}, ds.length ≤ 3 → (∀ d ∈ ds, d ≤ 16) → (∀ (j : Nat) d, ds[j]? = some d → 1 ≤ j → d ≤ 3) → ds.sum ≤ 32
  | [], _, _, _ => by decide
  | [a], _, h, _ => by have := h a (by simp); simp; omega
  | [a, b], _, h, k => by have := h a (by simp); have := k 1 b rfl (by omega); simp; omega
  | [a, b, c], _, h, k => by have := h a (by simp); have := k 1 b rfl (by omega); have := k 2 c rfl (by omega); simp; omega
  | _ :: _ :: _ :: _ :: _, h, _, _ => by simp at h
theorem drf_mk {ks : List Kd} {ds : List Nat} {maps : List (List (List Tm))} {rs : List Rd} {d t : Nat} (ok : KindsOk ks) (k3 : ks.length ≤ 3) (dok : DimsOk ks ds) (lm : maps.length = ks.length) (hr : ∀ (i : Nat) row, maps[i]? = some row → RowD ks ds i row) (d4 : d < 4) (rd : RdsD ks ds d t rs) : Drf ⟨ks, ds, maps, rs⟩ := by
  have cell : ∀ i j ts, (maps.getD i []).getD j [] = ts → ts = [] ∨ ∃ kd m, ks[i]? = some kd ∧ kd.2[j]? = some m ∧ CellD ks ds i m ts := fun i j ts e => by
    by_cases hi : i < maps.length
    · have ei := List.getElem?_eq_getElem hi
      rw [getD_some ei] at e
      have ek := List.getElem?_eq_getElem (show i < ks.length by omega)
      obtain ⟨l1, l2⟩ := hr i _ ei _ ek
      by_cases hj : j < maps[i].length
      · have ej := List.getElem?_eq_getElem hj
        rw [getD_some ej] at e
        have em := List.getElem?_eq_getElem (show j < ks[i].2.length by omega)
        exact .inr ⟨_, _, ek, em, by rw [← e]; exact l2 j _ _ em ej⟩
      · rw [List.getD_eq_getElem?_getD, List.getElem?_eq_none (by omega)] at e
        exact .inl e.symm
    · have en : maps.getD i [] = [] := by rw [List.getD_eq_getElem?_getD, List.getElem?_eq_none (by omega)]; rfl
      rw [en] at e
      exact .inl e.symm
  refine ⟨⟨by decide, ok, dok.len, fun d hd => by have := dok.d16 d hd; omega, by have := sum_dims (by rw [dok.len]; exact k3) dok.d16 dok.d3; show ds.sum ≤ 32 * 1; omega, lm, fun i kd row hk hm => (hr i row hm kd hk).1, fun i kd row hk hm j m ts h1 h2 => ((hr i row hm kd hk).2 j m ts h1 h2).ok, ?_⟩, fun i j => ?_, fun i j => ?_, rd.wt⟩
  · have nl := tls_len d d4
    refine ⟨?_, fun r hr => ?_, ?_, rd.kind⟩
    · have := congrArg List.length rd.nm
      rw [List.length_map, List.length_take] at this
      show rs.length ≤ 60
      omega
    · have : r.1 ∈ rs.map (·.1) := List.mem_map.mpr ⟨r, hr, rfl⟩
      rw [rd.nm] at this
      exact lowB_ok (tls_low d d4 _ (List.mem_of_mem_take this))
    · show (rs.map (·.1)).Nodup
      rw [rd.nm]
      exact (tls_nd d d4).sublist (List.take_sublist _ _)
  · rcases cell i j _ rfl with h | ⟨kd, m, _, _, h⟩
    · show (((maps.getD i []).getD j []).length) ≤ 6
      rw [h]; decide
    · exact h.few
  · rcases cell i j _ rfl with h | ⟨kd, m, _, _, h⟩
    · show ∀ t ∈ (maps.getD i []).getD j [], _
      rw [h]
      intro t ht
      simp at ht
    · exact h.wt
theorem XI.less {K : PySem.W.Frag} {H : Hp} {dim : Nat} {ws : List Nat} {i j : Nat} {xs : List NK} (h : XI K H dim ws i xs) (hij : i ≤ j) : XI K H dim ws j xs := ⟨h.keys, h.nd, Nat.le_trans h.few hij, h.each⟩
theorem keys_all {K : PySem.W.Frag} {H : Hp} : ∀ {xs : List NK}, KeysIm K H xs → ImAll K H (xs.map fun x => V.ref x.2.1) (xs.map fun x => kD x.1)
  | [], _ => .nil
  | x :: xs, h => .cons (h x (List.mem_cons_self ..)).1 (keys_all fun y hy => h y (List.mem_cons_of_mem _ hy))
theorem asc_terms {ys : List NK} {ts : List Tm} (asc : ys.Pairwise fun x y => ∀ r cs r' cs', x.1 = kOf r cs → y.1 = kOf r' cs' → nlt (r :: cs) (r' :: cs') = true) (h : ∀ (j : Nat) t, ts[j]? = some t → ∃ x, ys[j]? = some x ∧ x.1 = kOf t.1 t.2.1) : ts.Pairwise fun a b => nlt (key a) (key b) = true := by
  rw [List.pairwise_iff_getElem]
  intro i j hi hj hij
  obtain ⟨x, hx, ex⟩ := h i _ (List.getElem?_eq_getElem hi)
  obtain ⟨y, hy, ey⟩ := h j _ (List.getElem?_eq_getElem hj)
  obtain ⟨h1, e1⟩ := List.getElem?_eq_some_iff.mp hx
  obtain ⟨h2, e2⟩ := List.getElem?_eq_some_iff.mp hy
  have := List.pairwise_iff_getElem.mp asc i j h1 h2 hij
  rw [e1, e2] at this
  exact this _ _ _ _ ex ey
end K63

set_option Elab.async false
set_option linter.all false
set_option maxRecDepth 100000
set_option exponentiation.threshold 20000
set_option pp.deepTerms false
set_option pp.deepTerms.threshold 8
namespace K63
open PySem PySem.Spec PyProof.Rows L2 Ly Mt
theorem idx_first {xs : List Str} {f : Str} (hf : f ∈ xs) : (xs.map V.str)[xs.idxOf f]? = some (.str f) ∧ ∀ m z', m < xs.idxOf f → (xs.map V.str)[m]? = some z' → eqV z' (.str f) = false := by
  have hi := List.idxOf_lt_length_of_mem hf
  have eat : xs[xs.idxOf f]? = some f := by rw [List.getElem?_eq_getElem hi]; exact congrArg some (List.getElem_idxOf hi)
  refine ⟨by rw [List.getElem?_map, eat]; rfl, fun m z' hm hz => ?_⟩
  rw [List.getElem?_map] at hz
  obtain ⟨g, hg, rfl⟩ := Option.map_eq_some_iff.mp hz
  rw [eqs, decide_eq_false]
  intro e
  have h2 := List.not_of_lt_findIdx (p := fun x => x == f) (xs := xs) hm
  obtain ⟨hl, hv⟩ := List.getElem?_eq_some_iff.mp hg
  rw [hv, e] at h2
  simp at h2
section
variable {P : Program} {w : World} {K : PySem.W.Frag} {mg : Str → Option Value} {base : Heap}
abbrev s__law_form : Stmt := topS 44
theorem sc__law_form : FnScope ["store", "kinds", "most", "wide", "dims", "names", "maps", "k", "some", "maker", "fields", "widths", "keyed", "turn", "row", "titles", "reads", "kind", "makers", "field", "width", "key"] ["store", "kinds", "most", "wide"] (defScope s__law_form) := ⟨rfl, rfl, rfl, by decide +kernel, rfl, by decide +kernel, by decide +kernel⟩
def sp_lform (K : PySem.W.Frag) : Sp := fun vs H Q _ => ∃ (c : Addr) (v : V) (ks : List Kd) (wide : Nat), vs = [.ref c, v, .int 4, .int (wide : Nat)] ∧ 1 ≤ wide ∧ wide ≤ 17 ∧ Sto H c ∧ Im K H v (ksD ks) ∧ KindsOk ks ∧ SmallK 4 ks ∧ ∀ p F H', Sto H' c → But c H H' → Im K H' (.ref p) (fmD F) → F.ks = ks → Drf F → Q (.ref p) H'
set_option maxHeartbeats 4000000 in
theorem ok__law_form {f : Addr} {fd : FuncData} {k : Nat} (F : Fun K "_law_form" "_law_form" s__law_form f fd) (T : Tx K mg){k1 : Nat} (D__law_pick : Def P w K mg base k1 "_law_pick" s__law_pick ["store", "many"] sp_pick) {k2 : Nat} (D__law_weight : Def P w K mg base k2 "_law_weight" s__law_weight ["store"] (sp_weight K)) {k3 : Nat} (D__law_vector : Def P w K mg base k3 "_law_vector" s__law_vector ["store", "size"] (sp_vector K)) (e1 : k1 ≤ k) (e2 : k2 ≤ k) (e3 : k3 ≤ k) : FnOk P w K mg base CX0 (k + 1) f fd ["store", "kinds", "most", "wide"] (sp_lform K) := by
  have nd := sc__law_form.nd
  refine F.ok sc__law_form (fun vs H Q E h => ?_) (fun cdv A outer s H vs Q E hr h => ?_)
  · obtain ⟨_, _, _, _, rfl, _⟩ := h
    rfl
  · obtain ⟨c, v, ks, wide, rfl, w1, w17, u, iv, ok, sm, q⟩ := h
    obtain ⟨ka, kx, rfl, hka, hkx⟩ := iv.tuple_inv
    have lk : kx.length = ks.length := all_len hkx
    have kf := ok.few
    have k3' := sm.k3
    refine ⟨_, (pss_cons (ps_set (i := 4) nd rfl (.inr rfl) (pe_callTy (kcall_tuple K) (by rfl) T.m_tuple (by decide +kernel) (pa_cons (pe_lc (own := [("k", 7)]) (g := gName 7) (tt := tYes) rfl nd (pi_range1 rfl T.m_range (pa_cons (pe_callB (kcall_len K) (by rfl) T.m_len PySem.boot_len (pa_cons (pv 1) pa_nil)) pa_nil)) (blkOk_by (by rfl)) (fun _ _ _ _ _ => (pg_name (i := 7) nd rfl (.inl rfl))) (fun _ _ _ _ _ => pts_nil) (fun _ _ _ _ _ => (pe_def D__law_pick (hr.mono (by omega)) rfl (pa_cons (pv 0) (pa_cons (pe_ifExp (pt_cmpR op_eq (pv 7) pe_int (nomark _)) (pv 3) (pv 2)) pa_nil))))) pa_nil)))
      (pss_cons (ps_set (i := 5) nd rfl (.inr rfl) (pe_lc (own := [("kind", 17), ("makers", 18)]) (g := _) (tt := tYes) rfl nd (kpi_tup K (pv 1)) (blkOk_by (by rfl)) (fun _ _ _ _ _ => (kpg_tup K (n := 2) rfl (pgs_cons (pg_name (i := 17) nd rfl (.inl rfl)) (pgs_cons (pg_name (i := 18) nd rfl (.inl rfl)) pgs_nil)))) (fun _ _ _ _ _ => pts_nil) (fun _ _ _ _ _ => (pv 17))))
      (pss_cons (ps_set (i := 6) nd rfl (.inl rfl) (pe_tup pa_nil))
      (pss_cons (ps_for PassesOwn.never rfl (pi_range1 rfl T.m_range (pa_cons (pe_callB (kcall_len K) (by rfl) T.m_len PySem.boot_len (pa_cons (pv 1) pa_nil)) pa_nil)) (pg_name (i := 7) nd rfl (.inl rfl))
        (pss_cons (ps_set (i := 8) nd rfl (.inl rfl) (pe_tup pa_nil))
        (pss_cons (ps_for PassesOwn.never rfl (kpi_tup K (pe_ix (kix_tup K) (pe_ix (kix_tup K) (pv 1) (pv 7) (fun _ _ => rfl)) pe_int (fun _ _ => rfl))) (kpg_tup K (n := 2) rfl (pgs_cons (pg_name (i := 9) nd rfl (.inl rfl)) (pgs_cons (pg_name (i := 10) nd rfl (.inl rfl)) pgs_nil)))
          (pss_cons (ps_setLc (i := 11) (own := [("field", 19)]) (g := gName 19) (tt := tYes) rfl nd rfl rfl (sw_true rfl rfl rfl (by decide +kernel)) (kpi_tup K (pv 10)) (blkOk_by (by rfl)) (fun _ _ _ _ _ => (pg_name (i := 19) nd rfl (.inl rfl))) (fun _ _ _ _ _ => pts_nil) (fun _ _ _ _ _ => (pe_ifExp (pt_cmpR op_eq (pv 19) pe_str (nomark _)) pe_int (pe_ix (kix_tup K) (pv 4) (kpe_bm K PySem.F.plainAttrs_list PySem.F.slot_list_index PySem.F.type_list_index (kmt_index K) (pv 5) (pa_cons (pv 19) pa_nil)) (fun _ _ => rfl)))))
          (pss_cons (ps_set (i := 12) nd rfl (.inr rfl) pe_dnewN)
          (C8.pss_cut (ps_if (pt_cmpR op_gt (pe_callB (cr_min rfl) (by rfl) T.m_min (by decide +kernel) (pa_cons (pe_op op_cat (pe_lst (pa_cons (pe_ix (kix_tup K) (pv 4) (pv 7) (fun _ _ => rfl)) pa_nil)) (pv 11)) pa_nil)) pe_int (nomark _))
            (pss_one (ps_for PassesOwn.never rfl (pi_range1 rfl T.m_range (pa_cons (pe_def D__law_pick (hr.mono (by omega)) rfl (pa_cons (pv 0) (pa_cons pe_int pa_nil))) pa_nil)) (pg_name (i := 13) nd rfl (.inl rfl))
              (pss_cons (ps_set (i := 14) nd rfl (.inl rfl) (pe_def D__law_pick (hr.mono (by omega)) rfl (pa_cons (pv 0) (pa_cons (pe_ix (kix_tup K) (pv 4) (pv 7) (fun _ _ => rfl)) pa_nil))))
              (pss_one (ps_nput (hu10 hr) (pv 12) (pe_tup (pa_cons (pv 14) (pa_cons (pe_callTy (kcall_tuple K) (by rfl) T.m_tuple (by decide +kernel) (pa_cons (pe_lc (own := [("width", 20)]) (g := gName 20) (tt := tYes) rfl nd (kpi_list K (pv 11)) (blkOk_by (by rfl)) (fun _ _ _ _ _ => (pg_name (i := 20) nd rfl (.inl rfl))) (fun _ _ _ _ _ => pts_nil) (fun _ _ _ _ _ => (pe_def D__law_pick (hr.mono (by omega)) rfl (pa_cons (pv 0) (pa_cons (pv 20) pa_nil))))) pa_nil)) pa_nil))) (pe_def D__law_weight (hr.mono (by omega)) rfl (pa_cons (pv 0) pa_nil)) rfl)))))
            pss_nil)
          (pss_one (ps_set (i := 8) nd rfl (.inl rfl) (pe_op (kop_catA K) (pv 8) (pe_tup (pa_cons (pe_callTy (kcall_tuple K) (by rfl) T.m_tuple (by decide +kernel) (pa_cons (pe_lc (own := [("key", 21)]) (g := gName 21) (tt := tYes) rfl nd (kpi_list K (pe_callB (kcr_sortedD K (hu20 hr)) (by rfl) T.m_sorted (by decide +kernel) (pa_cons (pe_callTy (kcall_listN P w K) (by rfl) T.m_list (by decide +kernel) (pa_cons (pv 12) pa_nil)) pa_nil))) (blkOk_by (by rfl)) (fun _ _ _ _ _ => (pg_name (i := 21) nd rfl (.inl rfl))) (fun _ _ _ _ _ => pts_nil) (fun _ _ _ _ _ => (pe_tup (pa_cons (pe_ix (kix_tup K) (pv 21) pe_int (fun _ _ => rfl)) (pa_cons (pe_ix (kix_tup K) (pv 21) pe_int (fun _ _ => rfl)) (pa_cons (kpe_nget P w K (hu10 hr) (pv 12) (pv 21) (fun _ _ => rfl)) pa_nil)))))) pa_nil)) pa_nil)))))))))
        (pss_one (ps_set (i := 6) nd rfl (.inl rfl) (pe_op (kop_catA K) (pv 6) (pe_tup (pa_cons (pv 8) pa_nil))))))))
      (pss_cons (ps_set (i := 15) nd rfl (.inl rfl) (pe_ix (kix_list K) (pe_lst (pa_cons (pe_lst (pa_cons pe_str (pa_cons pe_str (pa_cons pe_str pa_nil)))) (pa_cons (pe_lst (pa_cons pe_str (pa_cons pe_str (pa_cons pe_str pa_nil)))) (pa_cons (pe_lst (pa_cons pe_str (pa_cons pe_str (pa_cons pe_str pa_nil)))) (pa_cons (pe_lst (pa_cons pe_str (pa_cons pe_str (pa_cons pe_str pa_nil)))) pa_nil))))) (pe_def D__law_pick (hr.mono (by omega)) rfl (pa_cons (pv 0) (pa_cons pe_int pa_nil))) (fun _ _ => rfl)))
      (pss_cons (ps_set (i := 16) nd rfl (.inl rfl) (pe_tup pa_nil))
      (pss_cons (ps_for PassesOwn.never rfl (pi_range1 rfl T.m_range (pa_cons (pe_def D__law_pick (hr.mono (by omega)) rfl (pa_cons (pv 0) (pa_cons pe_int pa_nil))) pa_nil)) (pg_name (i := 13) nd rfl (.inl rfl))
        (pss_cons (ps_set (i := 7) nd rfl (.inl rfl) (pe_def D__law_pick (hr.mono (by omega)) rfl (pa_cons (pv 0) (pa_cons (pe_callB (kcall_len K) (by rfl) T.m_len PySem.boot_len (pa_cons (pv 1) pa_nil)) pa_nil))))
        (pss_one (ps_set (i := 16) nd rfl (.inl rfl) (pe_op (kop_catA K) (pv 16) (pe_tup (pa_cons (pe_tup (pa_cons (pe_ix (kix_list K) (pv 15) (pv 13) (fun _ _ => rfl)) (pa_cons (pe_ix (kix_list K) (pv 5) (pv 7) (fun _ _ => rfl)) (pa_cons (pe_def D__law_vector (hr.mono (by omega)) rfl (pa_cons (pv 0) (pa_cons (pe_ix (kix_tup K) (pv 4) (pv 7) (fun _ _ => rfl)) pa_nil))) pa_nil)))) pa_nil)))))))
      (pss_one (ps_ret (pe_tup (pa_cons (pv 1) (pa_cons (pv 4) (pa_cons (pv 6) (pa_cons (pv 16) pa_nil)))))))))))))), ?_⟩
    refine ⟨.ref ka, rfl, ka, kx, rfl, .inr hka.sq, (kx.length : Nat), rfl, by omega, by omega, fun D hD => ?_⟩
    have nDc := u.ne hD
    refine lc_all (walk_range (lo := 0) (n := ((kx.length : Nat) : Int).toNat)) (fun i Hx => Sto Hx c ∧ But c H Hx ∧ ∃ ds : List Nat, Hx D = some (.lst (ds.map fun n : Nat => V.int (n : Nat))) ∧ ds.length = i ∧ (∀ d ∈ ds, d ≤ 16) ∧ ∀ (j : Nat) d, ds[j]? = some d → 1 ≤ j → d ≤ 3) ⟨u.same (same_new hD), but_same (same_new hD), [], upd_same, rfl, fun d h => by simp at h, fun j d h => by simp at h⟩ (fun _ _ _ _ => trivial) (fun i x Hx Hy hi z y => ?_) (fun Hx z => ?_)
    · obtain ⟨ux, bx, ds, eD, ld, d16, d3⟩ := z
      obtain ⟨rfl, rfl⟩ := y
      rw [Int.toNat_natCast] at hi
      have fin : ∀ (b : Nat), (i = 0 ∧ b ≤ 17 ∨ b ≤ 4) → ∀ (d : Nat) (H9 : Hp), (d : Int) < (b : Nat) → Sto H9 c → But c Hy H9 → ∃ acc, H9 D = some (.lst acc) ∧ acc.length < sizeLine ∧ Sto (upd H9 D (.lst (acc ++ [.int (d : Nat)]))) c ∧ But c H (upd H9 D (.lst (acc ++ [.int (d : Nat)]))) ∧ ∃ ds : List Nat, (upd H9 D (.lst (acc ++ [.int (d : Nat)]))) D = some (.lst (ds.map fun n : Nat => V.int (n : Nat))) ∧ ds.length = i + 1 ∧ (∀ d ∈ ds, d ≤ 16) ∧ ∀ (j : Nat) d, ds[j]? = some d → 1 ≤ j → d ≤ 3 := fun b hb d H9 hd u9 b9 => by
        have e9 := b9 _ _ nDc eD
        refine ⟨_, e9, small1000 (by rw [List.length_map]; omega), u9.upd nDc, fun b o nb e => ?_, ds ++ [d], by rw [upd_same, List.map_append]; rfl, by rw [List.length_append, ld]; rfl, fun d' h' => ?_, fun j d' h' hj => ?_⟩
        · rw [upd_ne (ne_of_none e hD)]; exact b9 _ _ nb (bx _ _ nb e)
        · rcases List.mem_append.mp h' with h' | h'
          · exact d16 d' h'
          · rw [List.mem_singleton.mp h']; omega
        · rcases get_snoc h' with h' | ⟨hj', rfl⟩
          · exact d3 j d' h' hj
          · omega
      refine ⟨rfl, .ref c, rfl, .int _, rfl, rfl, _, rfl, ?_⟩
      by_cases h : V.int ((0 : Int) + (i : Nat)) = V.int 0
      · rw [decide_eq_true h]
        have i0 : i = 0 := by have := V.int.inj h; omega
        exact iteT ⟨.int (wide : Nat), rfl, c, (wide : Nat), rfl, ux, by omega, fun d H9 hd u9 b9 => fin wide (.inl ⟨i0, w17⟩) d H9 hd u9 b9⟩
      · rw [decide_eq_false h]
        exact iteF ⟨.int 4, rfl, c, ((4 : Nat) : Int), rfl, ux, by decide, fun d H9 hd u9 b9 => fin 4 (.inr (Nat.le_refl _)) d H9 hd u9 b9⟩
    · obtain ⟨ux, bx, ds, eD, ld, d16, d3⟩ := z
      rw [Int.toNat_natCast, lk] at ld
      have dok : DimsOk ks ds := ⟨ld, d16, d3⟩
      refine ⟨D, _, rfl, .inl ⟨.of eD, fun Dm hDm => ?_⟩⟩
      have sDm := same_new (o := .tup (ds.map fun n : Nat => V.int (n : Nat))) hDm
      have hdm : ITup K (upd Hx Dm (.tup (ds.map fun n : Nat => V.int (n : Nat)))) Dm (ds.map fun n : Nat => V.int (n : Nat)) := .inl upd_same
      have u1 := ux.same sDm
      have b1 := bx.trans (but_same sDm)
      generalize upd Hx Dm (.tup (ds.map fun n : Nat => V.int (n : Nat))) = H1 at *
      have hka1 := hka.mono (b1.tk u)
      have hkx1 := ImAll.mono (b1.tk u) _ hkx
      clear eD nDc hD sDm hDm bx ux
      refine ⟨.ref ka, rfl, ka, rfl, ⟨_, hka1.sq⟩, fun N hN => ?_⟩
      have nNc := u1.ne hN
      refine lc_all (walk_tup (xs := kx)) (fun i Hx => Same H1 Hx ∧ Hx N = some (.lst (((ks.take i).map (·.1)).map V.str))) ⟨same_new hN, upd_same⟩ (fun i Hx _ z => (hka1.mono (tk_same z.1)).sq) (fun i x Hx Hy hi z y => ?_) (fun Hx z => ?_)
      · obtain ⟨s2, eN⟩ := z
        obtain ⟨rfl, hxi⟩ := y
        obtain ⟨kd, hk, ik⟩ := all_get (ImAll.mono (tk_same s2) _ hkx1) hxi
        obtain ⟨pk, x1, x2, rfl, hpk, i1, i2⟩ := im_pair ik
        obtain rfl := i1.str_inv
        refine ⟨pk, _, rfl, hpk.sq, rfl, .str kd.1, _, rfl, x2, _, rfl, rfl, rfl, .str kd.1, rfl, _, eN, small1000 (by rw [List.length_map, List.length_map, List.length_take]; omega), fun b o e => ?_, ?_⟩
        · rw [upd_ne (ne_of_none e hN)]; exact s2 _ _ e
        · rw [upd_same, List.take_add_one, hk, List.map_append, List.map_append]; rfl
      · obtain ⟨s2, eN⟩ := z
        rw [lk, List.take_of_length_le (Nat.le_refl _)] at eN
        refine ⟨by show 0 ≤ sizeLine; decide, fun M0 hM0 => ?_⟩
        have sM := same_new (o := .tup []) hM0
        have u2 := (u1.same s2).same sM
        have b2 := b1.trans (but_same (s2.trans sM))
        have t12 := tk_same (s2.trans sM)
        have eN2 := sM _ _ eN
        have hka2 := hka1.mono t12
        have hkx2 := ImAll.mono t12 _ hkx1
        have hdm2 := hdm.mono t12
        have iM : Im K (upd Hx M0 (.tup [])) (.ref M0) (mpD []) := .tup (.inl upd_same) .nil
        generalize upd Hx M0 (.tup []) = H2 at *
        clear hdm hka1 hkx1 eN sM hM0 s2 t12
        refine ⟨.ref ka, rfl, ka, kx, rfl, .inr hka2.sq, (kx.length : Nat), rfl, by omega, by omega, ?_⟩
        refine for_it (walk_range (lo := 0) (n := ((kx.length : Nat) : Int).toNat)) (fun i σ Ha => ∃ (y7 y8 y9 y10 y11 y12 y13 y14 y15 y16 : Option V) (M : Addr) (maps : List (List (List Tm))), σ = [some (.ref c), some (.ref ka), some (.int 4), some (.int (wide : Nat)), some (.ref Dm), some (.ref N), some (.ref M), y7, y8, y9, y10, y11, y12, y13, y14, y15, y16, none, none, none, none, none] ∧ Sto Ha c ∧ But c H2 Ha ∧ Im K Ha (.ref M) (mpD maps) ∧ maps.length = i ∧ ∀ (j : Nat) row, maps[j]? = some row → RowD ks ds j row) ⟨_, _, _, _, _, _, _, _, _, _, M0, [], rfl, u2, .refl _ _, iM, rfl, fun j row h => by simp at h⟩ (fun _ _ _ _ _ => trivial) ?_ ?_
        · rintro i x σ Ha Hb hi ⟨y7, y8, y9, y10, y11, y12, y13, y14, y15, y16, M, maps, rfl, ua, ba, iM, lM, hM⟩ ⟨rfl, rfl⟩
          rw [Int.toNat_natCast] at hi
          show gName 7 (V.int ((0 : Int) + (i : Nat))) _ _ _
          rw [show (0 : Int) + (i : Nat) = (i : Nat) by omega]
          have hki := List.getElem?_eq_getElem (show i < ks.length by omega)
          generalize ks[i] = kd at hki
          have hdi := List.getElem?_eq_getElem (show i < ds.length by rw [dok.len]; omega)
          have edi : ds.getD i 0 = ds[i]'(by rw [dok.len]; omega) := getD_some hdi
          generalize hdk : ds[i]'(by rw [dok.len]; omega) = dk at hdi edi
          have dk16 := dok.d16 dk (List.mem_of_getElem? hdi)
          have tba := ba.tk u2
          obtain ⟨x, ex, ix⟩ := all_at (ImAll.mono tba _ hkx2) hki
          obtain ⟨pk, z1, z2, rfl, hpk, iz1, iz2⟩ := im_pair ix
          obtain ⟨pm, ms, rfl, hpm, hms⟩ := iz2.tuple_inv
          have lms : ms.length = kd.2.length := all_len hms
          have kmem := List.mem_of_getElem? hki
          have mk6 := ok.mks kd kmem
          have hka3 := hka2.mono tba
          refine ⟨by show 0 ≤ sizeLine; decide, fun S0 hS0 => ?_⟩
          have sS := same_new (o := .tup []) hS0
          have u3 := ua.same sS
          have iS : Im K (upd Hb S0 (.tup [])) (.ref S0) (mrD []) := .tup (.inl upd_same) .nil
          have tS := tk_same sS
          have bS := but_same (w := c) sS
          generalize upd Hb S0 (.tup []) = H3 at *
          refine ⟨.ref ka, rfl, .int (i : Nat), rfl, ka, kx, _, .ref pk, rfl, rfl, (hka3.mono tS).sq, atI_nat ex, pk, _, 1, _, rfl, rfl, (hpk.mono tS).sq, atI_nat (j := 1) rfl, pm, rfl, ⟨_, (hpm.mono tS).sq⟩, ?_⟩
          refine for_it (walk_tup (xs := ms)) (fun t σ Hc => ∃ (y9 y10 y11 y12 y13 y14 : Option V) (S : Addr) (row : List (List Tm)), σ = [some (.ref c), some (.ref ka), some (.int 4), some (.int (wide : Nat)), some (.ref Dm), some (.ref N), some (.ref M), some (.int (i : Nat)), some (.ref S), y9, y10, y11, y12, y13, y14, y15, y16, none, none, none, none, none] ∧ Sto Hc c ∧ But c Hb Hc ∧ Im K Hc (.ref S) (mrD row) ∧ row.length = t ∧ ∀ (j : Nat) m ts, kd.2[j]? = some m → row[j]? = some ts → CellD ks ds i m ts) ⟨_, _, _, _, _, _, S0, [], rfl, u3, bS, iS, rfl, fun j m ts _ h => by simp at h⟩ (fun t σ Hc _ z => ?_) ?_ ?_
          · obtain ⟨_, _, _, _, _, _, _, _, _, _, bc, _⟩ := z
            exact (hpm.mono (bc.tk ua)).sq
          · rintro t x σ Hc Hd ht ⟨y9, y10, y11, y12, y13, y14, S, row, rfl, uc, bc, iS, lS, hS⟩ ⟨rfl, hxt⟩
            have tbc := bc.tk ua
            obtain ⟨mk, hmk, ik⟩ := all_get (ImAll.mono tbc _ hms) hxt
            obtain ⟨pp, z3, z4, rfl, hpp, iz3, iz4⟩ := im_pair ik
            obtain rfl := iz3.str_inv
            obtain ⟨pf, fx, rfl, hpf, hfx⟩ := iz4.tuple_inv
            obtain rfl := im_strs hfx
            have mmem := List.mem_of_getElem? hmk
            have f3 : mk.2.length ≤ 4 := sm.fld kd kmem mk mmem
            have fok := ok.flds kd kmem mk mmem
            refine ⟨pp, _, rfl, hpp.sq, rfl, .str mk.1, _, rfl, .ref pf, _, rfl, rfl, ?_⟩
            refine ⟨.ref pf, rfl, pf, rfl, ⟨_, hpf.sq⟩, fun W hW => ?_⟩
            have nWc := uc.ne hW
            have eNd : Hd N = some (.lst ((ks.map (·.1)).map V.str)) := bc _ _ nNc (ba _ _ nNc eN2)
            have hdmd := hdm2.mono (tba.trans tbc)
            generalize hws : mk.2.map (wd (ks.map (·.1)) ds) = ws
            have lws : ws.length = mk.2.length := by rw [← hws, List.length_map]
            refine lc_all (walk_tup (xs := mk.2.map V.str)) (fun s Hx => Same Hd Hx ∧ Hx W = some (.lst ((ws.take s).map fun n : Nat => V.int (n : Nat)))) ⟨same_new hW, upd_same⟩ (fun s Hx _ z => (hpf.mono (tk_same z.1)).sq) (fun s x Hx Hy hs z y => ?_) (fun Hx z => ?_)
            · obtain ⟨s4, eW⟩ := z
              obtain ⟨rfl, hxs⟩ := y
              rw [List.getElem?_map] at hxs
              obtain ⟨f, hf, rfl⟩ := Option.map_eq_some_iff.mp hxs
              rw [List.length_map] at hs
              have wf : ws[s]? = some (wd (ks.map (·.1)) ds f) := by rw [← hws, List.getElem?_map, hf]; rfl
              have fin : ∀ (n : Nat), n = wd (ks.map (·.1)) ds f → ∃ acc, Hy W = some (.lst acc) ∧ acc.length < sizeLine ∧ Same Hd (upd Hy W (.lst (acc ++ [V.int (n : Nat)]))) ∧ (upd Hy W (.lst (acc ++ [V.int (n : Nat)]))) W = some (.lst ((ws.take (s + 1)).map fun n : Nat => V.int (n : Nat))) := fun n en => by
                refine ⟨_, eW, small1000 (by rw [List.length_map, List.length_take]; omega), fun b o e => ?_, ?_⟩
                · rw [upd_ne (ne_of_none e hW)]; exact s4 _ _ e
                · rw [upd_same, List.take_add_one, wf, List.map_append, en]; rfl
              refine ⟨rfl, .str f, rfl, rfl, _, rfl, ?_⟩
              rw [dec_str]
              by_cases h1 : f = ("number" : Str)
              · rw [decide_eq_true h1]
                refine iteT (fin 2 ?_)
                unfold wd
                rw [if_neg (by rw [h1]; exact num_not ok)]
              · rw [decide_eq_false h1]
                have hin := (fok f (List.mem_of_getElem? hf)).resolve_left h1
                obtain ⟨ix1, ix2⟩ := idx_first hin
                have hlt : (ks.map (·.1)).idxOf f < ds.length := by
                  have := List.idxOf_lt_length_of_mem hin
                  rw [List.length_map] at this
                  rw [dok.len]; exact this
                refine iteF ⟨.ref Dm, rfl, .ref N, rfl, .inl ⟨rfl, _, .of (s4 _ _ eNd)⟩, .str f, rfl, N, _, .str f, (ks.map (·.1)).idxOf f, .str f, rfl, rfl, .of (s4 _ _ eNd), rfl, flat_strs' _, ix1, by rw [eqs, decide_eq_true rfl], ix2, ?_⟩
                refine ⟨Dm, _, _, .int ((ds.getD ((ks.map (·.1)).idxOf f) 0 : Nat) : Int), rfl, rfl, (hdmd.mono (tk_same s4)).sq, atI_nat ?_, fin _ ?_⟩
                · rw [List.getElem?_map, List.getD_eq_getElem?_getD, List.getElem?_eq_getElem hlt]; rfl
                · unfold wd
                  rw [if_pos hin]
            · obtain ⟨s4, eW⟩ := z
              rw [List.length_map, ← lws, List.take_of_length_le (Nat.le_refl _)] at eW
              intro Kd hKd
              show gName 12 (V.ref Kd) _ (upd Hx Kd (dN P w Kd [])) _
              have nWK : W ≠ Kd := ne_of_none eW hKd
              have nKc : Kd ≠ c := (uc.same s4).ne hKd
              have sK := same_new (o := dN P w Kd []) hKd
              have u5 := (uc.same s4).same sK
              have eK : (upd Hx Kd (dN P w Kd [])) Kd = some (dN P w Kd []) := upd_same
              have s45 := s4.trans sK
              have eW5 := sK _ _ eW
              generalize upd Hx Kd (dN P w Kd []) = H5 at *
              have hKd0 : Hd Kd = none := s4.free hKd
              have t5 := tk_same s45
              have hdm5 := hdmd.mono t5
              have x0 : XI K H5 dk ws 6 [] := ⟨fun x hx => by simp at hx, .nil, Nat.zero_le _, fun x hx => by simp at hx⟩
              refine ⟨fun σ' H' => ∃ (y13 y14 : Option V) (xs : List NK), σ' = [some (.ref c), some (.ref ka), some (.int 4), some (.int (wide : Nat)), some (.ref Dm), some (.ref N), some (.ref M), some (.int (i : Nat)), some (.ref S), some (.str mk.1), some (.ref pf), some (.ref W), some (.ref Kd), y13, y14, y15, y16, none, none, none, none, none] ∧ Sto H' c ∧ But c Hd H' ∧ H' Kd = some (dN P w Kd xs) ∧ XI K H' dk ws 6 xs, ?_, ?_⟩
              · refine ⟨.ref Dm, rfl, .int (i : Nat), rfl, Dm, _, _, .int (dk : Nat), rfl, rfl, hdm5.sq, atI_nat (by rw [List.getElem?_map, hdi]; rfl), by show 1 ≤ sizeLine; decide, fun A hA => ?_⟩
                have sA := same_new (o := .lst [V.int (dk : Nat)]) hA
                have eA : (upd H5 A (.lst [V.int (dk : Nat)])) A = some (.lst [V.int (dk : Nat)]) := upd_same
                generalize upd H5 A (.lst [V.int (dk : Nat)]) = H6 at *
                refine ⟨.ref W, rfl, A, W, _, _, rfl, rfl, eA, sA _ _ eW5, Nat.le_trans (show [V.int (dk : Nat)].length + (ws.map fun n : Nat => V.int (n : Nat)).length ≤ 1000 by rw [List.length_map, List.length_singleton]; omega) (by decide), fun B hB => ?_⟩
                have eB : ([V.int (dk : Nat)] ++ ws.map fun n : Nat => V.int (n : Nat)) = ((dk :: ws).map fun n : Nat => (n : Int)).map V.int := by rw [List.map_map]; rfl
                rw [eB]
                have sB := same_new (o := .lst (((dk :: ws).map fun n : Nat => (n : Int)).map V.int)) hB
                refine ⟨B, _, rfl, .of upd_same, by rw [List.length_map]; exact Nat.succ_pos _, fun mn hmn hmin => ⟨_, _, rfl, rfl, _, rfl, ?_⟩⟩
                generalize upd H6 B (.lst (((dk :: ws).map fun n : Nat => (n : Int)).map V.int)) = H7 at *
                have s57 := sA.trans sB
                have b57 : But c Hd H7 := but_same (s45.trans s57)
                have u7 := u5.same s57
                have eK7 := s57 _ _ eK
                have x7 := x0.mono (tk_same s57)
                by_cases hm0 : mn > 0
                · rw [decide_eq_true hm0]
                  have hpos : ∀ n ∈ dk :: ws, 1 ≤ n := fun n hn => by
                    have := hmin (n : Int) (List.mem_map.mpr ⟨n, hn, rfl⟩)
                    omega
                  have dpos := hpos dk (List.mem_cons_self ..)
                  refine iteT ⟨.ref c, rfl, c, 7, rfl, u7, by decide, fun tn H8 tn7 u8 b8 => ⟨(tn : Nat), rfl, by omega, by omega, ?_⟩⟩
                  refine for_it (walk_range (lo := 0) (n := (tn : Int).toNat)) (fun r σ He => ∃ (y13 y14 : Option V) (xs : List NK), σ = [some (.ref c), some (.ref ka), some (.int 4), some (.int (wide : Nat)), some (.ref Dm), some (.ref N), some (.ref M), some (.int (i : Nat)), some (.ref S), some (.str mk.1), some (.ref pf), some (.ref W), some (.ref Kd), y13, y14, y15, y16, none, none, none, none, none] ∧ Sto He c ∧ But c Hd He ∧ He Kd = some (dN P w Kd xs) ∧ XI K He dk ws r xs ∧ He W = some (.lst (ws.map fun n : Nat => V.int (n : Nat)))) ⟨_, _, [], rfl, u8, b57.trans b8, b8 _ _ nKc eK7, (x7.mono (b8.tk u7)).less (Nat.le_refl _) |> fun z => ⟨z.keys, z.nd, Nat.le_refl _, z.each⟩, b8 _ _ nWc (s57 _ _ eW5)⟩ (fun _ _ _ _ _ => trivial) ?_ ?_
                  · rintro r x σ He Hf hr' ⟨y13, y14, xs, rfl, ue, be, eKe, xe, eWe⟩ ⟨rfl, rfl⟩
                    rw [Int.toNat_natCast] at hr'
                    have few := xe.few
                    have tbe := be.tk uc
                    refine ⟨.ref c, rfl, .ref Dm, rfl, .int (i : Nat), rfl, Dm, _, _, .int (dk : Nat), rfl, rfl, (hdmd.mono tbe).sq, atI_nat (by rw [List.getElem?_map, hdi]; rfl), c, (dk : Nat), rfl, ue, by omega, fun rr H9 rl u9 b9 => ?_⟩
                    refine ⟨.ref c, rfl, c, rfl, u9, fun pq qq H10 u10 b10 iq wq => ⟨.ref Kd, rfl, .int (rr : Nat), rfl, .ref W, rfl, W, rfl, ⟨_, .of (b10 _ _ nWc (b9 _ _ nWc eWe))⟩, fun D2 hD2 => ?_⟩⟩
                    have nD2c := u10.ne hD2
                    have eW10 := b10 _ _ nWc (b9 _ _ nWc eWe)
                    refine lc_all (walk_list (xs := ws.map fun n : Nat => V.int (n : Nat))) (fun a Hx => Sto Hx c ∧ But c H10 Hx ∧ ∃ cs : List Nat, Hx D2 = some (.lst (cs.map fun n : Nat => V.int (n : Nat))) ∧ cs.length = a ∧ ∀ (j cc n : Nat), cs[j]? = some cc → ws[j]? = some n → cc < n) ⟨u10.same (same_new hD2), but_same (same_new hD2), [], upd_same, rfl, fun j cc n h => by simp at h⟩ (fun a Hx _ z => .of (z.2.1 _ _ nWc eW10)) (fun a x Hx Hy ha z y => ?_) (fun Hx z => ?_)
                    · obtain ⟨ux, bx, cs, eD, lc, hc⟩ := z
                      obtain ⟨rfl, hxa⟩ := y
                      rw [List.getElem?_map] at hxa
                      obtain ⟨wn, hwn, rfl⟩ := Option.map_eq_some_iff.mp hxa
                      rw [List.length_map] at ha
                      have wpos := hpos wn (List.mem_cons_of_mem _ (List.mem_of_getElem? hwn))
                      refine ⟨rfl, .ref c, rfl, .int (wn : Nat), rfl, c, (wn : Nat), rfl, ux, by omega, fun cv H11 cl u11 b11 => ?_⟩
                      have e11 := b11 _ _ nD2c eD
                      refine ⟨_, e11, small1000 (by rw [List.length_map]; omega), u11.upd nD2c, fun b o nb e => ?_, cs ++ [cv], by rw [upd_same, List.map_append]; rfl, by rw [List.length_append, lc]; rfl, fun j cc n h1 h2 => ?_⟩
                      · rw [upd_ne (ne_of_none e hD2)]; exact b11 _ _ nb (bx _ _ nb e)
                      · rcases get_snoc h1 with h1 | ⟨hj, rfl⟩
                        · exact hc j cc n h1 h2
                        · rw [hj, lc, hwn] at h2
                          obtain rfl := Option.some.inj h2
                          omega
                    · obtain ⟨ux, bx, cs, eD, lc, hc⟩ := z
                      rw [List.length_map] at lc
                      refine ⟨D2, _, rfl, .inl ⟨.of eD, fun l hl => ⟨by show 2 ≤ sizeLine; decide, fun K1 hK1 => ?_⟩⟩⟩
                      have sl := same_new (o := .tup (cs.map fun n : Nat => V.int (n : Nat))) hl
                      have il : Im K (upd Hx l (.tup (cs.map fun n : Nat => V.int (n : Nat)))) (.ref l) (nsD cs) := .tup (.inl upd_same) (nats_im _)
                      generalize upd Hx l (.tup (cs.map fun n : Nat => V.int (n : Nat))) = H12 at *
                      have sK1 := same_new (o := .tup [V.int (rr : Nat), .ref l]) hK1
                      have ik : Im K (upd H12 K1 (.tup [V.int (rr : Nat), .ref l])) (.ref K1) (kD (kOf rr cs)) := by
                        rw [kD_of _ _ 0]
                        exact .tup (.inl upd_same) (.cons (.int _) (.cons (Im.mono (tk_same sK1) _ il) .nil))
                      have u13 := (ux.same sl).same sK1
                      have bAll : But c Hf _ := (b9.trans b10).trans (bx.trans (but_same (sl.trans sK1)))
                      have iq13 := Im.mono ((bx.tk u10).trans (tk_same (sl.trans sK1))) _ iq
                      have eW13 := (sl.trans sK1) _ _ (bx _ _ nWc eW10)
                      generalize upd H12 K1 (.tup [V.int (rr : Nat), .ref l]) = H13 at *
                      have eK13 := bAll _ _ nKc eKe
                      have x13 := xe.mono (bAll.tk ue)
                      refine ⟨Kd, xs, kOf rr cs, K1, pq, rfl, rfl, ⟨eK13, x13.keys, rfl, ik, kOf_depth _ _⟩, small1000 (by omega), ?_⟩
                      have te : TK H13 (upd H13 Kd (dN P w Kd (putN xs (kOf rr cs) K1 pq))) := tk_ext eK13
                      refine ⟨_, _, _, rfl, u13.upd nKc, fun b o nb e => ?_, upd_same, (x13.put (by omega) lc hc ik iq13 wq).mono te, ?_⟩
                      · rw [upd_ne (ne_of_none e hKd0)]; exact bAll _ _ nb (be _ _ nb e)
                      · rw [upd_ne nWK]; exact eW13
                  · rintro σ He ⟨y13, y14, xs, rfl, ue, be, eKe, xe, eWe⟩
                    rw [Int.toNat_natCast] at xe
                    exact ⟨y13, y14, xs, rfl, ue, be, eKe, xe.less (by omega)⟩
                · rw [decide_eq_false hm0]
                  exact iteF ⟨_, _, [], rfl, u7, b57, eK7, x7⟩
              · rintro σ' H6 ⟨y13, y14, xs, rfl, u6, b6, eK6, xi⟩
                have few := xi.few
                obtain ⟨ys, py, ey, asc⟩ := xi.inorder
                have lys : ys.length = xs.length := py.length_eq
                refine ⟨.ref S, rfl, .ref Kd, rfl, Kd, xs, rfl, eK6, xi.keys, fun A hA => ?_⟩
                have sA := same_new (o := .lst (xs.map fun x => V.ref x.2.1)) hA
                refine ⟨A, _, _, rfl, .of upd_same, ImAll.mono (tk_same sA) _ (keys_all xi.keys), xi.alike, .inl xi.sortable, xi.deep, fun S2 hS2 => ⟨S2, rfl, ⟨_, .of upd_same⟩, fun D2 hD2 => ?_⟩⟩
                rw [ey] at hD2 ⊢
                have sS2 := same_new (o := .lst (ys.map fun x => V.ref x.2.1)) hS2
                have eS2 : (upd (upd H6 A (.lst (xs.map fun x => V.ref x.2.1))) S2 (.lst (ys.map fun x => V.ref x.2.1))) S2 = some (.lst (ys.map fun x => V.ref x.2.1)) := upd_same
                have s68 := sA.trans sS2
                generalize upd (upd H6 A (.lst (xs.map fun x => V.ref x.2.1))) S2 (.lst (ys.map fun x => V.ref x.2.1)) = H8 at *
                have xi8 := xi.mono (tk_same s68)
                have eK8 := s68 _ _ eK6
                have u8 := u6.same s68
                have b8 : But c Hd H8 := b6.trans (but_same s68)
                refine lc_all (walk_list (xs := ys.map fun x => V.ref x.2.1)) (fun a Hx => Same H8 Hx ∧ ∃ (vs : List V) (ts : List Tm), Hx D2 = some (.lst vs) ∧ ImAll K Hx vs (ts.map tmD) ∧ ts.length = a ∧ ∀ (j : Nat) t, ts[j]? = some t → ∃ x, ys[j]? = some x ∧ x.1 = kOf t.1 t.2.1 ∧ TermOk dk ws t ∧ Wt t.2.2) ⟨same_new hD2, [], [], upd_same, .nil, rfl, fun j t h => by simp at h⟩ (fun a Hx _ z => .of (z.1 _ _ eS2)) (fun a x Hx Hy ha z y => ?_) (fun Hx z => ?_)
                · obtain ⟨s9, vs, ts, eD, iD, lts, hts⟩ := z
                  obtain ⟨rfl, hxa⟩ := y
                  rw [List.getElem?_map] at hxa
                  obtain ⟨x, hx, rfl⟩ := Option.map_eq_some_iff.mp hxa
                  rw [List.length_map] at ha
                  have mx : x ∈ xs := py.mem_iff.mp (List.mem_of_getElem? hx)
                  have xi9 := xi8.mono (tk_same s9)
                  obtain ⟨r, cs, q0, k1, k2, k3, k4, k5, k6⟩ := xi9.each x mx
                  obtain ⟨ikx, _⟩ := xi9.keys x mx
                  have vx := valN_of xi.nd mx
                  have ikk := ikx
                  rw [k1] at vx ikk
                  rw [k1, kD_of _ _ q0] at ikx
                  obtain ⟨pk', v1, v2, e1, hpk', iv1, iv2⟩ := im_pair ikx
                  obtain rfl := V.ref.inj e1
                  obtain rfl := iv1.int_inv
                  refine ⟨rfl, .ref x.2.1, rfl, x.2.1, _, 0, _, rfl, rfl, hpk'.sq, atI_nat (j := 0) rfl, .ref x.2.1, rfl, x.2.1, _, 1, _, rfl, rfl, hpk'.sq, atI_nat (j := 1) rfl, ?_⟩
                  refine ⟨.ref Kd, rfl, .ref x.2.1, rfl, Kd, xs, kOf r cs, x.2.1, x.2.2, rfl, ⟨s9 _ _ eK8, xi9.keys, rfl, ikk, kOf_depth _ _⟩, vx, by show 3 ≤ sizeLine; decide, fun T hT => ?_⟩
                  have sT := same_new (o := .tup [.int (r : Nat), v2, .ref x.2.2]) hT
                  have it : Im K (upd Hy T (.tup [.int (r : Nat), v2, .ref x.2.2])) (.ref T) (tmD (r, cs, q0)) := .tup (.inl upd_same) (.cons (.int _) (.cons (Im.mono (tk_same sT) _ iv2) (.cons (Im.mono (tk_same sT) _ k5) .nil)))
                  have eD8 := sT _ _ eD
                  refine ⟨vs, eD8, small1000 (by rw [all_len iD]; omega), fun b o e => ?_, vs ++ [.ref T], ts ++ [(r, cs, q0)], upd_same, ?_, by rw [List.length_append, lts]; rfl, fun j t' h' => ?_⟩
                  · rw [upd_ne (ne_of_none e hD2)]
                    exact sT _ _ (s9 _ _ e)
                  · rw [List.map_append]
                    exact (ImAll.mono ((tk_same sT).trans (tk_lst eD8)) _ iD).snoc (Im.mono (tk_lst eD8) _ it)
                  · rcases get_snoc h' with h' | ⟨hj, rfl⟩
                    · exact hts j t' h'
                    · rw [hj, lts]
                      exact ⟨x, hx, k1, ⟨k2, k3, k4, k6.1⟩, k6⟩
                · obtain ⟨s9, vs, ts, eD, iD, lts, hts⟩ := z
                  rw [List.length_map] at lts
                  refine ⟨D2, vs, rfl, .inl ⟨.of eD, fun l hl => ⟨by show 1 ≤ sizeLine; decide, fun T1 hT1 => ?_⟩⟩⟩
                  have sl := same_new (o := .tup vs) hl
                  have il : Im K (upd Hx l (.tup vs)) (.ref l) (tsD ts) := .tup (.inl upd_same) (ImAll.mono (tk_same sl) _ iD)
                  have sT1 := same_new (o := .tup [V.ref l]) hT1
                  obtain ⟨pS, sx, epS, hpS, hsx⟩ := iS.tuple_inv
                  cases epS
                  have lsx : sx.length = row.length := all_len hsx
                  have tg := (((b8.tk uc).trans (tk_same s9)).trans (tk_same sl)).trans (tk_same sT1)
                  refine cat_any (hpS.mono tg) (.inl upd_same) (by rw [List.length_singleton]; omega) fun p H14 s14 ip => ?_
                  refine ⟨_, _, _, _, _, _, p, row ++ [ts], rfl, ((((u8.same s9).same sl).same sT1).same s14), (bc.trans b8).trans (but_same (((s9.trans sl).trans sT1).trans s14)), .tup ip ?_, by rw [List.length_append, lS]; rfl, fun j m' ts' h1 h2 => ?_⟩
                  · rw [List.map_append]
                    exact ImAll.app (ImAll.mono (tg.trans (tk_same s14)) _ hsx) (.cons (Im.mono ((tk_same sT1).trans (tk_same s14)) _ il) .nil)
                  · rcases get_snoc h2 with h2 | ⟨hj, rfl⟩
                    · exact hS j m' ts' h1 h2
                    · rw [hj, lS, hmk] at h1
                      obtain rfl := Option.some.inj h1
                      unfold CellD
                      rw [edi, hws]
                      refine drn_mk (by omega) (asc_terms asc fun j t h => let ⟨x, a, b, _⟩ := hts j t h; ⟨x, a, b⟩) fun t ht => ?_
                      obtain ⟨j, hj⟩ := List.getElem?_of_mem ht
                      obtain ⟨x, _, _, a, b⟩ := hts j t hj
                      exact ⟨a, b⟩
          · rintro σ Hc ⟨y9, y10, y11, y12, y13, y14, S, row, rfl, uc, bc, iS, lS, hS⟩
            rw [lms] at lS
            refine ⟨.ref M, rfl, .ref S, rfl, by show 1 ≤ sizeLine; decide, fun T hT => ?_⟩
            have sT := same_new (o := .tup [V.ref S]) hT
            obtain ⟨pM, mx, epM, hpM, hmx⟩ := iM.tuple_inv
            cases epM
            have lmx : mx.length = maps.length := all_len hmx
            have tg := (bc.tk ua).trans (tk_same sT)
            refine cat_any (hpM.mono tg) (.inl upd_same) (by rw [List.length_singleton]; omega) fun p H9 s9 ip => ?_
            refine ⟨_, _, _, _, _, _, _, _, _, _, p, maps ++ [row], rfl, (uc.same sT).same s9, (ba.trans bc).trans (but_same (sT.trans s9)), .tup ip ?_, by rw [List.length_append, lM]; rfl, fun j row' hj => ?_⟩
            · rw [List.map_append]
              exact ImAll.app (ImAll.mono (tg.trans (tk_same s9)) _ hmx) (.cons (Im.mono (tk_same (sT.trans s9)) _ iS) .nil)
            · rcases get_snoc hj with hj | ⟨rfl, rfl⟩
              · exact hM j row' hj
              · rw [lM]
                intro kd' hkd'
                rw [hki] at hkd'
                obtain rfl := Option.some.inj hkd'
                exact ⟨lS, hS⟩
        · rintro σ Ha ⟨y7, y8, y9, y10, y11, y12, y13, y14, y15, y16, M, maps, rfl, ua, ba, iM, lM, hM⟩
          rw [Int.toNat_natCast, lk] at lM
          refine ⟨by show 3 ≤ sizeLine; decide, fun L1 hL1 => ⟨by show 3 ≤ sizeLine; decide, fun L2 hL2 => ⟨by show 3 ≤ sizeLine; decide, fun L3 hL3 => ⟨by show 3 ≤ sizeLine; decide, fun L4 hL4 => ⟨by show 4 ≤ sizeLine; decide, fun L5 hL5 => ?_⟩⟩⟩⟩⟩
          have sA := same_new (o := .lst [V.str "f", .str "g", .str "h"]) hL1
          have sB := same_new (o := .lst [V.str "r1", .str "r2", .str "r3"]) hL2
          have sC := same_new (o := .lst [V.str "a", .str "aa", .str "aaa"]) hL3
          have sD := same_new (o := .lst [V.str "xP0", .str "xQ0", .str "xR0"]) hL4
          have sE := same_new (o := .lst [V.ref L1, .ref L2, .ref L3, .ref L4]) hL5
          have n1 := ua.ne hL1
          have n2 := (ua.same sA).ne hL2
          have n3 := ((ua.same sA).same sB).ne hL3
          have n4 := (((ua.same sA).same sB).same sC).ne hL4
          have n5 := ((((ua.same sA).same sB).same sC).same sD).ne hL5
          have s5 : Same Ha _ := (((sA.trans sB).trans sC).trans sD).trans sE
          have e1 := sE _ _ (sD _ _ (sC _ _ (sB _ _ (show (upd Ha L1 (.lst [V.str "f", .str "g", .str "h"])) L1 = some (.lst ((tlsS 0).map V.str)) from upd_same))))
          have e2 := sE _ _ (sD _ _ (sC _ _ (show (upd (upd Ha L1 (.lst [V.str "f", .str "g", .str "h"])) L2 (.lst [V.str "r1", .str "r2", .str "r3"])) L2 = some (.lst ((tlsS 1).map V.str)) from upd_same)))
          have e3 := sE _ _ (sD _ _ (show (upd (upd (upd Ha L1 (.lst [V.str "f", .str "g", .str "h"])) L2 (.lst [V.str "r1", .str "r2", .str "r3"])) L3 (.lst [V.str "a", .str "aa", .str "aaa"])) L3 = some (.lst ((tlsS 2).map V.str)) from upd_same))
          have e4 := sE _ _ (show (upd (upd (upd (upd Ha L1 (.lst [V.str "f", .str "g", .str "h"])) L2 (.lst [V.str "r1", .str "r2", .str "r3"])) L3 (.lst [V.str "a", .str "aa", .str "aaa"])) L4 (.lst [V.str "xP0", .str "xQ0", .str "xR0"])) L4 = some (.lst ((tlsS 3).map V.str)) from upd_same)
          have e5 : (upd (upd (upd (upd (upd Ha L1 (.lst [V.str "f", .str "g", .str "h"])) L2 (.lst [V.str "r1", .str "r2", .str "r3"])) L3 (.lst [V.str "a", .str "aa", .str "aaa"])) L4 (.lst [V.str "xP0", .str "xQ0", .str "xR0"])) L5 (.lst [V.ref L1, .ref L2, .ref L3, .ref L4])) L5 = some (.lst [V.ref L1, .ref L2, .ref L3, .ref L4]) := upd_same
          clear sA sB sC sD sE hL1 hL2 hL3 hL4 hL5
          generalize upd (upd (upd (upd (upd Ha L1 (.lst [V.str "f", .str "g", .str "h"])) L2 (.lst [V.str "r1", .str "r2", .str "r3"])) L3 (.lst [V.str "a", .str "aa", .str "aaa"])) L4 (.lst [V.str "xP0", .str "xQ0", .str "xR0"])) L5 (.lst [V.ref L1, .ref L2, .ref L3, .ref L4]) = H4 at *
          have u4 := ua.same s5
          refine ⟨.ref c, rfl, c, 4, rfl, u4, by decide, fun d H5 d4 u5 b5 => ?_⟩
          have d4' : d < 4 := by omega
          obtain ⟨Ld, gs, nLd, eLd⟩ : ∃ Ld, atI [V.ref L1, .ref L2, .ref L3, .ref L4] (d : Nat) = some (.ref Ld) ∧ Ld ≠ c ∧ H5 Ld = some (.lst ((tlsS d).map V.str)) := by
            have : d = 0 ∨ d = 1 ∨ d = 2 ∨ d = 3 := by omega
            rcases this with rfl | rfl | rfl | rfl
            · exact ⟨L1, rfl, n1, b5 _ _ n1 e1⟩
            · exact ⟨L2, rfl, n2, b5 _ _ n2 e2⟩
            · exact ⟨L3, rfl, n3, b5 _ _ n3 e3⟩
            · exact ⟨L4, rfl, n4, b5 _ _ n4 e4⟩
          refine ⟨L5, _, _, _, rfl, rfl, .of (b5 _ _ n5 e5), gs, ?_⟩
          have nl := tls_len d d4'
          refine ⟨by show 0 ≤ sizeLine; decide, fun R0 hR0 => ?_⟩
          have sR := same_new (o := .tup []) hR0
          have u6 := u5.same sR
          have b6 : But c Ha _ := ((but_same s5).trans b5).trans (but_same sR)
          have iR : Im K (upd H5 R0 (.tup [])) (.ref R0) (rdsD []) := .tup (.inl upd_same) .nil
          have eLd6 := sR _ _ eLd
          generalize upd H5 R0 (.tup []) = H6 at *
          refine ⟨.ref c, rfl, c, 4, rfl, u6, by decide, fun tn H7 tn4 u7 b7 => ⟨(tn : Nat), rfl, by omega, by omega, ?_⟩⟩
          refine for_it (walk_range (lo := 0) (n := (tn : Int).toNat)) (fun t σ Hb => ∃ (y7 y13 : Option V) (R : Addr) (rs : List Rd), σ = [some (.ref c), some (.ref ka), some (.int 4), some (.int (wide : Nat)), some (.ref Dm), some (.ref N), some (.ref M), y7, y8, y9, y10, y11, y12, y13, y14, some (.ref Ld), some (.ref R), none, none, none, none, none] ∧ Sto Hb c ∧ But c H6 Hb ∧ Im K Hb (.ref R) (rdsD rs) ∧ RdsD ks ds d t rs) ⟨_, _, R0, [], rfl, u7, b7, Im.mono (b7.tk u6) _ iR, ⟨rfl, fun r h => by simp at h, fun r h => by simp at h⟩⟩ (fun _ _ _ _ _ => trivial) ?_ ?_
          · rintro t x σ Hb Hc ht ⟨y7, y13, R, rs, rfl, ub, bb, iR, rd⟩ ⟨rfl, rfl⟩
            rw [Int.toNat_natCast] at ht
            show gName 13 (V.int ((0 : Int) + (t : Nat))) _ _ _
            rw [show (0 : Int) + (t : Nat) = (t : Nat) by omega]
            have BB : But c H2 Hc := (ba.trans b6).trans bb
            have tBB := BB.tk u2
            refine ⟨.ref c, rfl, .ref ka, rfl, ka, kx, rfl, .inr (hka2.mono tBB).sq, c, (kx.length : Nat), rfl, ub, by omega, fun kk H8 kl u8 b8 => ?_⟩
            have hkk := List.getElem?_eq_getElem (show kk < ks.length by omega)
            generalize ks[kk] = kd at hkk
            have hdk := List.getElem?_eq_getElem (show kk < ds.length by rw [dok.len]; omega)
            generalize hdd : ds[kk]'(by rw [dok.len]; omega) = dk at hdk
            have dk16 := dok.d16 dk (List.mem_of_getElem? hdk)
            have htt := List.getElem?_eq_getElem (show t < (tlsS d).length by omega)
            generalize (tlsS d)[t] = tt at htt
            have eLd8 := b8 _ _ nLd (bb _ _ nLd eLd6)
            have eN8 := b8 _ _ nNc (BB _ _ nNc eN2)
            have hdm8 := (hdm2.mono tBB).mono (b8.tk ub)
            refine ⟨.ref R, rfl, .ref Ld, rfl, .int (t : Nat), rfl, Ld, _, _, .str tt, rfl, rfl, .of eLd8, atI_nat (by rw [List.getElem?_map, htt]; rfl), .ref N, rfl, .int (kk : Nat), rfl, N, _, _, .str kd.1, rfl, rfl, .of eN8, atI_nat (by rw [List.getElem?_map, List.getElem?_map, hkk]; rfl), ?_⟩
            refine ⟨.ref c, rfl, .ref Dm, rfl, .int (kk : Nat), rfl, Dm, _, _, .int (dk : Nat), rfl, rfl, hdm8.sq, atI_nat (by rw [List.getElem?_map, hdk]; rfl), c, dk, rfl, by omega, u8, fun pv rv H9 u9 b9 iv9 lv9 wv9 => ⟨by show 3 ≤ sizeLine; decide, fun P1 hP1 => ⟨by show 1 ≤ sizeLine; decide, fun P2 hP2 => ?_⟩⟩⟩
            have sP1 := same_new (o := .tup [V.str tt, .str kd.1, .ref pv]) hP1
            have sP2 := same_new (o := .tup [V.ref P1]) hP2
            have iP1 : Im K (upd H9 P1 (.tup [V.str tt, .str kd.1, .ref pv])) (.ref P1) (rdD (tt, kd.1, rv)) := .tup (.inl upd_same) (.cons (.str _) (.cons (.str _) (.cons (Im.mono (tk_new hP1) _ iv9) .nil)))
            obtain ⟨pR, rx, epR, hpR, hrx⟩ := iR.tuple_inv
            cases epR
            have lrx : rx.length = rs.length := all_len hrx
            have lrs : rs.length ≤ 3 := by
              have := congrArg List.length rd.nm
              rw [List.length_map, List.length_take] at this
              omega
            have tg := (((b8.trans b9).tk ub).trans (tk_same sP1)).trans (tk_same sP2)
            refine cat_any (hpR.mono tg) (.inl upd_same) (by rw [List.length_singleton]; omega) fun p H14 s14 ip => ?_
            refine ⟨_, _, p, rs ++ [(tt, kd.1, rv)], rfl, ((u9.same sP1).same sP2).same s14, ((bb.trans b8).trans b9).trans (but_same ((sP1.trans sP2).trans s14)), .tup ip ?_, ⟨?_, fun r hr' => ?_, fun r hr' => (List.mem_append.mp hr').elim (rd.wt r) fun h => by rw [List.mem_singleton.mp h]; exact wv9⟩⟩
            · rw [List.map_append]
              exact ImAll.app (ImAll.mono (tg.trans (tk_same s14)) _ hrx) (.cons (Im.mono ((tk_same sP2).trans (tk_same s14)) _ iP1) .nil)
            · rw [List.map_append, rd.nm, List.take_add_one, htt]; rfl
            · rcases List.mem_append.mp hr' with hr' | hr'
              · exact rd.kind r hr'
              · rw [List.mem_singleton.mp hr']
                refine ⟨List.mem_map.mpr ⟨kd, List.mem_of_getElem? hkk, rfl⟩, ?_⟩
                show rv.length = ds.getD ((ks.map (·.1)).idxOf kd.1) 0
                rw [idx_get ok.nd (i := kk) (by rw [List.getElem?_map, hkk]; rfl), lv9, getD_some hdk]
          · rintro σ Hb ⟨y7, y13, R, rs, rfl, ub, bb, iR, rd⟩
            rw [Int.toNat_natCast] at rd
            have BB : But c H2 Hb := (ba.trans b6).trans bb
            have tBB := BB.tk u2
            refine ⟨.ref ka, rfl, .ref Dm, rfl, .ref M, rfl, .ref R, rfl, by show 4 ≤ sizeLine; decide, fun Z hZ => ?_⟩
            have sZ := same_new (o := .tup [V.ref ka, .ref Dm, .ref M, .ref R]) hZ
            have tZ := tk_same sZ
            refine q Z ⟨ks, ds, maps, rs⟩ _ (ub.same sZ) ((b2.trans BB).trans (but_same sZ)) ?_ rfl (drf_mk ok k3' dok lM hM d4' rd)
            exact .tup (.inl upd_same) (.cons (.tup (hka2.mono (tBB.trans tZ)) (ImAll.mono (tBB.trans tZ) _ hkx2)) (.cons (.tup (hdm2.mono (tBB.trans tZ)) (nats_im _)) (.cons (Im.mono (((b6.trans bb).tk ua).trans tZ) _ iM) (.cons (Im.mono tZ _ iR) .nil))))
end
end K63

set_option Elab.async false
set_option linter.all false
set_option maxRecDepth 100000
set_option exponentiation.threshold 20000
set_option pp.deepTerms false
set_option pp.deepTerms.threshold 8
namespace K63
open PySem PySem.Spec PyProof.Rows L2 Ly Mt
/-! ### bounds of drawn data; displays -/
theorem wt_rat {q : Rat} (h : q = 0 ∨ Wt q) : q.num.natAbs < 2 ^ 50 ∧ q.den < 2 ^ 50 := by
  rcases h with rfl | ⟨_, t, e, b⟩
  · decide
  have e2 : q = Rat.divInt t 6 := by
    rw [Rat.divInt_eq_div, ← e]
    have : ((6 : Int) : Rat) = 6 := rfl
    rw [this, Rat.div_def, Rat.mul_assoc, Rat.mul_inv_cancel _ (by decide), Rat.mul_one]
  have hn := made_num (t := t) (b := 6) (by decide)
  have hd := made_den (t := t) (b := 6) (by decide)
  rw [← e2] at hn hd
  have g := gcd_pos (t := t) (b := 6) (by decide)
  have l1 : (t / ((Nat.gcd t.natAbs (6 : Int).natAbs : Nat) : Int)).natAbs ≤ t.natAbs := Int.natAbs_ediv_le_natAbs _ _
  have l2 : ((6 : Int) / ((Nat.gcd t.natAbs (6 : Int).natAbs : Nat) : Int)).natAbs ≤ 6 := Int.natAbs_ediv_le_natAbs 6 _
  rw [hn] at l1
  rw [hd, Int.natAbs_natCast] at l2
  have : (1000000000001 * 6 : Nat) < 2 ^ 50 := by decide
  have : (6 : Nat) < 2 ^ 50 := by decide
  omega
theorem bn_rat {q : Rat} (h : q = 0 ∨ Wt q) : Bn 10 50 1 2 (rD q) := by
  obtain ⟨h1, h2⟩ := wt_rat h
  refine bn_tup.mpr ⟨?_, Nat.le_refl 0, Nat.le_refl _⟩
  show (decide (q.num.natAbs < 2 ^ 50) && (decide (((q.den : Nat) : Int).natAbs < 2 ^ 50) && true)) = true
  rw [decide_eq_true h1, decide_eq_true (by rw [Int.natAbs_natCast]; exact h2)]; rfl
/-- a tuple of so many, each so great -/
theorem bn_row {L B t w W : Nat} {ds : List PyData} (h : ∀ d ∈ ds, Bn L B t w d) (hW : ds.length * (w + 1) ≤ W) : Bn L B (t + 1) W (.tuple ds) := by
  refine bn_tup.mpr ⟨lfDs_iff.mpr fun d hd => (h d hd).lf, depthAll_le.mpr fun d hd => (h d hd).dp, Nat.le_trans ?_ hW⟩
  have go : ∀ ds : List PyData, (∀ d ∈ ds, d.bulk ≤ w) → PyData.bulkAll ds ≤ ds.length * (w + 1) := fun ds => by
    induction ds with
    | nil => exact fun _ => Nat.zero_le _
    | cons d ds ih =>
      intro h
      have h1 := h d (by simp)
      have h2 := ih fun x hx => h x (by simp [hx])
      show d.bulk + 1 + PyData.bulkAll ds ≤ (ds.length + 1) * (w + 1)
      rw [Nat.add_mul]
      omega
  exact go ds fun d hd => (h d hd).bk
theorem bn_map {α : Type} {L B t w W : Nat} {f : α → PyData} {l : List α} (h : ∀ x ∈ l, Bn L B t w (f x)) (hW : l.length * (w + 1) ≤ W) : Bn L B (t + 1) W (.tuple (l.map f)) :=
  bn_row (fun d hd => by obtain ⟨x, hx, rfl⟩ := List.mem_map.mp hd; exact h x hx) (by rw [List.length_map]; exact hW)
mutual
theorem sh_lf {L B : Nat} (hL : L ≤ 100000) (hB : B ≤ 1900) : ∀ {d : PyData}, lfD L B d = true → shS d = true
  | .none, _ => rfl
  | .bool _, _ => rfl
  | .int i, h => decide_eq_true (sm_of h hB)
  | .str x, h => by
    have h' : (decide (x.length ≤ L) && x.cps.toList.all fun c => decide (c < 128)) = true := h
    rw [Bool.and_eq_true, decide_eq_true_iff] at h'
    exact decide_eq_true (Nat.le_trans h'.1 hL)
  | .tuple ds, h => shs_lf hL hB (ds := ds) h
  | .list _, _ => rfl
  | .dict _, _ => rfl
theorem shs_lf {L B : Nat} (hL : L ≤ 100000) (hB : B ≤ 1900) : ∀ {ds : List PyData}, lfDs L B ds = true → shSs ds = true
  | [], _ => rfl
  | d :: ds, h => by
    have h' : (lfD L B d && lfDs L B ds) = true := h
    rw [Bool.and_eq_true] at h'
    show (shS d && shSs ds) = true
    rw [sh_lf hL hB h'.1, shs_lf hL hB h'.2]; rfl
end
section
variable {K : PySem.W.Frag} {S : Addr → Prop} {H0 : Hp} {σ : L2.St} {p : PyData → Prop}
theorem gd_up {t w t' w' L B : Nat} {te : TE} (g : Gd K S H0 σ (Bn L B t w) te) (ht : t ≤ t') (hw : w ≤ w') : Gd K S H0 σ (Bn L B t' w') te := fun H Q s q => g H Q s fun x d H' s' o b => q x d H' s' o (b.mono (Nat.le_refl _) (Nat.le_refl _) ht hw)
theorem gdi (i : Int) (h : i.natAbs < 2 ^ 50) : Gd K S H0 σ (Bn 10 50 0 0) (tC (.int i)) := gd_int i (Nat.lt_of_lt_of_le h (Nat.pow_le_pow_right (by decide) (by decide))) ⟨decide_eq_true h, Nat.le_refl _, Nat.le_refl _⟩
theorem gds (z : Str) (w : Nat) (h : lfD 10 50 (.str z) = true) (hw : z.length ≤ w) : Gd K S H0 σ (Bn 10 50 0 w) (tC (.str z)) := gd_str z (by
  have h' : (decide (z.length ≤ 10) && z.cps.toList.all fun c => decide (c < 128)) = true := h
  rw [Bool.and_eq_true, decide_eq_true_iff] at h'
  omega) ⟨h, Nat.le_refl _, hw⟩
theorem gd_tupB {L B t w n W : Nat} {ta : TA} (g : GdA K S H0 σ (Bn L B t w) n ta) (hn : n ≤ 999) (hW : n * (w + 1) ≤ W) : Gd K S H0 σ (Bn L B (t + 1) W) (tTup ta) := fun H Q s q =>
  g H _ s fun xs ds H1 s1 o1 p1 l1 => ⟨Nat.le_of_lt (small1000 (by omega)), fun a ha => q _ (.tuple ds) _ (s1.trans (same_new ha)) (.tup (.inl upd_same) (o1.mono (fo_same (same_new ha)))) (bn_row p1 (by rw [← o1.len, l1]; exact hW))⟩
theorem gd_tupT {L B t w n W : Nat} {ta : TA} (g : GdA K S H0 σ (Bn L B t w) n ta) (hn : n ≤ 999) (hW : n * (w + 1) ≤ W) : Gd K S H0 σ (fun d => jTup d = true ∧ Bn L B (t + 1) W d) (tTup ta) := fun H Q s q =>
  g H _ s fun xs ds H1 s1 o1 p1 l1 => ⟨Nat.le_of_lt (small1000 (by omega)), fun a ha => q _ (.tuple ds) _ (s1.trans (same_new ha)) (.tup (.inl upd_same) (o1.mono (fo_same (same_new ha)))) ⟨rfl, bn_row p1 (by rw [← o1.len, l1]; exact hW)⟩⟩
theorem gd_var {i : Nat} {v : V} {d : PyData} (hv : σ[i]? = some (some v)) (o : Od K S H0 v d) (h : p d) : Gd K S H0 σ p (tVar i) := fun H Q s q => ⟨v, hv, q v d H (Same.refl H) (o.mono (fo_same s)) h⟩
/-- t[:k] of a display -/
theorem gd_slA {L B t W : Nat} {te : TE} {th : TO} (g : Gd K S H0 σ (fun d => jTup d = true ∧ Bn L B (t + 1) W d) te) (hk : ∀ (H : Hp) (Q : Option Int → Hp → Prop), (∀ k : Int, Q (some k) H) → th σ H Q) : Gd K S H0 σ (Bn L B (t + 1) W) (tSl (rSlA K) te tNoPart th) := fun H Q s q =>
  g H _ s fun x d H1 s1 o1 ⟨j1, b1⟩ => hk H1 _ fun k => by
    rcases o1.tup_or with ⟨a, xs, ds, rfl, rfl, ha, hx⟩ | n
    · refine sl_any (lo := none) (hi := some k) ha fun b H2 s2 hb => ?_
      obtain ⟨es, o2, m2, b2⟩ := cut_od (hx.mono (fo_same s2)) none (some k)
      obtain ⟨c1, c2, c3⟩ := bn_tup.mp b1
      exact q _ (.tuple es) _ (s1.trans s2) (.tup hb o2) (bn_tup.mpr ⟨lfDs_iff.mpr fun e he => lfDs_iff.mp c1 e (m2 e he), depthAll_le.mpr fun e he => depthAll_le.mp c2 e (m2 e he), by omega⟩)
    · rw [n] at j1
      cases j1
theorem set_gd {H : Hp} {i : Nat} {te : TE} {u : TS} {D : L2.Ends} (g : Gd K S H0 σ p te) (s : Same H0 H)
    (k : ∀ x d H', Same H H' → Od K S H' x d → p d → u D (σ.set i (some x)) H') : tSeq (tAsg te (gName i)) u D σ H := g H _ s k
theorem ret_gd {H : Hp} {te : TE} {D : L2.Ends} (g : Gd K S H0 σ p te) (s : Same H0 H)
    (k : ∀ x d H', Same H H' → Od K S H' x d → p d → D.rt x H') : tRet te D σ H := g H _ s k
end
end K63

set_option Elab.async false
set_option linter.all false
set_option maxRecDepth 100000
set_option exponentiation.threshold 20000
set_option pp.deepTerms false
set_option pp.deepTerms.threshold 8
namespace K63
open PySem PySem.Spec PyProof.Rows L2 Ly Mt
/-! ### a right form is judged right -/
theorem nmB_of {z : Str} (h : NameOk z) : nmB z = true := by
  obtain ⟨⟨h1, h2⟩, h3, ⟨c, hc, hd⟩, hall⟩ := h
  unfold nmB
  rw [decide_eq_true h1, decide_eq_true h2, decide_eq_false (show ¬ (z = "fun" ∨ z = "kind" ∨ z = "number") from fun w => by
    rcases w with w | w | w
    · exact h3.1 w
    · exact h3.2.1 w
    · exact h3.2.2 w), hc]
  show (true && true && !false && !digC c && _) = true
  rw [hd, List.all_eq_true.mpr hall]; rfl
theorem jHigh_of {z : Str} (h : High z) : jHigh (.str z) = true := by
  obtain ⟨h1, c, hc, hh⟩ := h
  show (nmB z && hdB highC z) = true
  unfold hdB
  rw [nmB_of h1, hc]; exact hh
theorem jLow_of {z : Str} (h : NameOk z) {c : Nat} (hc : z.cps[0]? = some c) (hh : lowC c = true) : jLow (.str z) = true := by
  show (nmB z && hdB lowC z) = true
  unfold hdB
  rw [nmB_of h, hc]; exact hh
theorem jRow_of {ds : List PyData} {lo hi : Int} (h1 : lo ≤ (ds.length : Int)) (h2 : (ds.length : Int) ≤ hi) : jRow (.tuple ds) lo hi = true := by
  show (decide _ && decide _) = true
  rw [decide_eq_true h1, decide_eq_true h2]; rfl
theorem toMk_mk (m : Mk) : toMk (mkD m) = m := by
  show (m.1, ((m.2.map PyData.str).map stO)) = m
  rw [List.map_map, show (stO ∘ PyData.str) = id from rfl, List.map_id]
theorem toKd_kd (k : Kd) : toKd (kdD k) = k := by
  show (k.1, ((k.2.map mkD).map toMk)) = k
  rw [List.map_map, show (toMk ∘ mkD) = id from funext toMk_mk, List.map_id]
theorem toKs_ks (ks : List Kd) : toKs (ksD ks) = ks := by
  show (ks.map kdD).map toKd = ks
  rw [List.map_map, show (toKd ∘ kdD) = id from funext toKd_kd, List.map_id]
theorem toDs_ns (ds : List Nat) : toDs (nsD ds) = ds := by
  show (ds.map nD).map (fun x => (intO x).toNat) = ds
  rw [List.map_map]
  exact List.map_id' ds
theorem jKinds_of {ks : List Kd} (ok : KindsOk ks) : jKinds (ksD ks) = true := by
  have e1 : nmsD (ksD ks) = ks.map (·.1) := by
    show (ks.map kdD).map (fun k => stO (p0 k)) = _
    rw [List.map_map]; rfl
  have e2 : mksD (ksD ks) = (allMk ks).map mkD := by
    show (ks.map kdD).flatMap (fun k => its (p1 k)) = _
    unfold allMk
    rw [List.flatMap_map, List.map_flatMap]
    rfl
  have kf := ok.few
  unfold jKinds
  rw [e1, e2, decide_eq_true ok.nd]
  rw [show jRow (ksD ks) 1 6 = true from jRow_of (ds := ks.map kdD) (by rw [List.length_map]; omega) (by rw [List.length_map]; omega)]
  rw [show (decide (((allMk ks).map mkD).map fun m => stO (p0 m)).Nodup) = true from decide_eq_true (by rw [List.map_map]; exact ok.ndm)]
  have a1 : (its (ksD ks)).all jKd0 = true := List.all_eq_true.mpr fun x hx => by
    obtain ⟨k, hk, rfl⟩ := List.mem_map.mp (show x ∈ ks.map kdD from hx)
    have mk := ok.mks k hk
    unfold jKd0 jKd1
    show ((true && (jHigh (.str k.1) && jRow (.tuple (k.2.map mkD)) 1 6)) && (k.2.map mkD).all jMk0) = true
    rw [jHigh_of (ok.nm k hk), jRow_of (by rw [List.length_map]; omega) (by rw [List.length_map]; omega)]
    show (k.2.map mkD).all jMk0 = true
    refine List.all_eq_true.mpr fun y hy => ?_
    obtain ⟨m, hm, rfl⟩ := List.mem_map.mp hy
    obtain ⟨h1, h2⟩ := ok.mkk k hk m hm
    show (true && (jHigh (.str m.1) && jRow (.tuple (m.2.map .str)) 0 4)) = true
    rw [jHigh_of h1, jRow_of (by omega) (by rw [List.length_map]; omega)]; rfl
  have a2 : ((allMk ks).map mkD).all (jMk2 (ks.map (·.1))) = true := List.all_eq_true.mpr fun x hx => by
    obtain ⟨m, hm, rfl⟩ := List.mem_map.mp hx
    obtain ⟨k, hk, hmk⟩ := List.mem_flatMap.mp hm
    show (m.2.map PyData.str).all (jFld _) = true
    refine List.all_eq_true.mpr fun y hy => ?_
    obtain ⟨f, hf, rfl⟩ := List.mem_map.mp hy
    show (decide (f = "number") || decide (f ∈ ks.map (·.1))) = true
    rcases ok.flds k hk m hmk f hf with h | h
    · rw [decide_eq_true h]; rfl
    · rw [decide_eq_true h, Bool.or_true]
  rw [a1, a2]; rfl
theorem jDims_of {ds : List Nat} {n : Nat} (l : ds.length = n) (h : ∀ d ∈ ds, d ≤ 16) (hs : ds.sum ≤ 32) : jDims (nsD ds) (n : Nat) 1 = true := by
  unfold jDims
  rw [show jRow (nsD ds) (n : Nat) (n : Nat) = true from jRow_of (ds := ds.map nD) (by rw [List.length_map]; omega) (by rw [List.length_map]; omega)]
  have a1 : (its (nsD ds)).all (fun x => jWithin x 0 (16 * ((1 : Nat) : Int))) = true := List.all_eq_true.mpr fun x hx => by
    obtain ⟨d, hd, rfl⟩ := List.mem_map.mp (show x ∈ ds.map nD from hx)
    show (decide ((0 : Int) ≤ (d : Int)) && decide ((d : Int) ≤ 16 * ((1 : Nat) : Int))) = true
    have := h d hd
    rw [decide_eq_true (by omega), decide_eq_true (by omega)]; rfl
  have a2 : ((its (nsD ds)).map intO).sum = ((ds.sum : Nat) : Int) := by
    show ((ds.map nD).map intO).sum = _
    rw [List.map_map]
    clear a1 hs h l
    induction ds with
    | nil => rfl
    | cons d ds ih =>
      rw [List.map_cons, List.sum_cons, List.sum_cons, ih]
      show (d : Int) + _ = _
      omega
  rw [a1, a2, decide_eq_true (by omega)]; rfl
theorem jRatio_of (q : Rat) : jRatio (rD q) = true := by
  show (decide (1 ≤ ((q.den : Nat) : Int)) && decide (Nat.gcd q.num.natAbs ((q.den : Nat) : Int).natAbs = 1)) = true
  have := q.den_pos
  rw [decide_eq_true (by omega), decide_eq_true (by rw [Int.natAbs_natCast]; exact q.reduced)]; rfl
theorem jVec_of (r : List Rat) : jVec (vD r) (r.length : Nat) = true := by
  show (jRow _ _ _ && (r.map rD).all jRatio) = true
  rw [show jRow (vD r) (r.length : Nat) (r.length : Nat) = true from jRow_of (ds := r.map rD) (by rw [List.length_map]; omega) (by rw [List.length_map]; omega)]
  exact List.all_eq_true.mpr fun x hx => by
    obtain ⟨q, _, rfl⟩ := List.mem_map.mp hx
    exact jRatio_of q
theorem jCols_of : ∀ {ns ws : List Nat}, ns.length = ws.length → (∀ (i c w : Nat), ns[i]? = some c → ws[i]? = some w → c < w) → jCols (ns.map nD) ws = true
  | [], _, _, _ => rfl
  | n :: ns, [], h, _ => by simp at h
  | n :: ns, w :: ws, h, hc => by
    show (jWithin (nD n) 0 ((w : Int) - 1) && jCols (ns.map nD) ws) = true
    rw [jCols_of (by simpa using h) fun i c w h1 h2 => hc (i + 1) c w (by simpa using h1) (by simpa using h2)]
    have := hc 0 n w rfl rfl
    show (decide ((0 : Int) ≤ (n : Int)) && decide ((n : Int) ≤ (w : Int) - 1) && true) = true
    rw [decide_eq_true (by omega), decide_eq_true (by omega)]; rfl
theorem jTerm_of {dim : Nat} {ws : List Nat} {t : Tm} (h : TermOk dim ws t) : jTerm (tmD t) (dim : Nat) ws = true := by
  have hl := h.len
  unfold jTerm
  show (true && (jWithin (nD t.1) 0 ((dim : Nat) - 1) && (jRow (.tuple (t.2.1.map nD)) (ws.length : Nat) (ws.length : Nat) && (jCols (t.2.1.map nD) ws && jRat0 (rD t.2.2))))) = true
  rw [jRow_of (by rw [List.length_map]; omega) (by rw [List.length_map]; omega), jCols_of hl h.cols]
  have hr := h.row
  have e1 : jWithin (nD t.1) 0 ((dim : Nat) - 1) = true := by
    show (decide ((0 : Int) ≤ (t.1 : Int)) && decide ((t.1 : Int) ≤ (dim : Int) - 1)) = true
    rw [decide_eq_true (by omega), decide_eq_true (by omega)]; rfl
  have e2 : jRat0 (rD t.2.2) = true := by
    unfold jRat0
    rw [jRatio_of]
    show (true && !decide (t.2.2.num = 0)) = true
    rw [decide_eq_false fun z => h.nz (num_zero z)]; rfl
  rw [e1, e2]; rfl
theorem jTerms_of {dim most : Nat} {ws : List Nat} {ts : List Tm} (h : TermsOk dim ws most ts) : jTerms (tsD ts) (dim : Nat) ws (most : Nat) = true := by
  have hf := h.few
  unfold jTerms
  rw [show jRow (tsD ts) 0 (most : Nat) = true from jRow_of (ds := ts.map tmD) (by omega) (by rw [List.length_map]; omega)]
  have a1 : (its (tsD ts)).all (fun t => jTerm t (dim : Nat) ws) = true := List.all_eq_true.mpr fun x hx => by
    obtain ⟨t, ht, rfl⟩ := List.mem_map.mp (show x ∈ ts.map tmD from hx)
    exact jTerm_of (h.each t ht)
  rw [a1]
  show (List.range ((ts.map tmD).length - 1)).all _ = true
  refine List.all_eq_true.mpr fun i hi => ?_
  rw [List.mem_range, List.length_map] at hi
  have i1 : i < ts.length := by omega
  have i2 : i + 1 < ts.length := by omega
  have g1 : (ts.map tmD).getD i .none = tmD ts[i] := by rw [List.getD_eq_getElem?_getD, List.getElem?_map, List.getElem?_eq_getElem i1]; rfl
  have g2 : (ts.map tmD).getD (i + 1) .none = tmD ts[i + 1] := by rw [List.getD_eq_getElem?_getD, List.getElem?_map, List.getElem?_eq_getElem i2]; rfl
  show PySem.W.dataLt (kyD ((ts.map tmD).getD i .none)) (kyD ((ts.map tmD).getD (i + 1) .none)) = true
  rw [g1, g2]
  exact h.asc i _ _ (List.getElem?_eq_getElem i1) (List.getElem?_eq_getElem i2)
theorem jForm_of {F : Form} (ok : FormOk 1 F) : jForm (fmD F) 1 = true := by
  have kf := ok.kinds.few
  unfold jForm
  show (true && (jKinds (ksD F.ks) && (jDims (nsD F.dims) ((F.ks.map kdD).length : Nat) 1 && (jMaps (mpD F.maps) (toKs (ksD F.ks)) (toDs (nsD F.dims)) 4000 && jReads (rdsD F.rds) (toKs (ksD F.ks)) (toDs (nsD F.dims)))))) = true
  rw [jKinds_of ok.kinds, List.length_map, jDims_of ok.ld (fun d hd => by have := ok.hd d hd; omega) (by have := ok.sd; omega), toKs_ks, toDs_ns]
  have a1 : jMaps (mpD F.maps) F.ks F.dims 4000 = true := by
    unfold jMaps
    have lm := ok.lm
    rw [show jRow (mpD F.maps) (F.ks.length : Nat) (F.ks.length : Nat) = true from jRow_of (ds := F.maps.map mrD) (by rw [List.length_map]; omega) (by rw [List.length_map]; omega), Bool.true_and]
    refine List.all_eq_true.mpr fun i hi => ?_
    rw [List.mem_range] at hi
    obtain ⟨kd, hk⟩ : ∃ kd, F.ks[i]? = some kd := ⟨_, List.getElem?_eq_getElem hi⟩
    obtain ⟨row, hr⟩ : ∃ row, F.maps[i]? = some row := ⟨_, List.getElem?_eq_getElem (by omega)⟩
    have lr := ok.lr i kd row hk hr
    have g1 : F.ks.getD i (noS, []) = kd := by rw [List.getD_eq_getElem?_getD, hk]; rfl
    have g2 : (its (mpD F.maps)).getD i .none = mrD row := by
      show (F.maps.map mrD).getD i .none = _
      rw [List.getD_eq_getElem?_getD, List.getElem?_map, hr]; rfl
    rw [g1, g2]
    unfold jRowM
    rw [show jRow (mrD row) (kd.2.length : Nat) (kd.2.length : Nat) = true from jRow_of (ds := row.map tsD) (by rw [List.length_map]; omega) (by rw [List.length_map]; omega), Bool.true_and]
    refine List.all_eq_true.mpr fun j hj => ?_
    rw [List.mem_range] at hj
    obtain ⟨m, hm⟩ : ∃ m, kd.2[j]? = some m := ⟨_, List.getElem?_eq_getElem hj⟩
    obtain ⟨ts, ht⟩ : ∃ ts, row[j]? = some ts := ⟨_, List.getElem?_eq_getElem (by omega)⟩
    unfold jCell
    have g3 : kd.2.getD j (noS, []) = m := by rw [List.getD_eq_getElem?_getD, hm]; rfl
    have g4 : (its (mrD row)).getD j .none = tsD ts := by
      show (row.map tsD).getD j .none = _
      rw [List.getD_eq_getElem?_getD, List.getElem?_map, ht]; rfl
    rw [g3, g4]
    exact jTerms_of (ok.tm i kd row hk hr j m ts hm ht)
  have a2 : jReads (rdsD F.rds) F.ks F.dims = true := by
    have rd := ok.rd
    have rf := rd.few
    unfold jReads
    rw [show jRow (rdsD F.rds) 0 60 = true from jRow_of (ds := F.rds.map rdD) (by omega) (by rw [List.length_map]; omega)]
    have b1 : (its (rdsD F.rds)).all jRd0 = true := List.all_eq_true.mpr fun x hx => by
      obtain ⟨r, hr, rfl⟩ := List.mem_map.mp (show x ∈ F.rds.map rdD from hx)
      obtain ⟨h1, c, hc, hh⟩ := rd.low r hr
      show (true && jLow (.str r.1)) = true
      rw [jLow_of h1 hc hh]; rfl
    have b2 : (its (rdsD F.rds)).all (jRd1 F.ks F.dims) = true := List.all_eq_true.mpr fun x hx => by
      obtain ⟨r, hr, rfl⟩ := List.mem_map.mp (show x ∈ F.rds.map rdD from hx)
      obtain ⟨h1, h2⟩ := rd.kind r hr
      show (decide (r.2.1 ∈ F.ks.map (·.1)) && jVec (vD r.2.2) ((F.dims.getD ((F.ks.map (·.1)).idxOf r.2.1) 0 : Nat) : Int)) = true
      rw [decide_eq_true h1, ← h2, jVec_of]; rfl
    have b3 : decide ((its (rdsD F.rds)).map fun r => stO (p0 r)).Nodup = true := decide_eq_true (by
      show ((F.rds.map rdD).map fun r => stO (p0 r)).Nodup
      rw [List.map_map]
      exact rd.nd)
    rw [b1, b2, b3]; rfl
  rw [a1, a2]; rfl
/-! ### its bounds -/
theorem bn_name {z : Str} (h : NameOk z) : Bn 10 50 0 10 (.str z) := by
  obtain ⟨⟨h1, h2⟩, h3, h4, hall⟩ := h
  refine ⟨?_, Nat.le_refl _, h2⟩
  show (decide (z.length ≤ 10) && z.cps.toList.all fun c => decide (c < 128)) = true
  rw [decide_eq_true h2, Bool.true_and]
  refine List.all_eq_true.mpr fun c hc => decide_eq_true ?_
  have := hall c hc
  simp only [Bool.or_eq_true] at this
  have lo : ∀ c ∈ lows.cps.toList, c < 128 := by decide
  have hi : ∀ c ∈ highs.cps.toList, c < 128 := by decide
  have di : ∀ c ∈ digs.cps.toList, c < 128 := by decide
  rcases this with (h | h) | h
  · exact lo c (of_decide_eq_true h)
  · exact hi c (of_decide_eq_true h)
  · exact di c (of_decide_eq_true h)
theorem bn_number : Bn 10 50 0 10 (.str "number") := ⟨by decide, by decide, by decide⟩
theorem bn_nat {n : Nat} (h : n < 1000000) : Bn 10 50 0 10 (nD n) := ⟨decide_eq_true (by rw [Int.natAbs_natCast]; exact Nat.lt_of_lt_of_le h (by decide)), Nat.le_refl _, Nat.zero_le _⟩
theorem bn_up {L B t w t' w' : Nat} {d : PyData} (h : Bn L B t w d) (ht : t ≤ t') (hw : w ≤ w') : Bn L B t' w' d := h.mono (Nat.le_refl _) (Nat.le_refl _) ht hw
theorem bn_vec {r : List Rat} {n : Nat} (h : ∀ q ∈ r, q = 0 ∨ Wt q) (l : r.length ≤ n) : Bn 10 50 2 (3 * n) (vD r) := bn_map (fun q hq => bn_rat (h q hq)) (by omega)
theorem bn_2 {L B t w W : Nat} {a b : PyData} (ha : Bn L B t w a) (hb : Bn L B t w b) (hW : 2 * (w + 1) ≤ W) : Bn L B (t + 1) W (.tuple [a, b]) := bn_row (fun d hd => by
  rcases List.mem_cons.mp hd with rfl | hd
  · exact ha
  · rw [List.mem_singleton.mp hd]; exact hb) hW
theorem bn_3 {L B t w W : Nat} {a b c : PyData} (ha : Bn L B t w a) (hb : Bn L B t w b) (hc : Bn L B t w c) (hW : 3 * (w + 1) ≤ W) : Bn L B (t + 1) W (.tuple [a, b, c]) := bn_row (fun d hd => by
  rcases List.mem_cons.mp hd with rfl | hd
  · exact ha
  rcases List.mem_cons.mp hd with rfl | hd
  · exact hb
  · rw [List.mem_singleton.mp hd]; exact hc) hW
theorem bn_kinds {ks : List Kd} (ok : KindsOk ks) : Bn 10 50 5 7000 (ksD ks) := by
  have kf := ok.few
  refine bn_map (w := 1102) (fun k hk => ?_) (by omega)
  have mk := ok.mks k hk
  refine bn_2 (w := 550) (bn_up (bn_name (ok.nm k hk).1) (by decide) (by decide)) (bn_map (w := 90) (t := 2) (fun m hm => ?_) (by omega)) (by decide)
  obtain ⟨h1, h2⟩ := ok.mkk k hk m hm
  refine bn_2 (w := 44) (bn_up (bn_name h1.1) (by decide) (by decide)) (bn_map (w := 10) (t := 0) (fun f hf => ?_) (by omega)) (by decide)
  rcases ok.flds k hk m hm f hf with rfl | h
  · exact bn_number
  · obtain ⟨k', hk', e⟩ := List.mem_map.mp h
    rw [← e]
    exact bn_name (ok.nm k' hk').1
theorem bn_fm {F : Form} (d : Drf F) : Bn 10 50 6 25000 (fmD F) := by
  have ok := d.ok
  have kf := ok.kinds.few
  have dm : ∀ x ∈ F.dims, x ≤ 16 := fun x hx => by have := ok.hd x hx; omega
  have ld := ok.ld
  have lm := ok.lm
  have rf := ok.rd.few
  have dg : ∀ j, F.dims.getD j 0 ≤ 16 := fun j => by
    rw [List.getD_eq_getElem?_getD]
    cases e : F.dims[j]? with
    | none => exact Nat.zero_le _
    | some x => exact dm x (List.mem_of_getElem? e)
  have b0 := bn_kinds ok.kinds
  have b1 : Bn 10 50 5 100 (nsD F.dims) := bn_up (bn_map (w := 10) (W := 70) (t := 0) (fun x hx => bn_nat (by have := dm x hx; omega)) (by omega)) (by decide) (by decide)
  have b2 : Bn 10 50 5 6700 (mpD F.maps) := by
    refine bn_map (w := 1100) (fun row hrow => ?_) (by omega)
    obtain ⟨i, hi⟩ := List.getElem?_of_mem hrow
    have il := (List.getElem?_eq_some_iff.mp hi).1
    obtain ⟨kd, hk⟩ : ∃ kd, F.ks[i]? = some kd := ⟨_, List.getElem?_eq_getElem (by omega)⟩
    have lr := ok.lr i kd row hk hi
    have mk := ok.kinds.mks kd (List.mem_of_getElem? hk)
    refine bn_map (w := 180) (fun ts hts => ?_) (by omega)
    obtain ⟨j, hj⟩ := List.getElem?_of_mem hts
    have jl := (List.getElem?_eq_some_iff.mp hj).1
    obtain ⟨m, hm⟩ : ∃ m, kd.2[j]? = some m := ⟨_, List.getElem?_eq_getElem (by omega)⟩
    have eT : termsAt F i j = ts := by
      unfold termsAt
      rw [List.getD_eq_getElem?_getD (l := F.maps), hi]
      show row.getD j [] = ts
      rw [List.getD_eq_getElem?_getD, hj]; rfl
    have f6 := d.few i j
    rw [eT] at f6
    have tok := ok.tm i kd row hk hi j m ts hm hj
    have l4 := (ok.kinds.mkk kd (List.mem_of_getElem? hk) m (List.mem_of_getElem? hm)).2
    refine bn_map (w := 29) (fun t ht => ?_) (by omega)
    have te := tok.each t ht
    have hl := te.len
    rw [List.length_map] at hl
    have hrow' := te.row
    have d16 := dg i
    have hcol : ∀ c ∈ t.2.1, c < 100 := fun c hc => by
      obtain ⟨x, hx⟩ := List.getElem?_of_mem hc
      have xl := (List.getElem?_eq_some_iff.mp hx).1
      obtain ⟨f, hf⟩ : ∃ f, m.2[x]? = some f := ⟨_, List.getElem?_eq_getElem (by omega)⟩
      have := te.cols x c _ hx (by rw [List.getElem?_map, hf]; rfl)
      have wl : wd (F.ks.map (·.1)) F.dims f ≤ 16 := by
        unfold wd
        split
        · exact dg _
        · decide
      omega
    have w := d.wt i j t (by rw [eT]; exact ht)
    have c1 : Bn 10 50 1 8 (nD t.1) := ⟨(bn_nat (show t.1 < 1000000 by omega)).lf, Nat.zero_le _, Nat.zero_le _⟩
    have c2 : Bn 10 50 1 8 (nsD t.2.1) := bn_row (t := 0) (w := 0) (fun y hy => by
      obtain ⟨c, hc, rfl⟩ := List.mem_map.mp hy
      have := hcol c hc
      exact ⟨(bn_nat (show c < 1000000 by omega)).lf, Nat.le_refl _, Nat.zero_le _⟩) (by rw [List.length_map]; omega)
    exact bn_3 (w := 8) c1 c2 (bn_up (bn_rat (.inr w)) (by decide) (by decide)) (by decide)
  have b3 : Bn 10 50 5 11000 (rdsD F.rds) := by
    refine bn_up (bn_map (t := 3) (w := 180) (W := 11000) (fun r hr => ?_) (by omega)) (by decide) (by decide)
    obtain ⟨h1, _⟩ := ok.rd.low r hr
    obtain ⟨h2, h3⟩ := ok.rd.kind r hr
    obtain ⟨k', hk', e⟩ := List.mem_map.mp h2
    have n2 : NameOk r.2.1 := by rw [← e]; exact (ok.kinds.nm k' hk').1
    have := dg ((F.ks.map (·.1)).idxOf r.2.1)
    exact bn_3 (w := 48) (bn_up (bn_name h1) (by decide) (by decide)) (bn_up (bn_name n2) (by decide) (by decide)) (bn_up (bn_vec (n := 16) (d.rw r hr) (by omega)) (by decide) (by decide)) (by decide)
  obtain ⟨x1, x2, x3⟩ := b0
  obtain ⟨y1, y2, y3⟩ := b1
  obtain ⟨z1, z2, z3⟩ := b2
  obtain ⟨w1, w2, w3⟩ := b3
  refine bn_tup.mpr ⟨?_, ?_, ?_⟩
  · show (lfD 10 50 _ && (lfD 10 50 _ && (lfD 10 50 _ && (lfD 10 50 _ && true)))) = true
    rw [x1, y1, z1, w1]; rfl
  · show max _ (max _ (max _ (max _ 0))) ≤ 5
    omega
  · show (ksD F.ks).bulk + 1 + ((nsD F.dims).bulk + 1 + ((mpD F.maps).bulk + 1 + ((rdsD F.rds).bulk + 1 + 0))) ≤ 25000
    omega
end K63

set_option Elab.async false
set_option linter.all false
set_option maxRecDepth 100000
set_option exponentiation.threshold 20000
set_option pp.deepTerms false
set_option pp.deepTerms.threshold 8
namespace K63
open PySem PySem.Spec PyProof.Rows L2 Ly Mt
/-! ### things at the edges (printed by genedge.py) -/
abbrev noS' : Addr → Prop := fun _ => False
theorem str_app_len (x y : Str) : (x ++ y).length = x.length + y.length := by
  show (x.cps ++ y.cps).size = _
  rw [Array.size_append]; rfl
theorem sm_lt {i : Int} (h : i.natAbs < 1000000) : SmI i := Nat.lt_of_lt_of_le h (by decide)
theorem bn_i {i : Int} (h : i.natAbs < 1000000) : Bn 10 50 0 0 (.int i) := ⟨decide_eq_true (Nat.lt_of_lt_of_le h (by decide)), Nat.le_refl _, Nat.le_refl _⟩
section
variable {K : PySem.W.Frag} {S : Addr → Prop} {H0 : Hp} {σ : L2.St} {p : PyData → Prop}
def GdS (K : PySem.W.Frag) (S : Addr → Prop) (H0 : Hp) (σ : L2.St) (L B t W : Nat) (ta : TA) : Prop := ∀ (H : Hp) (Q : List V → Hp → Prop), Same H0 H → (∀ xs ds H', Same H H' → OdAll K S H' xs ds → lfDs L B ds = true ∧ PyData.depthAll ds ≤ t ∧ PyData.bulkAll ds ≤ W → Q xs H') → ta σ H Q
theorem gdS_nil {L B t : Nat} : GdS K S H0 σ L B t 0 tNil := fun H Q s q => q [] [] H (Same.refl H) .nil ⟨rfl, Nat.zero_le _, Nat.le_refl _⟩
theorem gdS_cons {L B t t' w W : Nat} {te : TE} {ta : TA} (a : Gd K S H0 σ (Bn L B t' w) te) (h : t' ≤ t) (b : GdS K S H0 σ L B t W ta) : GdS K S H0 σ L B t (w + 1 + W) (tCons te ta) := fun H Q s q =>
  a H _ s fun x d H1 s1 o1 p1 => b H1 _ (s.trans s1) fun xs ds H2 s2 o2 p2 => q (x :: xs) (d :: ds) H2 (s1.trans s2) (.cons (o1.mono (fo_same s2)) o2) (by
    obtain ⟨a1, a2, a3⟩ := p1
    obtain ⟨b1, b2, b3⟩ := p2
    refine ⟨?_, ?_, ?_⟩
    · show (lfD L B d && lfDs L B ds) = true
      rw [a1, b1]; rfl
    · show max d.depth (PyData.depthAll ds) ≤ t
      omega
    · show d.bulk + 1 + PyData.bulkAll ds ≤ _
      omega)
theorem gd_tupU {L B t W W' : Nat} {ta : TA} (g : GdS K S H0 σ L B t W' ta) (h : W' ≤ W ∧ W ≤ 1000000) : Gd K S H0 σ (fun d => jTup d = true ∧ Bn L B (t + 1) W d) (tTup ta) := fun H Q s q =>
  g H _ s fun xs ds H1 s1 o1 p1 => ⟨by
    have h1 := len_bulk ds
    have h2 := o1.len
    have h3 := p1.2.2
    have : 1000000 ≤ sizeLine := by decide
    omega, fun a ha => q _ (.tuple ds) _ (s1.trans (same_new ha)) (.tup (.inl upd_same) (o1.mono (fo_same (same_new ha)))) ⟨rfl, bn_tup.mpr ⟨p1.1, p1.2.1, Nat.le_trans p1.2.2 h.1⟩⟩⟩
theorem gd_tupS {L B t W W' : Nat} {ta : TA} (g : GdS K S H0 σ L B t W' ta) (h : W' ≤ W ∧ W ≤ 1000000) : Gd K S H0 σ (Bn L B (t + 1) W) (tTup ta) := fun H Q s q => gd_tupU g h H Q s fun x d H' s' o b => q x d H' s' o b.2
/-- a if .. else b -/
theorem gd_if1 {L B t W : Nat} {tt : TT} {ta tb : TE} (h : ∀ (H : Hp) (Q : Bool → Hp → Prop), Q true H → tt σ H Q) (g : Gd K S H0 σ (Bn L B t W) ta) : Gd K S H0 σ (Bn L B t W) (tIf tt ta tb) := fun H Q s q => h H (fun c H1 => if c = true then ta σ H1 Q else tb σ H1 Q) (iteT (g H Q s q))
theorem gd_if2 {L B t W : Nat} {tt : TT} {ta tb : TE} (h : ∀ (H : Hp) (Q : Bool → Hp → Prop), Q false H → tt σ H Q) (g : Gd K S H0 σ (Bn L B t W) tb) : Gd K S H0 σ (Bn L B t W) (tIf tt ta tb) := fun H Q s q => h H (fun c H1 => if c = true then ta σ H1 Q else tb σ H1 Q) (iteF (g H Q s q))
theorem gd_dim {s : Nat} {T : Addr} {x y z : Int} (hv : σ[s]? = some (some (.ref T))) (hT : ITup K H0 T [.int x, .int y, .int z]) (h : (x - 1).natAbs < 1000000) :
    Gd K S H0 σ (Bn 10 50 0 0) (tOp (rI0 fun i j => .int (i - j)) (tOp (rIxT K) (tVar s) (tC (.int 0))) (tC (.int 1))) := fun H Q s' q =>
  ⟨.ref T, hv, T, _, 0, _, rfl, rfl, (hT.mono (tk_same s')).sq, atI_nat (j := 0) rfl, _, _, rfl, rfl, q _ _ H (Same.refl H) (.int _ (sm_lt h)) (bn_i h)⟩
theorem gd_addI {s : Nat} (i : Int) {n : Int} (hv : σ[s]? = some (some (.int n))) (h : (i + n).natAbs < 1000000) : Gd K S H0 σ (Bn 10 50 0 0) (tOp (rI0 fun i j => .int (i + j)) (tC (.int i)) (tVar s)) := fun H Q s' q =>
  ⟨.int n, hv, i, n, rfl, rfl, q _ _ H (Same.refl H) (.int _ (sm_lt h)) (bn_i h)⟩
theorem gd_val {te : TE} (j : Int) (h : ∀ (H : Hp) (Q : VK), Q (.int j) H → te σ H Q) (hj : j.natAbs < 1000000) : Gd K S H0 σ (Bn 10 50 0 0) te := fun H Q s' q => h H Q (q _ _ H (Same.refl H) (.int _ (sm_lt hj)) (bn_i hj))
theorem gd_run {te : TE} {H : Hp} {Q : VK} (g : Gd K S H0 σ p te) (s : Same H0 H) (k : ∀ x d H', Same H H' → Od K S H' x d → p d → Q x H') : te σ H Q := g H Q s k
theorem gd_rep {L B t w n s : Nat} {te : TE} (g : Gd K S H0 σ (Bn L B t w) te) (hv : σ[s]? = some (some (.int (n : Nat)))) (hn : n ≤ 1) : Gd K S H0 σ (Bn L B (t + 1) (w + 1)) (tOp (rRepTA K) (tTup (tCons te tNil)) (tVar s)) := fun H Q s' q =>
  g H _ s' fun x d H1 s1 o1 b1 => ⟨by show 1 ≤ sizeLine; decide, fun a ha => ⟨.int (n : Nat), hv, by
    have sa := same_new (o := .tup [x]) ha
    refine rep_any (.inl upd_same) (by omega) fun b H2 s2 hb => ?_
    have o2 := o1.mono (fo_same (sa.trans s2))
    have hn' : n = 0 ∨ n = 1 := by omega
    rcases hn' with rfl | rfl
    · exact q _ (.tuple []) _ ((s1.trans sa).trans s2) (.tup hb .nil) (bn_row (t := t) (w := w) (fun _ h => nomatch h) (by show 0 * (w + 1) ≤ _; omega))
    · exact q _ (.tuple [d]) _ ((s1.trans sa).trans s2) (.tup hb (.cons o2 .nil)) (bn_row (t := t) (w := w) (fun e he => by rw [List.mem_singleton.mp he]; exact b1) (by show 1 * (w + 1) ≤ _; omega))⟩⟩
/-- tuple(terms) -/
theorem gd_tup1 {L B t W s : Nat} {M : Addr} {ws : List V} {ds : List PyData} (g : σ[s]? = some (some (.ref M)) ∧ H0 M = some (.lst ws) ∧ OdAll K S H0 ws ds ∧ Bn L B (t + 1) W (.tuple ds)) : Gd K S H0 σ (Bn L B (t + 1) W) (tCB (rTupK K) (tCons (tVar s) tNil)) := fun H Q s' q =>
  ⟨.ref M, g.1, M, ws, rfl, .inl ⟨.of (s' _ _ g.2.1), fun l hl => q _ (.tuple ds) _ (same_new hl) (.tup (.inl upd_same) (g.2.2.1.mono (fo_same (s'.trans (same_new hl))))) g.2.2.2⟩⟩
end
section
variable {P : Program} {w : World} {K : PySem.W.Frag} {mg : Str → Option Value} {base : Heap}
abbrev s__law_edge : Stmt := topS 55
theorem sc__law_edge : FnScope ["store", "way", "size", "vector", "plain", "dims", "last", "maps", "cube", "row", "count", "terms", "few", "k"] ["store"] (defScope s__law_edge) := ⟨rfl, rfl, rfl, by decide +kernel, rfl, by decide +kernel, by decide +kernel⟩
def sp_edge (K : PySem.W.Frag) : Sp := fun vs H Q _ => ∃ (c : Addr), vs = [.ref c] ∧ Sto H c ∧ ∀ x d H', Sto H' c → But c H H' → Od K noS' H' x d → Bn 10 50 9 60000 d → Q x H'
set_option maxHeartbeats 4000000 in
theorem ok__law_edge {f : Addr} {fd : FuncData} {k : Nat} (F : Fun K "_law_edge" "_law_edge" s__law_edge f fd) (T : Tx K mg){k1 : Nat} (D__law_pick : Def P w K mg base k1 "_law_pick" s__law_pick ["store", "many"] sp_pick) {k2 : Nat} (D__law_weight : Def P w K mg base k2 "_law_weight" s__law_weight ["store"] (sp_weight K)) (e1 : k1 ≤ k) (e2 : k2 ≤ k) : FnOk P w K mg base CX0 (k + 1) f fd ["store"] (sp_edge K) := by
  have nd := sc__law_edge.nd
  refine F.ok sc__law_edge (fun vs H Q E h => ?_) (fun cdv A outer s H vs Q E hr h => ?_)
  · obtain ⟨_, rfl, _⟩ := h
    rfl
  · obtain ⟨c, rfl, u, q⟩ := h
    refine ⟨_, (pss_cons (ps_par (i := 1) (j := 2) (by rfl) nd rfl rfl (by decide) rfl rfl (pa_cons (pe_def D__law_pick (hr.mono (by omega)) rfl (pa_cons (pv 0) (pa_cons pe_int pa_nil))) (pa_cons (pe_def D__law_pick (hr.mono (by omega)) rfl (pa_cons (pv 0) (pa_cons pe_int pa_nil))) pa_nil)) (by rfl))
      (pss_cons (ps_set (i := 3) nd rfl (.inr rfl) (pe_callTy (kcall_tuple K) (by rfl) T.m_tuple (by decide +kernel) (pa_cons (pe_lc (own := [("k", 13)]) (g := gName 13) (tt := tYes) rfl nd (pi_range1 rfl T.m_range (pa_cons (pe_op op_add pe_int (pv 2)) pa_nil)) (blkOk_by (by rfl)) (fun _ _ _ _ _ => (pg_name (i := 13) nd rfl (.inl rfl))) (fun _ _ _ _ _ => pts_nil) (fun _ _ _ _ _ => (pe_def D__law_weight (hr.mono (by omega)) rfl (pa_cons (pv 0) pa_nil)))) pa_nil)))
      (pss_cons (ps_if (pt_cmpR op_lt (pv 1) pe_int (nomark _))
        (pss_cons (ps_set (i := 4) nd rfl (.inl rfl) (pe_tup (pa_cons (pe_tup (pa_cons pe_str (pa_cons (pe_tup (pa_cons (pe_tup (pa_cons pe_str (pa_cons (pe_tup pa_nil) pa_nil))) pa_nil)) pa_nil))) (pa_cons (pe_tup (pa_cons pe_str (pa_cons (pe_tup (pa_cons (pe_tup (pa_cons pe_str (pa_cons (pe_tup (pa_cons pe_str (pa_cons pe_str pa_nil))) pa_nil))) pa_nil)) pa_nil))) (pa_cons (pe_tup (pa_cons pe_str (pa_cons (pe_tup (pa_cons (pe_tup (pa_cons pe_str (pa_cons (pe_tup pa_nil) pa_nil))) pa_nil)) pa_nil))) pa_nil)))))
        (pss_cons (ps_set (i := 5) nd rfl (.inl rfl) (pe_ix (kix_list K) (pe_lst (pa_cons (pe_tup (pa_cons (pe_op op_add pe_int (pv 2)) (pa_cons pe_int (pa_cons pe_int pa_nil)))) (pa_cons (pe_tup (pa_cons pe_int (pa_cons (pe_op op_add pe_int (pv 2)) (pa_cons pe_int pa_nil)))) (pa_cons (pe_tup (pa_cons pe_int (pa_cons pe_int (pa_cons (pe_op op_add pe_int (pv 2)) pa_nil)))) (pa_cons (pe_tup (pa_cons pe_int (pa_cons pe_int (pa_cons (pe_def D__law_pick (hr.mono (by omega)) rfl (pa_cons (pv 0) (pa_cons pe_int pa_nil))) pa_nil)))) pa_nil))))) (pe_def D__law_pick (hr.mono (by omega)) rfl (pa_cons (pv 0) (pa_cons pe_int pa_nil))) (fun _ _ => rfl)))
        (pss_cons (ps_set (i := 6) nd rfl (.inl rfl) (pe_op op_sub (pe_ix (kix_tup K) (pv 5) pe_int (fun _ _ => rfl)) pe_int))
        (pss_cons (ps_set (i := 7) nd rfl (.inl rfl) (pe_tup (pa_cons (pe_tup (pa_cons (pe_tup (pa_cons (pe_tup (pa_cons (pe_op op_sub (pe_ix (kix_tup K) (pv 5) pe_int (fun _ _ => rfl)) pe_int) (pa_cons (pe_tup pa_nil) (pa_cons (pe_tup (pa_cons pe_int (pa_cons pe_int pa_nil))) pa_nil)))) pa_nil)) pa_nil)) (pa_cons (pe_tup (pa_cons (pe_slice (ksl_tupA K) (pe_tup (pa_cons (pe_tup (pa_cons pe_int (pa_cons (pe_tup (pa_cons pe_int (pa_cons pe_int pa_nil))) (pa_cons (pe_tup (pa_cons pe_int (pa_cons pe_int pa_nil))) pa_nil)))) (pa_cons (pe_tup (pa_cons (pv 6) (pa_cons (pe_tup (pa_cons pe_int (pa_cons (pe_op op_sub (pe_ix (kix_tup K) (pv 5) pe_int (fun _ _ => rfl)) pe_int) pa_nil))) (pa_cons (pe_tup (pa_cons pe_int (pa_cons pe_int pa_nil))) pa_nil)))) pa_nil))) po_none (po_some (pe_op op_add (pv 6) pe_int))) pa_nil)) (pa_cons (pe_tup (pa_cons (pe_tup pa_nil) pa_nil)) pa_nil)))))
        (pss_one (ps_ret (pe_tup (pa_cons (pv 4) (pa_cons (pv 5) (pa_cons (pv 7) (pa_cons (pe_op (kop_repTA K) (pe_tup (pa_cons (pe_tup (pa_cons pe_str (pa_cons pe_str (pa_cons (pv 3) pa_nil)))) pa_nil)) (pv 1)) pa_nil)))))))))))
        pss_nil)
      (pss_cons (ps_if (pt_cmpR op_lt (pv 1) pe_int (nomark _))
        (pss_cons (ps_set (i := 8) nd rfl (.inl rfl) (pe_tup (pa_cons (pe_tup (pa_cons pe_str (pa_cons (pe_tup (pa_cons (pe_tup (pa_cons pe_str (pa_cons (pe_tup pa_nil) pa_nil))) (pa_cons (pe_tup (pa_cons pe_str (pa_cons (pe_tup (pa_cons pe_str (pa_cons pe_str (pa_cons pe_str pa_nil)))) pa_nil))) pa_nil))) pa_nil))) pa_nil)))
        (pss_cons (ps_asg (pe_tup (pa_cons (pe_def D__law_pick (hr.mono (by omega)) rfl (pa_cons (pv 0) (pa_cons (pe_op op_add pe_int (pv 2)) pa_nil))) (pa_cons (pe_op op_add pe_int (pe_def D__law_pick (hr.mono (by omega)) rfl (pa_cons (pv 0) (pa_cons pe_int pa_nil)))) pa_nil))) (kpg_tup K (n := 2) rfl (pgs_cons (pg_name (i := 9) nd rfl (.inr rfl)) (pgs_cons (pg_name (i := 10) nd rfl (.inl rfl)) pgs_nil))))
        (C8.pss_cut (ps_if (pt_cmpR op_eq (pv 1) pe_int (nomark _))
          (pss_one (ps_set (i := 10) nd rfl (.inl rfl) (pe_def D__law_pick (hr.mono (by omega)) rfl (pa_cons (pv 0) (pa_cons pe_int pa_nil)))))
          pss_nil)
        (pss_cons (ps_setLc (i := 11) (own := [("k", 13)]) (g := gName 13) (tt := tYes) rfl nd rfl rfl (sw_true rfl rfl rfl (by decide +kernel)) (pi_range1 rfl T.m_range (pa_cons (pv 10) pa_nil)) (blkOk_by (by rfl)) (fun _ _ _ _ _ => (pg_name (i := 13) nd rfl (.inl rfl))) (fun _ _ _ _ _ => pts_nil) (fun _ _ _ _ _ => (pe_tup (pa_cons (pv 9) (pa_cons (pe_tup (pa_cons (pe_op op_fdivW (pv 13) pe_int) (pa_cons (pe_op op_modN (pe_callTy call_int1 (by rfl) T.m_int (by decide +kernel) (pa_cons (pe_op op_fdivW (pv 13) pe_int) pa_nil)) pe_int) (pa_cons (pe_op op_modN (pe_callTy call_int1 (by rfl) T.m_int (by decide +kernel) (pa_cons (pv 13) pa_nil)) pe_int) pa_nil)))) (pa_cons (pe_tup (pa_cons pe_int (pa_cons (pe_op op_add pe_int (pe_op op_modN (pe_callTy call_int1 (by rfl) T.m_int (by decide +kernel) (pa_cons (pv 13) pa_nil)) pe_int)) pa_nil))) pa_nil))))))
        (pss_one (ps_ret (pe_tup (pa_cons (pv 8) (pa_cons (pe_ifExp (pt_cmpR op_eq (pv 1) pe_int (nomark _)) (pe_tup (pa_cons (pe_op op_add pe_int (pv 2)) pa_nil)) (pe_tup (pa_cons pe_int pa_nil))) (pa_cons (pe_tup (pa_cons (pe_tup (pa_cons (pe_tup pa_nil) (pa_cons (pe_callTy (kcall_tuple K) (by rfl) T.m_tuple (by decide +kernel) (pa_cons (pv 11) pa_nil)) pa_nil))) pa_nil)) (pa_cons (pe_tup pa_nil) pa_nil)))))))))))
        pss_nil)
      (pss_cons (ps_set (i := 12) nd rfl (.inl rfl) (pe_tup (pa_cons (pe_tup (pa_cons pe_str (pa_cons (pe_tup (pa_cons (pe_tup (pa_cons pe_str (pa_cons (pe_tup pa_nil) pa_nil))) pa_nil)) pa_nil))) pa_nil)))
      (pss_one (ps_ret (pe_tup (pa_cons (pv 12) (pa_cons (pe_tup (pa_cons pe_int pa_nil)) (pa_cons (pe_tup (pa_cons (pe_tup (pa_cons (pe_tup pa_nil) pa_nil)) pa_nil)) (pa_cons (pe_callTy (kcall_tuple K) (by rfl) T.m_tuple (by decide +kernel) (pa_cons (pe_lc (own := [("k", 13)]) (g := gName 13) (tt := tYes) rfl nd (pi_range1 rfl T.m_range (pa_cons (pe_op op_add pe_int (pv 2)) pa_nil)) (blkOk_by (by rfl)) (fun _ _ _ _ _ => (pg_name (i := 13) nd rfl (.inl rfl))) (fun _ _ _ _ _ => pts_nil) (fun _ _ _ _ _ => (pe_tup (pa_cons (pe_op op_add_str pe_str (pe_callTy call_str_int (by rfl) T.m_str (by decide +kernel) (pa_cons (pv 13) pa_nil))) (pa_cons pe_str (pa_cons (pe_slice (ksl_tupA K) (pv 3) po_none (po_some pe_int)) pa_nil)))))) pa_nil)) pa_nil)))))))))))), ?_⟩
    refine ⟨.ref c, rfl, c, 7, rfl, u, by decide, fun way H1 hw u1 b1 => ⟨.ref c, rfl, c, 4, rfl, u1, by decide, fun size H2 hs u2 b2 => ⟨_, _, rfl, ?_⟩⟩⟩
    have b12 := b1.trans b2
    refine ⟨.int (size : Nat), rfl, _, _, rfl, rfl, 13 + (size : Int), rfl, by omega, by omega, fun D hD => ?_⟩
    have nDc := u2.ne hD
    refine lc_all (walk_range (lo := 0) (n := (13 + (size : Int)).toNat)) (fun i Hx => Sto Hx c ∧ But c H2 Hx ∧ ∃ (ws : List V) (r : List Rat), Hx D = some (.lst ws) ∧ ImAll K Hx ws (r.map rD) ∧ r.length = i ∧ ∀ q ∈ r, q = 0 ∨ Wt q) ⟨u2.same (same_new hD), but_same (same_new hD), [], [], upd_same, .nil, rfl, fun q hq => by simp at hq⟩ (fun _ _ _ _ => trivial) (fun i x Hx Hy hi z y => ?_) (fun Hx z => ?_)
    · obtain ⟨ux, bx, ws, r, eD, im, lr, rw0⟩ := z
      obtain ⟨rfl, rfl⟩ := y
      have lw : ws.length = r.length := all_len im
      refine ⟨rfl, .ref c, rfl, c, rfl, ux, fun pq qq H9 u9 b9 i9 w9 => ?_⟩
      have e9 := b9 _ _ nDc eD
      refine ⟨ws, e9, small1000 (by omega), u9.upd nDc, fun b o nb e => ?_, _, r ++ [qq], upd_same, ?_, by rw [List.length_append, lr]; rfl, fun q hq => (List.mem_append.mp hq).elim (rw0 q) fun h => by rw [List.mem_singleton.mp h]; exact .inr w9⟩
      · rw [upd_ne (ne_of_none e hD)]; exact b9 _ _ nb (bx _ _ nb e)
      · rw [List.map_append]
        exact (ImAll.mono ((b9.tk ux).trans (tk_lst e9)) _ im).snoc (Im.mono (tk_lst e9) _ i9)
    obtain ⟨ux, bx, ws, r, eD, im, lr, rw0⟩ := z
    have lr' : r.length ≤ 16 := by omega
    refine ⟨D, _, rfl, .inl ⟨.of eD, fun lv hlv => ?_⟩⟩
    have sv := same_new (o := .tup ws) hlv
    have u3 := ux.same sv
    have b3 := (b12.trans bx).trans (but_same sv)
    have bV : Bn 10 50 2 48 (vD r) := bn_vec (n := 16) rw0 lr'
    have iV : Im K (upd Hx lv (.tup ws)) (.ref lv) (vD r) := .tup (.inl upd_same) (ImAll.mono (tk_new hlv) _ im)
    have oV : Od K noS' (upd Hx lv (.tup ws)) (.ref lv) (vD r) := Im.od _ (sh_lf (by decide) (by decide) bV.lf) iV
    generalize upd Hx lv (.tup ws) = H3 at *
    refine ⟨.int (way : Nat), rfl, _, _, rfl, rfl, _, rfl, ?_⟩
    by_cases hw2 : ((way : Nat) : Int) < 2
    · rw [decide_eq_true hw2]
      refine iteT ?_
      refine set_gd (K := K) (S := noS') (gd_tupS (t := 4) (W := 33) (gdS_cons (gd_tupS (t := 3) (W := 7) (gdS_cons (gds "A" 1 (by decide) (by decide)) (by decide) (gdS_cons (gd_tupS (t := 2) (W := 4) (gdS_cons (gd_tupS (t := 1) (W := 3) (gdS_cons (gds "L" 1 (by decide) (by decide)) (by decide) (gdS_cons (gd_tupS (t := 0) (W := 0) gdS_nil (by decide)) (by decide) gdS_nil)) (by decide)) (by decide) gdS_nil) (by decide)) (by decide) gdS_nil)) (by decide)) (by decide) (gdS_cons (gd_tupS (t := 3) (W := 16) (gdS_cons (gds "B" 1 (by decide) (by decide)) (by decide) (gdS_cons (gd_tupS (t := 2) (W := 13) (gdS_cons (gd_tupS (t := 1) (W := 12) (gdS_cons (gds "N" 1 (by decide) (by decide)) (by decide) (gdS_cons (gd_tupS (t := 0) (W := 9) (gdS_cons (gds "number" 6 (by decide) (by decide)) (by decide) (gdS_cons (gds "A" 1 (by decide) (by decide)) (by decide) gdS_nil)) (by decide)) (by decide) gdS_nil)) (by decide)) (by decide) gdS_nil) (by decide)) (by decide) gdS_nil)) (by decide)) (by decide) (gdS_cons (gd_tupS (t := 3) (W := 7) (gdS_cons (gds "C" 1 (by decide) (by decide)) (by decide) (gdS_cons (gd_tupS (t := 2) (W := 4) (gdS_cons (gd_tupS (t := 1) (W := 3) (gdS_cons (gds "P" 1 (by decide) (by decide)) (by decide) (gdS_cons (gd_tupS (t := 0) (W := 0) gdS_nil (by decide)) (by decide) gdS_nil)) (by decide)) (by decide) gdS_nil) (by decide)) (by decide) gdS_nil)) (by decide)) (by decide) gdS_nil))) (by decide)) (Same.refl _) fun xP dP H4 s4 oP bP => ?_
      have u4 := u3.same s4
      have b4 := b3.trans (but_same s4)
      have way1 : way ≤ 1 := by omega
      refine ⟨.int (size : Nat), rfl, _, _, rfl, rfl, by show 3 ≤ sizeLine; decide, fun T1 h1 => ⟨.int (size : Nat), rfl, _, _, rfl, rfl, by show 3 ≤ sizeLine; decide, fun T2 h2 => ⟨.int (size : Nat), rfl, _, _, rfl, rfl, by show 3 ≤ sizeLine; decide, fun T3 h3 => ?_⟩⟩⟩
      have t1 := same_new (o := .tup [.int (13 + (size : Int)), .int 16, .int 2]) h1
      have t2 := same_new (o := .tup [.int 16, .int (14 + (size : Int)), .int 1]) h2
      have t3 := same_new (o := .tup [.int 15, .int 0, .int (14 + (size : Int))]) h3
      have i1 := (t2.trans t3) _ _ (show (upd H4 T1 (.tup [.int (13 + (size : Int)), .int 16, .int 2])) T1 = _ from upd_same)
      have i2 := t3 _ _ (show (upd (upd H4 T1 (.tup [.int (13 + (size : Int)), .int 16, .int 2])) T2 (.tup [.int 16, .int (14 + (size : Int)), .int 1])) T2 = _ from upd_same)
      have i3 : (upd (upd (upd H4 T1 (.tup [.int (13 + (size : Int)), .int 16, .int 2])) T2 (.tup [.int 16, .int (14 + (size : Int)), .int 1])) T3 (.tup [.int 15, .int 0, .int (14 + (size : Int))])) T3 = _ := upd_same
      have t13 := (t1.trans t2).trans t3
      generalize upd (upd (upd H4 T1 (.tup [.int (13 + (size : Int)), .int 16, .int 2])) T2 (.tup [.int 16, .int (14 + (size : Int)), .int 1])) T3 (.tup [.int 15, .int 0, .int (14 + (size : Int))]) = H5 at *
      refine ⟨.ref c, rfl, c, 2, rfl, u4.same t13, by decide, fun e H6 he u6 b6 => ⟨by show 3 ≤ sizeLine; decide, fun T4 h4 => ⟨by show 4 ≤ sizeLine; decide, fun M hM => ?_⟩⟩⟩
      have t4 := same_new (o := .tup [.int 16, .int 16, .int (e : Nat)]) h4
      have tM := same_new (o := .lst [.ref T1, .ref T2, .ref T3, .ref T4]) hM
      have tup6 : ∀ {a : Addr} {xs : List V}, H5 a = some (.tup xs) → (upd (upd H6 T4 (.tup [.int 16, .int 16, .int (e : Nat)])) M (.lst [.ref T1, .ref T2, .ref T3, .ref T4])) a = some (.tup xs) := fun {a xs} h => (t4.trans tM) _ _ (b6.tk (u4.same t13) _ _ h)
      have k1 := tup6 i1
      have k2 := tup6 i2
      have k3 := tup6 i3
      have k4 := tM _ _ (show (upd H6 T4 (.tup [.int 16, .int 16, .int (e : Nat)])) T4 = some (.tup [.int 16, .int 16, .int (e : Nat)]) from upd_same)
      have eM : (upd (upd H6 T4 (.tup [.int 16, .int 16, .int (e : Nat)])) M (.lst [.ref T1, .ref T2, .ref T3, .ref T4])) M = some (.lst [.ref T1, .ref T2, .ref T3, .ref T4]) := upd_same
      have u7 := u6.same (t4.trans tM)
      have b7 := ((b4.trans (but_same t13)).trans b6).trans (but_same (t4.trans tM))
      have nM : M ≠ c := (u6.same t4).ne hM
      generalize upd (upd H6 T4 (.tup [.int 16, .int 16, .int (e : Nat)])) M (.lst [.ref T1, .ref T2, .ref T3, .ref T4]) = H7 at *
      refine ⟨.ref c, rfl, c, 4, rfl, u7, by decide, fun i H8 hi u8 b8 => ?_⟩
      have b08 := b7.trans b8
      obtain ⟨T, x, y, z, eT, hT8, hb⟩ : ∃ (T : Addr) (x y z : Int), ([.ref T1, .ref T2, .ref T3, .ref T4] : List V)[i]? = some (.ref T) ∧ ITup K H8 T [.int x, .int y, .int z] ∧ (0 ≤ x ∧ x ≤ 17 ∧ 0 ≤ y ∧ y ≤ 17 ∧ 0 ≤ z ∧ z ≤ 17) := by
        have t8 : ∀ {a : Addr} {xs : List V}, H7 a = some (.tup xs) → ITup K H8 a xs := fun {a xs} h => .inl (b8.tk u7 _ _ h)
        have hi' : i < 4 := by omega
        have hi4 : i = 0 ∨ i = 1 ∨ i = 2 ∨ i = 3 := by omega
        rcases hi4 with rfl | rfl | rfl | rfl
        · exact ⟨T1, _, _, _, rfl, t8 k1, by omega⟩
        · exact ⟨T2, _, _, _, rfl, t8 k2, by omega⟩
        · exact ⟨T3, _, _, _, rfl, t8 k3, by omega⟩
        · exact ⟨T4, _, _, _, rfl, t8 k4, by omega⟩
      refine ⟨M, _, (i : Nat), .ref T, rfl, rfl, .of (b8 _ _ nM eM), atI_nat eT, ?_⟩
      refine ⟨.ref T, rfl, T, _, 1, _, rfl, rfl, hT8.sq, atI_nat (j := 1) rfl, _, _, rfl, rfl, ?_⟩
      refine set_gd (K := K) (S := noS') (gd_tupS (t := 4) (W := 28) (gdS_cons (gd_tupS (t := 3) (W := 7) (gdS_cons (gd_tupS (t := 2) (W := 6) (gdS_cons (gd_tupS (t := 1) (W := 5) (gdS_cons (gd_dim (T := T) rfl hT8 (by omega)) (by decide) (gdS_cons (gd_tupS (t := 0) (W := 0) gdS_nil (by decide)) (by decide) (gdS_cons (gd_tupS (t := 0) (W := 2) (gdS_cons (gdi 1 (by decide)) (by decide) (gdS_cons (gdi 2 (by decide)) (by decide) gdS_nil)) (by decide)) (by decide) gdS_nil))) (by decide)) (by decide) gdS_nil) (by decide)) (by decide) gdS_nil) (by decide)) (by decide) (gdS_cons (gd_tupS (t := 3) (W := 17) (gdS_cons (gd_slA (gd_tupU (t := 2) (W := 16) (gdS_cons (gd_tupS (t := 1) (W := 7) (gdS_cons (gdi 0 (by decide)) (by decide) (gdS_cons (gd_tupS (t := 0) (W := 2) (gdS_cons (gdi 0 (by decide)) (by decide) (gdS_cons (gdi 0 (by decide)) (by decide) gdS_nil)) (by decide)) (by decide) (gdS_cons (gd_tupS (t := 0) (W := 2) (gdS_cons (gdi 1 (by decide)) (by decide) (gdS_cons (gdi 1 (by decide)) (by decide) gdS_nil)) (by decide)) (by decide) gdS_nil))) (by decide)) (by decide) (gdS_cons (gd_tupS (t := 1) (W := 7) (gdS_cons (gd_var rfl (.int _ (sm_lt (by omega))) (bn_i (by omega))) (by decide) (gdS_cons (gd_tupS (t := 0) (W := 2) (gdS_cons (gdi 1 (by decide)) (by decide) (gdS_cons (gd_dim (T := T) rfl hT8 (by omega)) (by decide) gdS_nil)) (by decide)) (by decide) (gdS_cons (gd_tupS (t := 0) (W := 2) (gdS_cons (gdi 2 (by decide)) (by decide) (gdS_cons (gdi 1 (by decide)) (by decide) gdS_nil)) (by decide)) (by decide) gdS_nil))) (by decide)) (by decide) gdS_nil)) (by decide)) fun H Q h => ⟨_, rfl, _, _, rfl, rfl, _, rfl, h _⟩) (by decide) gdS_nil) (by decide)) (by decide) (gdS_cons (gd_tupS (t := 1) (W := 1) (gdS_cons (gd_tupS (t := 0) (W := 0) gdS_nil (by decide)) (by decide) gdS_nil) (by decide)) (by decide) gdS_nil))) (by decide)) (Same.refl _) fun xM dM H9 s9 oM9 bM => ?_
      have oD9 : Od K noS' H9 (.ref T) (.tuple [.int x, .int y, .int z]) := .tup (hT8.mono (tk_same s9)) (.cons (.int _ (sm_lt (by omega))) (.cons (.int _ (sm_lt (by omega))) (.cons (.int _ (sm_lt (by omega))) .nil)))
      have bD : Bn 10 50 1 3 (.tuple [.int x, .int y, .int z]) := bn_3 (w := 0) (bn_i (by omega)) (bn_i (by omega)) (bn_i (by omega)) (by decide)
      have noFo : ∀ {Ha Hb : Hp}, Sto Ha c → But c Ha Hb → Fo noS' Ha Hb := fun u b => ⟨b.tk u, fun _ _ s _ => s.elim⟩
      have b49 : But c H4 H9 := ((((but_same t13).trans b6).trans (but_same (t4.trans tM))).trans b8).trans (but_same s9)
      have oV9 := (oV.mono (fo_same s4)).mono (noFo u4 b49)
      have oP9 := oP.mono (noFo u4 b49)
      exact ret_gd (K := K) (S := noS') (gd_tupS (t := 5) (W := 122) (gdS_cons (gd_var rfl oP9 bP) (by decide) (gdS_cons (gd_var rfl oD9 bD) (by decide) (gdS_cons (gd_var rfl oM9 bM) (by decide) (gdS_cons (gd_rep (n := way) (gd_tupS (t := 2) (W := 53) (gdS_cons (gds "f" 1 (by decide) (by decide)) (by decide) (gdS_cons (gds "A" 1 (by decide) (by decide)) (by decide) (gdS_cons (gd_var rfl oV9 bV) (by decide) gdS_nil))) (by decide)) rfl (by omega)) (by decide) gdS_nil)))) (by decide)) (Same.refl _) fun xR dR H10 s10 oR bR => q xR dR H10 ((u8.same s9).same s10) ((b08.trans (but_same s9)).trans (but_same s10)) oR (bn_up bR (by decide) (by decide))
    rw [decide_eq_false hw2]
    refine iteF ⟨.int (way : Nat), rfl, _, _, rfl, rfl, _, rfl, ?_⟩
    by_cases hw4 : ((way : Nat) : Int) < 4
    · rw [decide_eq_true hw4]
      refine iteT ?_
      refine set_gd (K := K) (S := noS') (gd_tupS (t := 4) (W := 18) (gdS_cons (gd_tupS (t := 3) (W := 17) (gdS_cons (gds "A" 1 (by decide) (by decide)) (by decide) (gdS_cons (gd_tupS (t := 2) (W := 14) (gdS_cons (gd_tupS (t := 1) (W := 3) (gdS_cons (gds "L" 1 (by decide) (by decide)) (by decide) (gdS_cons (gd_tupS (t := 0) (W := 0) gdS_nil (by decide)) (by decide) gdS_nil)) (by decide)) (by decide) (gdS_cons (gd_tupS (t := 1) (W := 9) (gdS_cons (gds "N" 1 (by decide) (by decide)) (by decide) (gdS_cons (gd_tupS (t := 0) (W := 6) (gdS_cons (gds "A" 1 (by decide) (by decide)) (by decide) (gdS_cons (gds "A" 1 (by decide) (by decide)) (by decide) (gdS_cons (gds "A" 1 (by decide) (by decide)) (by decide) gdS_nil))) (by decide)) (by decide) gdS_nil)) (by decide)) (by decide) gdS_nil)) (by decide)) (by decide) gdS_nil)) (by decide)) (by decide) gdS_nil) (by decide)) (Same.refl _) fun xC dC H4 s4 oC bC => ?_
      have u4 := u3.same s4
      have b4 := b3.trans (but_same s4)
      refine ⟨.ref c, rfl, .int (size : Nat), rfl, _, _, rfl, rfl, c, 13 + (size : Int), rfl, u4, by omega, fun row H5 hrow u5 b5 => ⟨.ref c, rfl, c, 4, rfl, u5, by decide, fun z H6 hz u6 b6 => ⟨_, _, rfl, rfl, by show 2 ≤ sizeLine; decide, fun T hT => ?_⟩⟩⟩
      have sT := same_new (o := .tup [.int (row : Nat), .int (3998 + (z : Int))]) hT
      have b46 := (b5.trans b6).trans (but_same sT)
      have u7 := u6.same sT
      refine ⟨T, _, rfl, ITup.sq (.inl upd_same), rfl, .int (row : Nat), _, rfl, .int (3998 + (z : Int)), _, rfl, rfl, ?_⟩
      generalize upd H6 T (.tup [.int (row : Nat), .int (3998 + (z : Int))]) = H7 at *
      refine ⟨fun σ' H' => ∃ cnt : Nat, σ' = [some (.ref c), some (.int (way : Nat)), some (.int (size : Nat)), some (.ref lv), none, none, none, none, some xC, some (.int (row : Nat)), some (.int (cnt : Nat)), none, none, none] ∧ cnt ≤ 4001 ∧ Sto H' c ∧ But c H4 H', ?_, ?_⟩
      · refine ⟨.int (way : Nat), rfl, rfl, _, rfl, ?_⟩
        by_cases hway3 : V.int (way : Nat) = V.int 3
        · rw [decide_eq_true hway3]
          exact iteT ⟨.ref c, rfl, c, 40, rfl, u7, by decide, fun y H8 hy u8 b8 => ⟨y, rfl, by omega, u8, b46.trans b8⟩⟩
        · rw [decide_eq_false hway3]
          refine iteF ⟨3998 + z, ?_, by omega, u7, b46⟩
          show _ = [some (.ref c), some (.int (way : Nat)), some (.int (size : Nat)), some (.ref lv), none, none, none, none, some xC, some (.int (row : Nat)), some (.int ((3998 + z : Nat) : Int)), none, none, none]
          rw [show ((3998 + z : Nat) : Int) = 3998 + (z : Int) by omega]; rfl
      rintro σ' H8 ⟨cnt, rfl, hcnt, u8, b48⟩
      refine ⟨.int (cnt : Nat), rfl, (cnt : Nat), rfl, by omega, by omega, fun D hD => ?_⟩
      refine lc_all (walk_range (lo := 0) (n := ((cnt : Nat) : Int).toNat)) (fun i Hx => Same H8 Hx ∧ ∃ (ws : List V) (ds : List PyData), Hx D = some (.lst ws) ∧ OdAll K noS' Hx ws ds ∧ ws.length = i ∧ ∀ d ∈ ds, Bn 10 50 2 8 d) ⟨same_new hD, [], [], upd_same, .nil, rfl, fun q hq => by simp at hq⟩ (fun _ _ _ _ => trivial) (fun i x Hx Hy hi z y => ?_) (fun Hx z => ?_)
      · obtain ⟨sx, ws, ds, eD, od, lw, bw⟩ := z
        obtain ⟨rfl, rfl⟩ := y
        rw [Int.toNat_natCast] at hi
        show gName 13 (V.int ((0 : Int) + (i : Nat))) _ _ _
        rw [show (0 : Int) + (i : Nat) = (i : Nat) by omega]
        refine ⟨rfl, ?_⟩
        have m16 := fmod_in (x := (i : Int) / 16) (m := 16) (by decide)
        have m1 := fmod_in (x := (i : Int)) (m := 16) (by decide)
        have m2 := fmod_in (x := (i : Int)) (m := 2) (by decide)
        have cd : ∀ j : Int, 0 < j → j.natAbs < 2 ^ 20 → CDivW (i : Int) j := fun j h1 h2 => wide_div h1 h2 (by decide) (by decide)
        refine gd_run (K := K) (S := noS') (p := Bn 10 50 2 8) (H0 := Hy) (gd_tupS (t := 1) (W := 8) (gdS_cons (gd_var rfl (.int _ (sm_lt (show ((row : Nat) : Int).natAbs < 1000000 by omega))) (bn_i (show ((row : Nat) : Int).natAbs < 1000000 by omega))) (by decide) (gdS_cons (gd_tupS (t := 0) (W := 3) (gdS_cons (gd_val ((i : Int) / 256) (fun H Q h => ⟨.int (i : Nat), rfl, _, _, rfl, rfl, cd 256 (by decide) (by decide), h⟩) (by omega)) (by decide)
          (gdS_cons (gd_val (((i : Int) / 16).fmod 16) (fun H Q h => ⟨.int (i : Nat), rfl, _, _, rfl, rfl, cd 16 (by decide) (by decide), .inl ⟨_, rfl, _, _, rfl, rfl, (by show (16 : Int) ≠ 0; decide), h⟩⟩) (by omega)) (by decide) (gdS_cons (gd_val ((i : Int).fmod 16) (fun H Q h => ⟨.int (i : Nat), rfl, .inl ⟨_, rfl, _, _, rfl, rfl, (by show (16 : Int) ≠ 0; decide), h⟩⟩) (by omega)) (by decide) gdS_nil))) (by decide)) (by decide)
          (gdS_cons (gd_tupS (t := 0) (W := 2) (gdS_cons (gdi 1 (by decide)) (by decide) (gdS_cons (gd_val (1 + (i : Int).fmod 2) (fun H Q h => ⟨.int (i : Nat), rfl, .inl ⟨_, rfl, _, _, rfl, rfl, (by show (2 : Int) ≠ 0; decide), _, _, rfl, rfl, h⟩⟩) (by omega)) (by decide) gdS_nil)) (by decide)) (by decide) gdS_nil))) (by decide)) (Same.refl _) fun x d H9 s9 o9 b9 => ?_
        refine ⟨ws, s9 _ _ eD, Nat.lt_of_le_of_lt (show ws.length ≤ 4001 by omega) (by decide), fun b o e => ?_, ws ++ [x], ds ++ [d], upd_same, ?_, by rw [List.length_append, lw]; rfl, fun y hy => (List.mem_append.mp hy).elim (bw y) fun h => by rw [List.mem_singleton.mp h]; exact b9⟩
        · rw [upd_ne (ne_of_none e hD)]; exact s9 _ _ (sx _ _ e)
        · have fo : Fo noS' H9 (upd H9 D (.lst (ws ++ [x]))) := ⟨tk_lst (s9 _ _ eD), fun _ _ s _ => s.elim⟩
          exact ((od.mono (fo_same s9)).mono fo).snoc (o9.mono fo)
      obtain ⟨sx, ws, ds, eD, od, lw, bw⟩ := z
      rw [Int.toNat_natCast] at lw
      have bT : Bn 10 50 4 40000 (.tuple ds) := bn_up (bn_row (t := 2) (w := 8) (W := 40000) bw (by rw [← od.len, lw]; omega)) (by decide) (Nat.le_refl _)
      have b4x := b48.trans (but_same sx)
      have noFo : ∀ {Ha Hb : Hp}, Sto Ha c → But c Ha Hb → Fo noS' Ha Hb := fun u b => ⟨b.tk u, fun _ _ s _ => s.elim⟩
      have oC9 := oC.mono (noFo u4 b4x)
      have ux := u8.same sx
      by_cases hway3 : V.int (way : Nat) = V.int 3
      · exact ret_gd (K := K) (S := noS') (H0 := Hx) (have gT := ⟨rfl, eD, od, bT⟩; (gd_tupS (t := 6) (W := 40026) (gdS_cons (gd_var rfl oC9 bC) (by decide) (gdS_cons (gd_if1 (fun H Q h => ⟨.int (way : Nat), rfl, rfl, _, rfl, by rw [decide_eq_true hway3]; exact h⟩) (gd_tupS (t := 0) (W := 1) (gdS_cons (gd_addI 13 rfl (by omega)) (by decide) gdS_nil) (by decide))) (by decide) (gdS_cons (gd_tupS (t := 5) (W := 40003) (gdS_cons (gd_tupS (t := 4) (W := 40002) (gdS_cons (gd_tupS (t := 0) (W := 0) gdS_nil (by decide)) (by decide) (gdS_cons (gd_tup1 (W := 40000) gT) (by decide) gdS_nil)) (by decide)) (by decide) gdS_nil) (by decide)) (by decide) (gdS_cons (gd_tupS (t := 0) (W := 0) gdS_nil (by decide)) (by decide) gdS_nil)))) (by decide))) (Same.refl _) fun xR dR H10 s10 oR bR => q xR dR H10 (ux.same s10) ((b4.trans b4x).trans (but_same s10)) oR (bn_up bR (by decide) (by decide))
      · exact ret_gd (K := K) (S := noS') (H0 := Hx) (have gT := ⟨rfl, eD, od, bT⟩; (gd_tupS (t := 6) (W := 40026) (gdS_cons (gd_var rfl oC9 bC) (by decide) (gdS_cons (gd_if2 (fun H Q h => ⟨.int (way : Nat), rfl, rfl, _, rfl, by rw [decide_eq_false hway3]; exact h⟩) (gd_tupS (t := 0) (W := 1) (gdS_cons (gdi 16 (by decide)) (by decide) gdS_nil) (by decide))) (by decide) (gdS_cons (gd_tupS (t := 5) (W := 40003) (gdS_cons (gd_tupS (t := 4) (W := 40002) (gdS_cons (gd_tupS (t := 0) (W := 0) gdS_nil (by decide)) (by decide) (gdS_cons (gd_tup1 (W := 40000) gT) (by decide) gdS_nil)) (by decide)) (by decide) gdS_nil) (by decide)) (by decide) (gdS_cons (gd_tupS (t := 0) (W := 0) gdS_nil (by decide)) (by decide) gdS_nil)))) (by decide))) (Same.refl _) fun xR dR H10 s10 oR bR => q xR dR H10 (ux.same s10) ((b4.trans b4x).trans (but_same s10)) oR (bn_up bR (by decide) (by decide))
    · rw [decide_eq_false hw4]
      refine iteF ?_
      refine set_gd (K := K) (S := noS') (gd_tupS (t := 4) (W := 8) (gdS_cons (gd_tupS (t := 3) (W := 7) (gdS_cons (gds "A" 1 (by decide) (by decide)) (by decide) (gdS_cons (gd_tupS (t := 2) (W := 4) (gdS_cons (gd_tupS (t := 1) (W := 3) (gdS_cons (gds "L" 1 (by decide) (by decide)) (by decide) (gdS_cons (gd_tupS (t := 0) (W := 0) gdS_nil (by decide)) (by decide) gdS_nil)) (by decide)) (by decide) gdS_nil) (by decide)) (by decide) gdS_nil)) (by decide)) (by decide) gdS_nil) (by decide)) (Same.refl _) fun xF dF H4 s4 oF9 bF => ?_
      have u4 := u3.same s4
      have b4 := b3.trans (but_same s4)
      have oV9 := oV.mono (fo_same s4)
      refine ret_gd (K := K) (S := noS') (gd_tupS (t := 5) (W := 4015) (gdS_cons (gd_var rfl oF9 bF) (by decide) (gdS_cons (gd_tupS (t := 0) (W := 1) (gdS_cons (gdi 2 (by decide)) (by decide) gdS_nil) (by decide)) (by decide) (gdS_cons (gd_tupS (t := 2) (W := 2) (gdS_cons (gd_tupS (t := 1) (W := 1) (gdS_cons (gd_tupS (t := 0) (W := 0) gdS_nil (by decide)) (by decide) gdS_nil) (by decide)) (by decide) gdS_nil) (by decide)) (by decide) (gdS_cons (?gR : Gd K noS' H4 _ (Bn 10 50 4 4000) _) (by decide) gdS_nil)))) (by decide)) (Same.refl _) fun xR dR H10 s10 oR bR => q xR dR H10 (u4.same s10) (b4.trans (but_same s10)) oR (bn_up bR (by decide) (by decide))
      refine fun H5 Q5 s5 q5 => ?_
      have oV5 := oV9.mono (fo_same s5)
      obtain ⟨lv', vs, elv, hlv5, ovs⟩ := oV5.tuple_inv
      cases elv
      obtain ⟨c1, c2, c3⟩ := bn_tup.mp bV
      refine ⟨.int (size : Nat), rfl, _, _, rfl, rfl, 58 + (size : Int), rfl, by omega, by omega, fun D hD => ?_⟩
      refine lc_all (walk_range (lo := 0) (n := (58 + (size : Int)).toNat)) (fun i Hx => Same H5 Hx ∧ ∃ (ws : List V) (ds : List PyData), Hx D = some (.lst ws) ∧ OdAll K noS' Hx ws ds ∧ ws.length = i ∧ ∀ d ∈ ds, Bn 10 50 3 61 d) ⟨same_new hD, [], [], upd_same, .nil, rfl, fun q hq => by simp at hq⟩ (fun _ _ _ _ => trivial) (fun i x Hx Hy hi z y => ?_) (fun Hx z => ?_)
      · obtain ⟨sx, ws, ds, eD, od, lw, bw⟩ := z
        obtain ⟨rfl, rfl⟩ := y
        show gName 13 (V.int ((0 : Int) + (i : Nat))) _ _ _
        rw [show (0 : Int) + (i : Nat) = (i : Nat) by omega]
        have i61 : i < 61 := by omega
        have hb : ((i : Nat) : Int).natAbs < 2 ^ 7 := by omega
        have l1 := int_len (B := 7) (by decide) hb
        have l2 := int_plain ((i : Nat) : Int)
        rw [PyData.shown_int] at l1 l2
        refine ⟨rfl, .int (i : Nat), rfl, (i : Nat), rfl, Nat.lt_of_lt_of_le (show ((i : Nat) : Int).natAbs.log2 < 7 from PySem.Flt.log2_lt_of (by decide) hb) (by decide), _, _, rfl, rfl, Nat.le_trans (show (1 : Nat) + _ ≤ 10 by omega) (by decide), .ref lv, rfl, 2, rfl, sl_any (lo := none) (hi := some 2) (hlv5.mono (tk_same sx)) fun p H6 s6 hp => ⟨by show 3 ≤ sizeLine; decide, fun T hT => ?_⟩⟩
        obtain ⟨es, o2, m2, b2⟩ := cut_od (ovs.mono (fo_same (sx.trans s6))) none (some 2)
        have sT := same_new (o := .tup [.str ("r" ++ (toString ((i : Nat) : Int) : Str)), .str "A", .ref p]) hT
        have lz : (("r" : Str) ++ (toString ((i : Nat) : Int) : Str)).length ≤ 9 := by
          rw [str_app_len]
          show 1 + _ ≤ 9
          omega
        have pz : ∀ c ∈ (("r" : Str) ++ (toString ((i : Nat) : Int) : Str)).cps.toList, c < 128 := fun c hc => by
          rcases mem_add.mp hc with hc | hc
          · have : ∀ c ∈ ("r" : Str).cps.toList, c < 128 := by decide
            exact this c hc
          · exact l2 c hc
        have oT : Od K noS' (upd H6 T (.tup [.str ("r" ++ (toString ((i : Nat) : Int) : Str)), .str "A", .ref p])) (.ref T) (.tuple [.str ("r" ++ (toString ((i : Nat) : Int) : Str)), .str "A", .tuple es]) :=
          .tup (.inl upd_same) (.cons (.str _ (by omega)) (.cons (.str _ (by decide)) (.cons (.tup (hp.mono (tk_same sT)) (o2.mono (fo_same sT))) .nil)))
        have bT : Bn 10 50 3 61 (.tuple [.str ("r" ++ (toString ((i : Nat) : Int) : Str)), .str "A", .tuple es]) := by
          refine bn_tup.mpr ⟨?_, ?_, ?_⟩
          · show ((decide (_ ≤ 10) && List.all _ _) && (lfD 10 50 (.str "A") && (lfDs 10 50 es && true))) = true
            rw [decide_eq_true (by omega), List.all_eq_true.mpr (fun c hc => decide_eq_true (pz c hc)), lfDs_iff.mpr (fun e he => lfDs_iff.mp c1 e (m2 e he))]
            decide
          · show max 0 (max 0 (max (PyData.depthAll es + 1) 0)) ≤ 2
            have := depthAll_le.mpr fun e he => depthAll_le.mp c2 e (m2 e he)
            omega
          · show (("r" : Str) ++ (toString ((i : Nat) : Int) : Str)).length + 1 + (1 + 1 + (PyData.bulkAll es + 1 + 0)) ≤ 61
            omega
        have s9 := s6.trans sT
        generalize upd H6 T (.tup [.str ("r" ++ (toString ((i : Nat) : Int) : Str)), .str "A", .ref p]) = H9 at *
        refine ⟨ws, s9 _ _ eD, small1000 (by omega), fun b o e => ?_, ws ++ [.ref T], ds ++ [_], upd_same, ?_, by rw [List.length_append, lw]; rfl, fun y hy => (List.mem_append.mp hy).elim (bw y) fun h => by rw [List.mem_singleton.mp h]; exact bT⟩
        · rw [upd_ne (ne_of_none e hD)]; exact s9 _ _ (sx _ _ e)
        · have fo : Fo noS' H9 (upd H9 D (.lst (ws ++ [.ref T]))) := ⟨tk_lst (s9 _ _ eD), fun _ _ s _ => s.elim⟩
          exact ((od.mono (fo_same s9)).mono fo).snoc (oT.mono fo)
      obtain ⟨sx, ws, ds, eD, od, lw, bw⟩ := z
      have l61 : ds.length ≤ 61 := by
        have := od.len
        omega
      refine ⟨D, ws, rfl, .inl ⟨.of eD, fun l hl => q5 _ (.tuple ds) _ (sx.trans (same_new hl)) (.tup (.inl upd_same) (od.mono (fo_same (same_new hl)))) (bn_row bw (by omega))⟩⟩
end
end K63

set_option Elab.async false
set_option linter.all false
set_option maxRecDepth 100000
set_option exponentiation.threshold 20000
set_option pp.deepTerms false
set_option pp.deepTerms.threshold 8
namespace K63
open PySem PySem.Spec PyProof.Rows L2 Ly Mt
/-! ### the law's likeness, of answers -/
section
variable {P : Program} {w : World} {K : PySem.W.Frag} {mg : Str → Option Value} {base : Heap}
abbrev s__law_same : Stmt := topS 40
theorem sc__law_same : FnScope ["found", "due", "k"] ["found", "due"] (defScope s__law_same) := ⟨rfl, rfl, rfl, by decide +kernel, rfl, by decide +kernel, by decide +kernel⟩
def sp_bsame (K : PySem.W.Frag) : Nat → Sp
  | 0 => fun _ _ _ _ => False
  | _ + 1 => fun vs H Q _ => ∃ b : Bool, vs = [.bl b, .bl b] ∧ Q (.bl true) H
theorem ok_bsame0 {f : Addr} {fd : FuncData} {k : Nat} (F : Fun K "_law_same" "_law_same" s__law_same f fd) : FnOk P w K mg base CX0 (k + 1) f fd ["found", "due"] (sp_bsame K 0) := by
  exact F.ok sc__law_same (fun vs H Q E h => h.elim) (fun cdv A outer s H vs Q E hr h => h.elim)
theorem ok__law_same {f : Addr} {fd : FuncData} {k : Nat} (F : Fun K "_law_same" "_law_same" s__law_same f fd) (T : Tx K mg){ki d : Nat} (D__law_same : Def P w K mg base ki "_law_same" s__law_same ["found", "due"] (sp_bsame K d)) (hk : ki ≤ k) : FnOk P w K mg base CX0 (k + 1) f fd ["found", "due"] (sp_bsame K (d + 1)) := by
  have nd := sc__law_same.nd
  refine F.ok sc__law_same (fun vs H Q E h => ?_) (fun cdv A outer s H vs Q E hr h => ?_)
  · obtain ⟨_, rfl, _⟩ := h
    rfl
  · obtain ⟨b, rfl, q⟩ := h
    refine ⟨_, (pss_cons (ps_if (pt_val (pe_callB (kcall_isi K) (by rfl) T.m_isinstance (by decide +kernel) (pa_cons (pv 1) (pa_cons (pe_bltn (v := .ty "tuple") (u := .type "tuple") (by rfl) T.m_tuple (by decide +kernel) rfl) pa_nil))))
        (pss_cons (ps_if (PW.pt (pw_or (pt_not (pt_val (pe_callB (kcall_isi K) (by rfl) T.m_isinstance (by decide +kernel) (pa_cons (pv 0) (pa_cons (pe_bltn (v := .ty "tuple") (u := .type "tuple") (by rfl) T.m_tuple (by decide +kernel) rfl) pa_nil))))) (pw_or1 (pt_cmpR op_ne (pe_callB (kcall_len K) (by rfl) T.m_len PySem.boot_len (pa_cons (pv 0) pa_nil)) (pe_callB (kcall_len K) (by rfl) T.m_len PySem.boot_len (pa_cons (pv 1) pa_nil)) (nomark _)))))
          (pss_one (ps_ret pe_bl))
          pss_nil)
        (pss_one (ps_ret (pe_callB (kcr_all K) (by rfl) T.m_all (by decide +kernel) (pa_cons (pe_lc (own := [("k", 2)]) (g := gName 2) (tt := tYes) rfl nd (pi_range1 rfl T.m_range (pa_cons (pe_callB (kcall_len K) (by rfl) T.m_len PySem.boot_len (pa_cons (pv 1) pa_nil)) pa_nil)) (blkOk_by (by rfl)) (fun _ _ _ _ _ => (pg_name (i := 2) nd rfl (.inl rfl))) (fun _ _ _ _ _ => pts_nil) (fun _ _ _ _ _ => (pe_def D__law_same (hr.mono (by omega)) rfl (pa_cons (pe_ix (kix_tup K) (pv 0) (pv 2) (fun _ _ => rfl)) (pa_cons (pe_ix (kix_tup K) (pv 1) (pv 2) (fun _ _ => rfl)) pa_nil))))) pa_nil)))))
        pss_nil)
      (pss_cons (ps_if (pt_cmp (pc_isN (pv 1)))
        (pss_one (ps_ret (pe_cmp (pc_isN (pv 0)) rfl)))
        pss_nil)
      (pss_cons (ps_if (pt_val (pe_callB (kcall_isi K) (by rfl) T.m_isinstance (by decide +kernel) (pa_cons (pv 1) (pa_cons (pe_bltn (v := .ty "str") (u := .type "str") (by rfl) T.m_str (by decide +kernel) rfl) pa_nil))))
        (pss_one (ps_ret (pe_and (pe_callB (kcall_isi K) (by rfl) T.m_isinstance (by decide +kernel) (pa_cons (pv 0) (pa_cons (pe_bltn (v := .ty "str") (u := .type "str") (by rfl) T.m_str (by decide +kernel) rfl) pa_nil))) (pe_one (pe_cmpR op_eq (pv 0) (pv 1) (nomark _))))))
        pss_nil)
      (pss_cons (ps_if (pt_val (pe_callB (kcall_isi K) (by rfl) T.m_isinstance (by decide +kernel) (pa_cons (pv 1) (pa_cons (pe_bltn (v := .ty "bool") (u := .type "bool") (by rfl) T.m_bool (by decide +kernel) rfl) pa_nil))))
        (pss_one (ps_ret (pe_and (pe_callB (kcall_isi K) (by rfl) T.m_isinstance (by decide +kernel) (pa_cons (pv 0) (pa_cons (pe_bltn (v := .ty "bool") (u := .type "bool") (by rfl) T.m_bool (by decide +kernel) rfl) pa_nil))) (pe_one (pe_cmpR op_eq (pv 0) (pv 1) (nomark _))))))
        pss_nil)
      (pss_one (ps_ret (pe_and (pe_callB (kcall_isi K) (by rfl) T.m_isinstance (by decide +kernel) (pa_cons (pv 0) (pa_cons (pe_bltn (v := .ty "int") (u := .type "int") (by rfl) T.m_int (by decide +kernel) rfl) pa_nil))) (pe_and (pe_not (pe_callB (kcall_isi K) (by rfl) T.m_isinstance (by decide +kernel) (pa_cons (pv 0) (pa_cons (pe_bltn (v := .ty "bool") (u := .type "bool") (by rfl) T.m_bool (by decide +kernel) rfl) pa_nil)))) (pe_one (pe_cmpR op_eq (pv 0) (pv 1) (nomark _))))))))))), ?_⟩
    refine ⟨.bl b, rfl, .bl b, _, .type "bool", _, false, rfl, .ty _, .base (.bl b), kit_ty (by decide +kernel), false, rfl, iteF ?_⟩
    refine ⟨.bl b, rfl, _, rfl, ?_⟩
    rw [decide_eq_false (show ¬ V.bl b = V.non from fun z => nomatch z)]
    refine iteF ⟨.bl b, rfl, .bl b, _, .type "bool", _, false, rfl, .ty _, .base (.bl b), kit_ty (by decide +kernel), false, rfl, iteF ?_⟩
    refine ⟨.bl b, rfl, .bl b, _, .type "bool", _, true, rfl, .ty _, .base (.bl b), kit_ty (by decide +kernel), true, rfl, iteT ?_⟩
    refine ⟨.bl b, rfl, .bl b, _, .type "bool", _, true, rfl, .ty _, .base (.bl b), kit_ty (by decide +kernel), true, rfl, iteT ?_⟩
    refine ⟨.bl b, rfl, .bl b, rfl, rfl, ?_⟩
    rw [decide_eq_true rfl]
    exact q
end
end K63

set_option Elab.async false
set_option linter.all false
set_option maxRecDepth 100000
/-! repr of odd data of any kind -/
namespace Ly
open PySem PySem.Spec PyProof.Rows L2
def rReprV (K : PySem.W.Frag) : List V → Hp → VK → Prop := fun vs H Q => ∃ (S : Addr → Prop) (x : V) (d : PyData), vs = [x] ∧ Od K S H x d ∧ d.showable = true ∧ d.shown.length ≤ sizeLine ∧ d.depth ≤ 15 ∧ Q (.str d.shown) H
theorem kcr_reprV {X : Cx} (K : PySem.W.Frag) (calm : Calm X.A) (hu : X.A.units + 20 < cLine) (eK : X.K = K := by rfl) : CallR X (.builtin "repr") (rReprV K) := by
  intro pins s σ H vs us Q I r q
  obtain ⟨S, x, d, rfl, hd, sh, sz, dp, q⟩ := q
  cases hd with
  | tup e r' => exact kcr_reprO K calm hu eK pins s σ H _ us Q I r ⟨S, _, _, rfl, .tup e r', sh, sz, dp, q⟩
  | lst a b c e => exact kcr_reprO K calm hu eK pins s σ H _ us Q I r ⟨S, _, _, rfl, .lst a b c e, sh, sz, dp, q⟩
  | dic a b => exact kcr_reprO K calm hu eK pins s σ H _ us Q I r ⟨S, _, _, rfl, .dic a b, sh, sz, dp, q⟩
  | non =>
    obtain ⟨u, rfl, r1⟩ := vals1 r
    cases r1
    exact PySem.P.repr_of_none ⟨.str _, H, I.tok _, ⟨_, rfl⟩, q⟩
  | bl b =>
    obtain ⟨u, rfl, r1⟩ := vals1 r
    cases r1
    refine PySem.P.repr_of_bool ⟨.str _, H, I.tok _, ⟨_, rfl⟩, ?_⟩
    cases b <;> exact q
  | int i _ =>
    obtain ⟨u, rfl, t, rfl⟩ := vals1 r
    exact PySem.P.repr_of_int (of_decide_eq_true sh) ⟨.str _, H, I.tok _, ⟨_, rfl⟩, by rw [PyData.shown_int] at q; exact q⟩
  | str z _ =>
    obtain ⟨u, rfl, t, rfl⟩ := vals1 r
    exact PySem.P.repr_of_str ⟨.str _, H, I.tok _, ⟨_, rfl⟩, q⟩ sz
end Ly

set_option Elab.async false
set_option linter.all false
set_option maxRecDepth 100000
set_option exponentiation.threshold 20000
set_option pp.deepTerms false
set_option pp.deepTerms.threshold 8
namespace K63
open PySem PySem.Spec PyProof.Rows L2 Ly Mt
/-! ### law k14 -/
def Cell (c : Int) : Prop := ∃ n, n ≤ 1100000 ∧ c.natAbs < 2 ^ n
theorem ints_of {ns : List Int} : ∀ {ys : List V}, (∀ v ∈ ys, v ∈ ns.map V.int) → ∃ cs : List Int, ys = cs.map V.int
  | [], _ => ⟨[], rfl⟩
  | y :: ys, h => by
    obtain ⟨cs, e⟩ := ints_of (ns := ns) (ys := ys) fun v hv => h v (List.mem_cons_of_mem _ hv)
    obtain ⟨n, _, en⟩ := List.mem_map.mp (h y (List.mem_cons_self ..))
    exact ⟨n :: cs, by rw [e, ← en]; rfl⟩
def one1 {α : Type} (us ws : List α) : List α := match us, ws with
  | [], [x] => [x]
  | _, _ => []
section
variable {P : Program} {w : World} {K : PySem.W.Frag} {mg : Str → Option Value} {base : Heap}
theorem kb_is_form_thing : ∀ f fd, Fun K "is_form" "is_form" s_is_form f fd → KBinds K fd ["thing"] ["thing"] one1 one1 := by
  intro f fd U
  obtain ⟨oc, od, kV, doc, pm, an, cdv, ct, osl, rfl, lk, hcd⟩ := U.ex
  refine ⟨fun s us ws X hl => ?_, fun {vs us zs ws} r rz => ?_⟩
  · match us, ws, hl with
    | [], [x], _ => exact .of_eq rfl
    | [], [], h => simp [one1] at h
    | [], _ :: _ :: _, h => simp [one1] at h
    | _ :: _, _, h => simp [one1] at h
  · cases r with
    | cons a b => exact .nil
    | nil =>
      cases rz with
      | nil => exact .nil
      | cons a b =>
        cases b with
        | nil => exact .cons a .nil
        | cons a2 b2 => exact .nil
/-- all stays but at two places -/
def But2 (c l : Addr) (H H' : Hp) : Prop := ∀ b o, b ≠ c → b ≠ l → H b = some o → H' b = some o
abbrev s_law : Stmt := topS 56
theorem sc_law : FnScope ["script", "lot", "store", "form", "things", "turn", "thing", "kept", "due"] ["script"] (defScope s_law) := ⟨rfl, rfl, rfl, by decide +kernel, rfl, by decide +kernel, by decide +kernel⟩
def sp_law (K : PySem.W.Frag) : Sp := fun vs H Q _ => ∃ (a : Addr) (ns : List Int), vs = [.ref a] ∧ SqL K H a (ns.map V.int) ∧ ns.length ≤ 63 ∧ (∀ c ∈ ns, Cell c) ∧ ∀ H', Q (.bl true) H'
set_option maxHeartbeats 8000000 in
theorem ok_law {f : Addr} {fd : FuncData} {k : Nat} (F : Fun K "law" "law" s_law f fd) (T : Tx K mg){k1 : Nat} (D__law_store : Def P w K mg base k1 "_law_store" s__law_store ["cells", "lot", "many"] (sp_store K)) {k2 : Nat} (D__law_kinds : Def P w K mg base k2 "_law_kinds" s__law_kinds ["store", "most"] (sp_kinds K)) {k3 : Nat} (D__law_form : Def P w K mg base k3 "_law_form" s__law_form ["store", "kinds", "most", "wide"] (sp_lform K)) {k4 : Nat} (D_is_form : Def P w K mg base k4 "is_form" s_is_form ["thing"] (so_is_form K)) {k5 : Nat} (D__law_same : Def P w K mg base k5 "_law_same" s__law_same ["found", "due"] (sp_bsame K 1)) {k6 : Nat} (D__law_edge : Def P w K mg base k6 "_law_edge" s__law_edge ["store"] (sp_edge K)) {k7 : Nat} (D__law_bent : Def P w K mg base k7 "_law_bent" s__law_bent ["store", "thing"] (sp_bent K 9)) {k8 : Nat} (D__law_is_form : Def P w K mg base k8 "_law_is_form" s__law_is_form ["thing"] (so_is_form K)) (e1 : k1 ≤ k) (e2 : k2 ≤ k) (e3 : k3 ≤ k) (e4 : k4 ≤ k) (e5 : k5 ≤ k) (e6 : k6 ≤ k) (e7 : k7 ≤ k) (e8 : k8 ≤ k) : Kept P w K mg base (k + 1) f fd ["script"] (sp_law K) := by
  have nd := sc_law.nd
  refine kept_of F sc_law (fun vs H Q E h => ?_) (fun cdv A outer s H vs Q E hr calm h => ?_)
  · obtain ⟨_, _, rfl, _⟩ := h
    rfl
  · obtain ⟨a, ns, rfl, hS, n63, hcell, q⟩ := h
    refine ⟨_, (pss_cons (ps_for PassesOwn.never rfl (pi_range1 rfl T.m_range (pa_cons pe_int pa_nil)) (pg_name (i := 1) nd rfl (.inl rfl))
        (pss_cons (ps_set (i := 2) nd rfl (.inl rfl) (pe_def D__law_store (hr.mono (by omega)) rfl (pa_cons (kpe_stepL K (by decide) (pv 0) (pv 1)) (pa_cons (pv 1) (pa_cons pe_int pa_nil)))))
        (pss_cons (ps_set (i := 3) nd rfl (.inl rfl) (pe_def D__law_form (hr.mono (by omega)) rfl (pa_cons (pv 2) (pa_cons (pe_def D__law_kinds (hr.mono (by omega)) rfl (pa_cons (pv 2) (pa_cons pe_int pa_nil))) (pa_cons pe_int (pa_cons pe_int pa_nil))))))
        (pss_cons (ps_if (PW.pt (pw_or (pt_not (pt_val (pe_def D__law_same (hr.mono (by omega)) rfl (pa_cons (pe_def D_is_form (hr.mono (by omega)) rfl (pa_cons (pv 3) pa_nil)) (pa_cons pe_bl pa_nil))))) (pw_or1 (pt_not (pt_val (pe_def D__law_same (hr.mono (by omega)) rfl (pa_cons (pe_defK D_is_form (hr.mono (by omega)) rfl kb_is_form_thing (pk_cons (pv 3) pk_nil)) (pa_cons pe_bl pa_nil))))))))
          (pss_one (ps_ret pe_bl))
          pss_nil)
        (pss_cons (ps_set (i := 4) nd rfl (.inl rfl) (pe_lst (pa_cons (pe_def D__law_edge (hr.mono (by omega)) rfl (pa_cons (pv 2) pa_nil)) (pa_cons (pe_slice (ksl_tupA K) (pv 3) po_none (po_some pe_int)) (pa_cons (pe_op (kop_catA K) (pv 3) (pe_tup (pa_cons (pe_tup pa_nil) pa_nil))) pa_nil)))))
        (pss_cons (ps_for PassesOwn.never rfl (pi_range1 rfl T.m_range (pa_cons pe_int pa_nil)) (pg_name (i := 5) nd rfl (.inl rfl))
          (pss_cons (ps_set (i := 6) nd rfl (.inl rfl) (pe_def D__law_bent (hr.mono (by omega)) rfl (pa_cons (pv 2) (pa_cons (pv 3) pa_nil))))
          (pss_cons (ps_expr (pe_bm PySem.F.plainAttrs_list PySem.F.slot_list_append PySem.F.type_list_append mt_append (pv 4) (pa_cons (pv 6) pa_nil)))
          (pss_one (ps_if (pt_cmpR op_gt (pv 5) pe_int (nomark _))
            (pss_one (ps_expr (pe_bm PySem.F.plainAttrs_list PySem.F.slot_list_append PySem.F.type_list_append mt_append (pv 4) (pa_cons (pe_def D__law_bent (hr.mono (by omega)) rfl (pa_cons (pv 2) (pa_cons (pv 6) pa_nil))) pa_nil))))
            pss_nil)))))
        (pss_one (ps_for PassesOwn.never rfl (kpi_list K (pv 4)) (pg_name (i := 6) nd rfl (.inl rfl))
          (pss_cons (ps_par (i := 7) (j := 8) (by rfl) nd rfl rfl (by decide) rfl rfl (pa_cons (pe_callB (kcr_reprV K calm (hu20 hr)) (by rfl) T.m_repr (by decide +kernel) (pa_cons (pv 6) pa_nil)) (pa_cons (pe_def D__law_is_form (hr.mono (by omega)) rfl (pa_cons (pv 6) pa_nil)) pa_nil)) (by rfl))
          (pss_one (ps_if (PW.pt (pw_or (pt_not (pt_val (pe_def D__law_same (hr.mono (by omega)) rfl (pa_cons (pe_def D_is_form (hr.mono (by omega)) rfl (pa_cons (pv 6) pa_nil)) (pa_cons (pv 8) pa_nil))))) (pw_or1 (pt_cmpR op_ne (pe_callB (kcr_reprV K calm (hu20 hr)) (by rfl) T.m_repr (by decide +kernel) (pa_cons (pv 6) pa_nil)) (pv 7) (nomark _)))))
            (pss_one (ps_ret pe_bl))
            pss_nil)))))))))))
      (pss_one (ps_ret pe_bl))), ?_⟩
    refine ⟨3, rfl, by decide, by decide, ?_⟩
    refine for_it (walk_range (lo := 0) (n := (3 : Int).toNat)) (fun i σ Ha => ∃ (y1 y2 y3 y4 y5 y6 y7 y8 : Option V), σ = [some (.ref a), y1, y2, y3, y4, y5, y6, y7, y8] ∧ Same H Ha) ⟨_, _, _, _, _, _, _, _, rfl, Same.refl _⟩ (fun _ _ _ _ _ => trivial) ?_ ?_
    · rintro i x σ Ha Hb hi ⟨y1, y2, y3, y4, y5, y6, y7, y8, rfl, sa⟩ ⟨rfl, rfl⟩
      have hi3 : i < 3 := hi
      show gName 1 (V.int ((0 : Int) + (i : Nat))) _ _ _
      rw [show (0 : Int) + (i : Nat) = (i : Nat) by omega]
      refine ⟨.ref a, rfl, .int (i : Nat), rfl, _, rfl, _, a, _, rfl, rfl, sql_same' hS sa, fun p ys hy hl hp => ?_⟩
      obtain ⟨cs, rfl⟩ := ints_of hy
      rw [List.length_map, List.length_map] at hl
      have sp := same_new (o := .lst (cs.map V.int)) hp
      refine ⟨.int (i : Nat), rfl, p, cs, i, 200, rfl, upd_same, by omega, by omega, by decide, by decide, fun c H1 s1 fc u1 => ?_⟩
      have s01 := sp.trans s1
      have fc0 : Hb c = none := sp.free fc
      refine ⟨.ref c, rfl, .ref c, rfl, c, 4, rfl, by decide, u1, fun pk ks H2 u2 b2 ok sm ik => ⟨c, .ref pk, ks, 4, rfl, by decide, by decide, u2, ik, ok, sm, fun pf F H3 u3 b3 iF ek dF => ?_⟩⟩
      have b13 := b2.trans b3
      have B3 : But c Hb H3 := (but_same s01).trans b13
      have bF := bn_fm dF
      have oF : ∀ {S : Addr → Prop}, Od K S H3 (.ref pf) (fmD F) := Im.od _ (sh_lf (by decide) (by decide) bF.lf) iF
      refine ⟨.ref pf, rfl, fun _ => False, .ref pf, fmD F, rfl, oF, fun H4 s4 => ?_⟩
      rw [jForm_of dF.ok]
      refine ⟨true, rfl, true, rfl, iteF ?_⟩
      refine ⟨.ref pf, rfl, fun _ => False, .ref pf, fmD F, rfl, oF.mono (fo_same s4), fun H5 s5 => ?_⟩
      rw [jForm_of dF.ok]
      refine ⟨true, rfl, true, rfl, iteF ?_⟩
      have s45 := s4.trans s5
      have u5 := u3.same s45
      have B5 := B3.trans (but_same s45)
      -- the edge
      refine ⟨.ref c, rfl, c, rfl, u5, fun xe de H6 u6 b6 oe be => ?_⟩
      have b36 := (but_same s45).trans b6
      have iF6 := Im.mono (b36.tk u3) _ iF
      obtain ⟨pf', xs, epf, hxs, ixs⟩ := iF6.tuple_inv
      cases epf
      obtain ⟨c1, c2, c3⟩ := bn_tup.mp bF
      have oF6 : ∀ {S : Addr → Prop}, OdAll K S H6 xs [ksD F.ks, nsD F.dims, mpD F.maps, rdsD F.rds] := ImAll.od _ (shs_lf (by decide) (by decide) c1) ixs
      have lxs : xs.length = 4 := (oF6 (S := fun _ => False)).len
      refine ⟨.ref pf, rfl, 3, rfl, sl_any (lo := none) (hi := some 3) hxs fun p2 H7 s7 hp2 => ⟨.ref pf, rfl, by show 0 ≤ sizeLine; decide, fun t0 ht0 => ⟨by show 1 ≤ sizeLine; decide, fun t1 ht1 => ?_⟩⟩⟩
      have st0 := same_new (o := .tup []) ht0
      have st1 := same_new (o := .tup [.ref t0]) ht1
      have s01' := st0.trans st1
      have it0 : ITup K (upd (upd H7 t0 (.tup [])) t1 (.tup [.ref t0])) t0 [] := .inl (st1 _ _ upd_same)
      have it1 : ITup K (upd (upd H7 t0 (.tup [])) t1 (.tup [.ref t0])) t1 [.ref t0] := .inl upd_same
      have s78 := s7.trans s01'
      generalize upd (upd H7 t0 (.tup [])) t1 (.tup [.ref t0]) = H8 at *
      refine cat_bigO (hxs.mono (tk_same s78)) it1 (by rw [lxs]; show 5 ≤ sizeLine; decide) fun p3 H9 s9 hp3 => ⟨by show 3 ≤ sizeLine; decide, fun L hL => ?_⟩
      have sL := same_new (o := .lst [xe, .ref p2, .ref p3]) hL
      have s69 := s78.trans s9
      obtain ⟨es, oes, mes, bes⟩ := cut_od (oF6 (S := fun a => a ≠ c ∧ a ≠ L)) none (some 3)
      have fo6L : Same H6 (upd H9 L (.lst [xe, .ref p2, .ref p3])) := s69.trans sL
      have bds : ∀ d, d = .tuple es ∨ d = .tuple ([ksD F.ks, nsD F.dims, mpD F.maps, rdsD F.rds] ++ [.tuple []]) → Bn 3000 60 9 150000 d := fun d hd => by
        have gen : ∀ l : List PyData, (∀ e ∈ l, e ∈ [ksD F.ks, nsD F.dims, mpD F.maps, rdsD F.rds] ∨ e = .tuple []) → PyData.bulkAll l ≤ 30000 → Bn 3000 60 9 150000 (.tuple l) := fun l hl hb => by
          refine bn_tup.mpr ⟨lfDs_mono (L := 10) (B := 50) (by decide) (by decide) (lfDs_iff.mpr fun e he => ?_), depthAll_le.mpr fun e he => ?_, by omega⟩
          · rcases hl e he with h | rfl
            · exact lfDs_iff.mp c1 e h
            · rfl
          · rcases hl e he with h | rfl
            · have := depthAll_le.mp c2 e h; omega
            · show 1 ≤ 8; decide
        rcases hd with rfl | rfl
        · exact gen es (fun e he => .inl (mes e he)) (by omega)
        · refine gen _ (fun e he => ?_) (by rw [bulkAll_app]; show _ + (0 + 1 + 0) ≤ _; omega)
          rcases List.mem_append.mp he with he | he
          · exact .inl he
          · exact .inr (List.mem_singleton.mp he)
      have o0 : OdAll K (fun a => a ≠ c ∧ a ≠ L) (upd H9 L (.lst [xe, .ref p2, .ref p3])) [xe, .ref p2, .ref p3] [de, .tuple es, .tuple ([ksD F.ks, nsD F.dims, mpD F.maps, rdsD F.rds] ++ [.tuple []])] := by
        refine .cons (od_sub (fun _ h => h.elim) (oe.mono (fo_same fo6L))) (.cons (.tup (hp2.mono (tk_same ((s01'.trans s9).trans sL))) (oes.mono (fo_same fo6L))) (.cons (.tup (hp3.mono (tk_same sL)) ((oF6.mono (fo_same fo6L)).snoc (.tup (it0.mono (tk_same (s9.trans sL))) .nil))) .nil))
      have u9 := u6.same fo6L
      have nLc : L ≠ c := (u6.same s69).ne hL
      have eL : (upd H9 L (.lst [xe, .ref p2, .ref p3])) L = some (.lst [xe, .ref p2, .ref p3]) := upd_same
      have B9 := (B5.trans b6).trans (but_same fo6L)
      have iF9 := Im.mono (tk_same fo6L) _ iF6
      have L0 : Hb L = none := by
        cases e : Hb L with
        | none => rfl
        | some o =>
          have := s69 _ _ ((B5.trans b6) L o nLc e)
          rw [hL] at this; cases this
      generalize upd H9 L (.lst [xe, .ref p2, .ref p3]) = H10 at *
      have nS : ¬ (fun a => a ≠ c ∧ a ≠ L) c := fun h => h.1 rfl
      refine ⟨12, rfl, by decide, by decide, ?_⟩
      refine for_it (walk_range (lo := 0) (n := (12 : Int).toNat)) (fun j σ Hj => ∃ (y5 y6 y7 y8 : Option V) (ws : List V) (ds : List PyData), σ = [some (.ref a), some (.int (i : Nat)), some (.ref c), some (.ref pf), some (.ref L), y5, y6, y7, y8] ∧ Sto Hj c ∧ But2 c L H10 Hj ∧ Im K Hj (.ref pf) (fmD F) ∧ Hj L = some (.lst ws) ∧ OdAll K (fun a => a ≠ c ∧ a ≠ L) Hj ws ds ∧ (∀ d ∈ ds, Bn 3000 60 9 150000 d) ∧ ws.length ≤ 3 + 2 * j) ⟨_, _, _, _, _, _, rfl, u9, fun _ _ _ _ h => h, iF9, eL, o0, fun d hd => ?_, Nat.le_refl _⟩ (fun _ _ _ _ _ => trivial) ?_ ?_
      · rcases List.mem_cons.mp hd with rfl | hd
        · exact be.mono (by decide) (by decide) (by decide) (by decide)
        rcases List.mem_cons.mp hd with rfl | hd
        · exact bds _ (.inl rfl)
        · rw [List.mem_singleton.mp hd]; exact bds _ (.inr rfl)
      · rintro j x σ Hj Hj' hj ⟨y5, y6, y7, y8, ws, ds, rfl, uj, bj, iFj, eLj, oj, bdj, lj⟩ ⟨rfl, rfl⟩
        have hj12 : j < 12 := hj
        show gName 5 (V.int ((0 : Int) + (j : Nat))) _ _ _
        rw [show (0 : Int) + (j : Nat) = (j : Nat) by omega]
        have bFd := bF.dp
        have bFb := bF.bk
        -- heaps that leave c
        have noNew : ∀ {Hx : Hp}, Sto Hx c → Hx L ≠ none → ∀ a, ((a ≠ c ∧ a ≠ L) ∨ Hx a = none) → (a ≠ c ∧ a ≠ L) := fun {Hx} ux hL a h => by
          rcases h with h | h
          · exact h
          · refine ⟨fun z => ?_, fun z => ?_⟩
            · subst z
              obtain ⟨_, _, h2, _⟩ := ux.ex
              rw [h2] at h; cases h
            · subst z; exact hL h
        have foB : ∀ {Hx Hy : Hp}, Sto Hx c → But c Hx Hy → Fo (fun a => a ≠ c ∧ a ≠ L) Hx Hy := fun ux b => ⟨b.tk ux, fun a o s e => b a o s.1 e⟩
        refine ⟨.ref c, rfl, .ref pf, rfl, (fun a => a ≠ c ∧ a ≠ L), c, .ref pf, fmD F, 10, 50, rfl, uj, nS, Im.od _ (sh_lf (by decide) (by decide) bF.lf) iFj, by omega, bF.lf, by decide, by decide, by decide, by decide, by omega, fun x1 e1 J1 v1 b1 o1 be1 => ?_⟩
        have eL1 := b1 _ _ nLc eLj
        have o1' := od_sub (noNew uj (by rw [eLj]; exact Option.some_ne_none _)) o1
        have oj1 := oj.mono (foB uj b1)
        have iF1 := Im.mono (b1.tk uj) _ iFj
        have bn1 := be1.bn
        have lw : ws.length ≤ 40 := by omega
        refine ⟨.ref L, rfl, .inl ⟨rfl, _, .of eL1⟩, x1, rfl, L, ws, x1, rfl, rfl, eL1, small1000 (by omega), ?_⟩
        have foA : Fo (fun a => a ≠ c ∧ a ≠ L) J1 (upd J1 L (.lst (ws ++ [x1]))) := fo_lst eL1 (fun a s => s.2)
        have eL2 : (upd J1 L (.lst (ws ++ [x1]))) L = some (.lst (ws ++ [x1])) := upd_same
        have v2 : Sto (upd J1 L (.lst (ws ++ [x1]))) c := v1.upd nLc
        have o2 := o1'.mono foA
        have oj2 := (oj1.mono foA).snoc o2
        have iF2 := Im.mono foA.1 _ iF1
        have b2' : But2 c L H10 (upd J1 L (.lst (ws ++ [x1]))) := fun b o h1 h2 e => by
          rw [upd_ne h2]; exact b1 _ _ h1 (bj _ _ h1 h2 e)
        have bd2 : ∀ d ∈ ds ++ [e1], Bn 3000 60 9 150000 d := fun d hd => by
          rcases List.mem_append.mp hd with hd | hd
          · exact bdj d hd
          · rw [List.mem_singleton.mp hd]
            exact bn1.mono (by omega) (by omega) (by omega) (by omega)
        generalize upd J1 L (.lst (ws ++ [x1])) = J2 at *
        refine ⟨.int (j : Nat), rfl, _, _, rfl, rfl, _, rfl, ?_⟩
        by_cases h8 : ((j : Nat) : Int) > 8
        rotate_left
        · rw [decide_eq_false h8]
          exact iteF ⟨_, _, _, _, _, _, rfl, v2, b2', iF2, eL2, oj2, bd2, by rw [List.length_append]; show _ + 1 ≤ _; omega⟩
        rw [decide_eq_true h8]
        have d1 := bn1.dp
        have d2 := bn1.bk
        refine iteT ⟨.ref L, rfl, .inl ⟨rfl, _, .of eL2⟩, .ref c, rfl, x1, rfl, (fun a => a ≠ c ∧ a ≠ L), c, x1, e1, 220, 52, rfl, v2, nS, o2, by omega, bn1.lf, by decide, by decide, by decide, by decide, by omega, fun x3 e3 J3 v3 b3' o3 be3 => ?_⟩
        have eL3 := b3' _ _ nLc eL2
        have o3' := od_sub (noNew v2 (by rw [eL2]; exact Option.some_ne_none _)) o3
        have oj3 := oj2.mono (foB v2 b3')
        have iF3 := Im.mono (b3'.tk v2) _ iF2
        have bn3 := be3.bn
        have foC : Fo (fun a => a ≠ c ∧ a ≠ L) J3 (upd J3 L (.lst ((ws ++ [x1]) ++ [x3]))) := fo_lst eL3 (fun a s => s.2)
        refine ⟨L, _, x3, rfl, rfl, eL3, small1000 (by rw [List.length_append]; show _ + 1 ≤ 1000; omega), _, _, _, _, (ws ++ [x1]) ++ [x3], (ds ++ [e1]) ++ [e3], rfl, v3.upd nLc, fun b o h1 h2 e => ?_, Im.mono foC.1 _ iF3, upd_same, (oj3.mono foC).snoc (o3'.mono foC), fun d hd => ?_, by rw [List.length_append, List.length_append]; show _ + 1 + 1 ≤ _; omega⟩
        · rw [upd_ne h2]; exact b3' _ _ h1 (b2' _ _ h1 h2 e)
        · rcases List.mem_append.mp hd with hd | hd
          · exact bd2 d hd
          · rw [List.mem_singleton.mp hd]
            exact bn3.mono (by omega) (by omega) (by omega) (by omega)
      · rintro σ Hj ⟨y5, y6, y7, y8, ws, ds, rfl, uj, bj, iFj, eLj, oj, bdj, lj⟩
        have lj' : ws.length ≤ 27 := lj
        refine ⟨.ref L, rfl, L, rfl, ⟨_, .of eLj⟩, ?_⟩
        have sEnd : Same Hb Hj := fun b o e => by
          have h1 : b ≠ c := ne_of_none e fc0
          have h2 : b ≠ L := ne_of_none e L0
          exact bj b o h1 h2 (B9 b o h1 e)
        refine for_it (walk_list (xs := ws)) (fun j σ Hx => ∃ (y6 y7 y8 : Option V), σ = [some (.ref a), some (.int (i : Nat)), some (.ref c), some (.ref pf), some (.ref L), y5, y6, y7, y8] ∧ Same Hj Hx) ⟨_, _, _, rfl, Same.refl _⟩ (fun j σ Hx _ z => ?_) ?_ ?_
        · obtain ⟨_, _, _, _, s⟩ := z
          exact .of (s _ _ eLj)
        · rintro j x σ Hx Hy hj ⟨y6, y7, y8, rfl, sx⟩ ⟨rfl, hxj⟩
          obtain ⟨d, hd, od⟩ := (oj.mono (fo_same sx)).getV hxj
          have bd := bdj d (List.mem_of_getElem? hd)
          obtain ⟨sh, sz⟩ := bd.shown (by decide) (by decide) (by decide)
          have dp : d.depth ≤ 15 := Nat.le_trans bd.dp (by decide)
          refine ⟨x, rfl, _, x, d, rfl, od, sh, sz, dp, ?_⟩
          refine ⟨x, rfl, _, x, d, rfl, od, fun J1 t1 => ⟨_, _, rfl, ?_⟩⟩
          refine ⟨x, rfl, _, x, d, rfl, od.mono (fo_same t1), fun J2 t2 => ⟨.bl (jForm d 1), rfl, jForm d 1, rfl, true, rfl, ?_⟩⟩
          have t12 := t1.trans t2
          refine iteF ⟨x, rfl, _, x, d, rfl, od.mono (fo_same t12), sh, sz, dp, .str d.shown, rfl, rfl, _, rfl, ?_⟩
          rw [decide_eq_true rfl]
          exact iteF ⟨_, _, _, rfl, sx.trans t12⟩
        · rintro σ Hx ⟨y6, y7, y8, rfl, sx⟩
          exact ⟨_, _, _, _, _, _, _, _, rfl, sa.trans (sEnd.trans sx)⟩
    · rintro σ Ha ⟨y1, y2, y3, y4, y5, y6, y7, y8, rfl, sa⟩
      exact q Ha
end
end K63

set_option Elab.async false
set_option linter.all false
set_option maxRecDepth 100000
namespace K63
open PySem PySem.Spec PyProof.Rows L2 Ly Mt
theorem int_mk {K : PySem.W.Frag} {h : Heap} {mg : Str → Option Value} (X : K.In h) (G : h.Ns mainGlobals mg) {x : Str} {i : Int} {t : Tok} (a : PySem.W.nsIn K mainGlobals x = some (some (.int i t))) : ∃ u, mg x = some u ∧ L2.RelV (.int i) u := ⟨_, PySem.W.mg_of X G a, ⟨_, rfl⟩⟩
theorem str_mk {K : PySem.W.Frag} {h : Heap} {mg : Str → Option Value} (X : K.In h) (G : h.Ns mainGlobals mg) {x z : Str} {t : Tok} (a : PySem.W.nsIn K mainGlobals x = some (some (.str z t))) : ∃ u, mg x = some u ∧ L2.RelV (.str z) u := ⟨_, PySem.W.mg_of X G a, ⟨_, rfl⟩⟩
theorem strs_mk {K : PySem.W.Frag} {h : Heap} {mg : Str → Option Value} (X : K.In h) (G : h.Ns mainGlobals mg) {x : Str} {a : Addr} {i j k : Str} {t u v : Tok} {dd : Option Addr} {n : Nat} {sl : Array (Option Value)}
    (e : PySem.W.nsIn K mainGlobals x = some (some (.ref a))) (l : K.lookup a = some ⟨.type "tuple", dd, .seq #[.str i t, .str j u, .str k v] n, sl⟩) : ∃ a, mg x = some (.ref a) ∧ ∀ H, ITup K H a [.str i, .str j, .str k] :=
  ⟨a, PySem.W.mg_of X G e, fun _ => .inr ⟨_, _, _, l, rfl, rfl, by show 3 ≤ sizeLine; decide, .cons ⟨_, rfl⟩ (.cons ⟨_, rfl⟩ (.cons ⟨_, rfl⟩ .nil))⟩⟩
theorem kit_own {K : PySem.W.Frag} {D C : Addr} {b : Bool} (hn : (Value.ref D == Value.ref C) = false) (hdct : PySem.W.hasDictIn K C = true) (ht : PySem.W.typeIn K (.ref C) = some (.type "type")) (h4 : PySem.W.subIn K (.ref D) (.ref C) = some b) : PySem.W.kitOne K (.ref D) (.ref C) = some b := by
  unfold PySem.W.kitOne
  rw [hn]
  obtain ⟨cd, hc, _⟩ := PySem.W.any_some hdct
  show (if ((PySem.W.clsIn K C).isSome && PySem.W.typeIn K (.ref C) == some (.type "type")) = true then PySem.W.subIn K (.ref D) (.ref C) else none) = some b
  rw [if_pos (by rw [hc, ht] <;> rfl)]
  exact h4
theorem kit_self {K : PySem.W.Frag} {D : Addr} (hn : (Value.ref D == Value.ref D) = true) : PySem.W.kitOne K (.ref D) (.ref D) = some true := by
  unfold PySem.W.kitOne
  rw [if_pos hn]
theorem law_cells {ns : List Int} (h : ∀ z ∈ ns, Builtin.Int.intBits z ≤ 1048576) : ∀ c ∈ ns, Cell c := fun c hc => ⟨1048576, by decide, PySem.intBits_le_iff.mp (h c hc)⟩
set_option maxHeartbeats 0 in
theorem all_mk {l : PySem.W.OpenLaw} {w : World} {K : PySem.W.Frag} {mg : Str → Option Value} {fa : Addr} (hfa : mg "law" = some (.ref fa)) (T : Tx K mg)
    (h_is_int : Here K mg "is_int" s_is_int) (h_within : Here K mg "within" s_within) (h_is_pair : Here K mg "is_pair" s_is_pair) (h_is_row : Here K mg "is_row" s_is_row) (h_is_name : Here K mg "is_name" s_is_name) (h_is_low : Here K mg "is_low" s_is_low) (h_is_high : Here K mg "is_high" s_is_high) (h_all_unlike : Here K mg "all_unlike" s_all_unlike) (h_is_ratio : Here K mg "is_ratio" s_is_ratio) (h_is_kinds : Here K mg "is_kinds" s_is_kinds) (h_maker_table : Here K mg "maker_table" s_maker_table) (h_is_vector_of : Here K mg "is_vector_of" s_is_vector_of) (h_are_dims : Here K mg "are_dims" s_are_dims) (h_is_term : Here K mg "is_term" s_is_term) (h_are_terms : Here K mg "are_terms" s_are_terms) (h_are_reads : Here K mg "are_reads" s_are_reads) (h_are_maps : Here K mg "are_maps" s_are_maps) (h_has_form : Here K mg "has_form" s_has_form) (h_widths_of : Here K mg "widths_of" s_widths_of) (h_is_form : Here K mg "is_form" s_is_form) (h__law_store : Here K mg "_law_store" s__law_store) (h__law_pick : Here K mg "_law_pick" s__law_pick) (h__law_ratio : Here K mg "_law_ratio" s__law_ratio) (h__law_same : Here K mg "_law_same" s__law_same) (h__law_kinds : Here K mg "_law_kinds" s__law_kinds) (h__law_weight : Here K mg "_law_weight" s__law_weight) (h__law_vector : Here K mg "_law_vector" s__law_vector) (h__law_form : Here K mg "_law_form" s__law_form) (h__law_is_row : Here K mg "_law_is_row" s__law_is_row) (h__law_is_whole : Here K mg "_law_is_whole" s__law_is_whole) (h__law_is_ratio : Here K mg "_law_is_ratio" s__law_is_ratio) (h__law_is_vector : Here K mg "_law_is_vector" s__law_is_vector) (h__law_is_name : Here K mg "_law_is_name" s__law_is_name) (h__law_are_kinds : Here K mg "_law_are_kinds" s__law_are_kinds) (h__law_is_term : Here K mg "_law_is_term" s__law_is_term) (h__law_are_maps : Here K mg "_law_are_maps" s__law_are_maps) (h__law_is_form : Here K mg "_law_is_form" s__law_is_form) (h__law_bent : Here K mg "_law_bent" s__law_bent) (h__law_edge : Here K mg "_law_edge" s__law_edge) (h_law : Here K mg "law" s_law) :
    ∃ fd : FuncData, (∀ (s : Shared) (v : Value), BindsTo s fd ⟨[v], []⟩ [("script", v)]) ∧ ∀ base : Heap, K.In base → base.Ns mainGlobals mg → Kept l.prog w K mg base 20 fa fd ["script"] (sp_law K) := by
  obtain ⟨f, fd, hm, F⟩ := h_law
  have e : f = fa := by
    have := hm.symm.trans hfa
    injection this with e1
    injection e1
  subst e
  refine ⟨fd, fun s v => ?_, fun base _ _ => ?_⟩
  · obtain ⟨oc, od, kV, doc, pm, an, cdv, ct, osl, rfl, lk, hcd⟩ := F.ex
    exact .of_eq rfl
  have D__law_store : Def l.prog w K mg base 1 "_law_store" s__law_store ["cells", "lot", "many"] (sp_store K) := h__law_store.toDef (fun F => ok__law_store F T) fun _ _ _ _ _ _ us hl => match us, hl with | [_, _, _], _ => rfl
  have D__law_pick : Def l.prog w K mg base 1 "_law_pick" s__law_pick ["store", "many"] sp_pick := h__law_pick.toDef (fun F => ok__law_pick F T) fun _ _ _ _ _ _ us hl => match us, hl with | [_, _], _ => rfl
  have D__law_kinds : Def l.prog w K mg base 2 "_law_kinds" s__law_kinds ["store", "most"] (sp_kinds K) := h__law_kinds.toDef (fun F => ok__law_kinds F T D__law_pick (by decide)) fun _ _ _ _ _ _ us hl => match us, hl with | [_, _], _ => rfl
  have D__law_weight : Def l.prog w K mg base 2 "_law_weight" s__law_weight ["store"] (sp_weight K) := h__law_weight.toDef (fun F => ok__law_weight F T D__law_pick (by decide)) fun _ _ _ _ _ _ us hl => match us, hl with | [_], _ => rfl
  have D__law_vector : Def l.prog w K mg base 3 "_law_vector" s__law_vector ["store", "size"] (sp_vector K) := h__law_vector.toDef (fun F => ok__law_vector F T D__law_pick D__law_weight (by decide) (by decide)) fun _ _ _ _ _ _ us hl => match us, hl with | [_, _], _ => rfl
  have D__law_form : Def l.prog w K mg base 4 "_law_form" s__law_form ["store", "kinds", "most", "wide"] (sp_lform K) := h__law_form.toDef (fun F => ok__law_form F T D__law_pick D__law_weight D__law_vector (by decide) (by decide) (by decide)) fun _ _ _ _ _ _ us hl => match us, hl with | [_, _, _, _], _ => rfl
  have D_is_row : Def l.prog w K mg base 1 "is_row" s_is_row ["thing", "low", "high"] (so_is_row K) := h_is_row.toDef (fun F => ok_is_row F T) fun _ _ _ _ _ _ us hl => match us, hl with | [_, _, _], _ => rfl
  have D_is_pair : Def l.prog w K mg base 1 "is_pair" s_is_pair ["thing"] (so_is_pair K) := h_is_pair.toDef (fun F => ok_is_pair F T) fun _ _ _ _ _ _ us hl => match us, hl with | [_], _ => rfl
  have D_is_name : Def l.prog w K mg base 1 "is_name" s_is_name ["thing"] (so_is_name K) := h_is_name.toDef (fun F => ok_is_name F T) fun _ _ _ _ _ _ us hl => match us, hl with | [_], _ => rfl
  have D_is_high : Def l.prog w K mg base 2 "is_high" s_is_high ["thing"] (so_is_high K) := h_is_high.toDef (fun F => ok_is_high F T D_is_name (by decide)) fun _ _ _ _ _ _ us hl => match us, hl with | [_], _ => rfl
  have D_all_unlike : Def l.prog w K mg base 1 "all_unlike" s_all_unlike ["names"] (so_unlike K) := h_all_unlike.toDef (fun F => ok_all_unlike F T) fun _ _ _ _ _ _ us hl => match us, hl with | [_], _ => rfl
  have D_is_kinds : Def l.prog w K mg base 3 "is_kinds" s_is_kinds ["thing"] (so_is_kinds K) := h_is_kinds.toDef (fun F => ok_is_kinds F T D_is_row D_is_pair D_is_high D_all_unlike (by decide) (by decide) (by decide) (by decide)) fun _ _ _ _ _ _ us hl => match us, hl with | [_], _ => rfl
  have D_is_int : Def l.prog w K mg base 1 "is_int" s_is_int ["thing"] (so_is_int K) := h_is_int.toDef (fun F => ok_is_int F T) fun _ _ _ _ _ _ us hl => match us, hl with | [_], _ => rfl
  have D_within : Def l.prog w K mg base 2 "within" s_within ["thing", "low", "high"] (so_within K) := h_within.toDef (fun F => ok_within F T D_is_int (by decide)) fun _ _ _ _ _ _ us hl => match us, hl with | [_, _, _], _ => rfl
  have D_are_dims : Def l.prog w K mg base 3 "are_dims" s_are_dims ["thing", "size", "wide"] (so_dims K) := h_are_dims.toDef (fun F => ok_are_dims F T D_is_row D_within (by decide) (by decide)) fun _ _ _ _ _ _ us hl => match us, hl with | [_, _, _], _ => rfl
  have D_maker_table : Def l.prog w K mg base 1 "maker_table" s_maker_table ["kinds"] (sp_maker_table K) := h_maker_table.toDef (fun F => ok_maker_table F T) fun _ _ _ _ _ _ us hl => match us, hl with | [_], _ => rfl
  have D_is_ratio : Def l.prog w K mg base 2 "is_ratio" s_is_ratio ["thing"] (so_is_ratio K) := h_is_ratio.toDef (fun F => ok_is_ratio F T D_is_pair D_is_int (by decide)) fun _ _ _ _ _ _ us hl => match us, hl with | [_], _ => rfl
  have D_is_term : Def l.prog w K mg base 3 "is_term" s_is_term ["thing", "dim", "widths"] (so_term K) := h_is_term.toDef (fun F => ok_is_term F T D_is_row D_within D_is_ratio (by decide) (by decide) (by decide)) fun _ _ _ _ _ _ us hl => match us, hl with | [_, _, _], _ => rfl
  have D_are_terms : Def l.prog w K mg base 4 "are_terms" s_are_terms ["thing", "dim", "widths", "most"] (so_terms K) := h_are_terms.toDef (fun F => ok_are_terms F T D_is_row D_is_term (by decide) (by decide)) fun _ _ _ _ _ _ us hl => match us, hl with | [_, _, _, _], _ => rfl
  have D_widths_of : Def l.prog w K mg base 1 "widths_of" s_widths_of ["fields", "dims"] (sp_widths K) := h_widths_of.toDef (fun F => ok_widths_of F T) fun _ _ _ _ _ _ us hl => match us, hl with | [_, _], _ => rfl
  have D_are_maps : Def l.prog w K mg base 5 "are_maps" s_are_maps ["thing", "kinds", "dims", "most"] (so_maps K) := h_are_maps.toDef (fun F => ok_are_maps F T D_is_row D_maker_table D_are_terms D_widths_of (by decide) (by decide) (by decide) (by decide)) fun _ _ _ _ _ _ us hl => match us, hl with | [_, _, _, _], _ => rfl
  have D_is_vector_of : Def l.prog w K mg base 3 "is_vector_of" s_is_vector_of ["thing", "size"] (so_vec K) := h_is_vector_of.toDef (fun F => ok_is_vector_of F T D_is_row D_is_ratio (by decide) (by decide)) fun _ _ _ _ _ _ us hl => match us, hl with | [_, _], _ => rfl
  have D_is_low : Def l.prog w K mg base 2 "is_low" s_is_low ["thing"] (so_is_low K) := h_is_low.toDef (fun F => ok_is_low F T D_is_name (by decide)) fun _ _ _ _ _ _ us hl => match us, hl with | [_], _ => rfl
  have D_are_reads : Def l.prog w K mg base 4 "are_reads" s_are_reads ["thing", "kinds", "dims"] (so_reads K) := h_are_reads.toDef (fun F => ok_are_reads F T D_is_row D_is_vector_of D_is_low D_all_unlike (by decide) (by decide) (by decide) (by decide)) fun _ _ _ _ _ _ us hl => match us, hl with | [_, _, _], _ => rfl
  have D_has_form : Def l.prog w K mg base 6 "has_form" s_has_form ["thing", "wide"] (so_has_form K) := h_has_form.toDef (fun F => ok_has_form F T D_is_row D_is_kinds D_are_dims D_are_maps D_are_reads (by decide) (by decide) (by decide) (by decide) (by decide)) fun _ _ _ _ _ _ us hl => match us, hl with | [_, _], _ => rfl
  have D_is_form : Def l.prog w K mg base 7 "is_form" s_is_form ["thing"] (so_is_form K) := h_is_form.toDef (fun F => ok_is_form F T D_has_form (by decide)) fun _ _ _ _ _ _ us hl => match us, hl with | [_], _ => rfl
  have b__law_same : ∀ (kV doc pm : Value) (an : Option Addr) (cdv ct : Value) (us : List Value), us.length = (["found", "due"] : List Str).length → bindArgs (PySem.W.fnOf "_law_same" "_law_same" (defArgs s__law_same) (defBody s__law_same) (defScope s__law_same) .none kV doc pm an cdv ct) ⟨us, []⟩ = pure ((["found", "due"] : List Str).zip us) := fun _ _ _ _ _ _ us hl => match us, hl with | [_, _], _ => rfl
  have law_same_0 : Def l.prog w K mg base 1 "_law_same" s__law_same ["found", "due"] (sp_bsame K 0) := h__law_same.toDef (fun F => ok_bsame0 F) b__law_same
  have D__law_same : Def l.prog w K mg base 2 "_law_same" s__law_same ["found", "due"] (sp_bsame K 1) := h__law_same.toDef (fun F => ok__law_same F T law_same_0 (by decide)) b__law_same
  have D__law_edge : Def l.prog w K mg base 3 "_law_edge" s__law_edge ["store"] (sp_edge K) := h__law_edge.toDef (fun F => ok__law_edge F T D__law_pick D__law_weight (by decide) (by decide)) fun _ _ _ _ _ _ us hl => match us, hl with | [_], _ => rfl
  have b__law_bent : ∀ (kV doc pm : Value) (an : Option Addr) (cdv ct : Value) (us : List Value), us.length = (["store", "thing"] : List Str).length → bindArgs (PySem.W.fnOf "_law_bent" "_law_bent" (defArgs s__law_bent) (defBody s__law_bent) (defScope s__law_bent) .none kV doc pm an cdv ct) ⟨us, []⟩ = pure ((["store", "thing"] : List Str).zip us) := fun _ _ _ _ _ _ us hl => match us, hl with | [_, _], _ => rfl
  have law_bent_0 : Def l.prog w K mg base 1 "_law_bent" s__law_bent ["store", "thing"] (sp_bent K 0) := h__law_bent.toDef (fun F => ok_bent0 F) b__law_bent
  have law_bent_1 : Def l.prog w K mg base 2 "_law_bent" s__law_bent ["store", "thing"] (sp_bent K 1) := h__law_bent.toDef (fun F => ok__law_bent F T law_bent_0 (by decide) D__law_pick (by decide)) b__law_bent
  have law_bent_2 : Def l.prog w K mg base 3 "_law_bent" s__law_bent ["store", "thing"] (sp_bent K 2) := h__law_bent.toDef (fun F => ok__law_bent F T law_bent_1 (by decide) D__law_pick (by decide)) b__law_bent
  have law_bent_3 : Def l.prog w K mg base 4 "_law_bent" s__law_bent ["store", "thing"] (sp_bent K 3) := h__law_bent.toDef (fun F => ok__law_bent F T law_bent_2 (by decide) D__law_pick (by decide)) b__law_bent
  have law_bent_4 : Def l.prog w K mg base 5 "_law_bent" s__law_bent ["store", "thing"] (sp_bent K 4) := h__law_bent.toDef (fun F => ok__law_bent F T law_bent_3 (by decide) D__law_pick (by decide)) b__law_bent
  have law_bent_5 : Def l.prog w K mg base 6 "_law_bent" s__law_bent ["store", "thing"] (sp_bent K 5) := h__law_bent.toDef (fun F => ok__law_bent F T law_bent_4 (by decide) D__law_pick (by decide)) b__law_bent
  have law_bent_6 : Def l.prog w K mg base 7 "_law_bent" s__law_bent ["store", "thing"] (sp_bent K 6) := h__law_bent.toDef (fun F => ok__law_bent F T law_bent_5 (by decide) D__law_pick (by decide)) b__law_bent
  have law_bent_7 : Def l.prog w K mg base 8 "_law_bent" s__law_bent ["store", "thing"] (sp_bent K 7) := h__law_bent.toDef (fun F => ok__law_bent F T law_bent_6 (by decide) D__law_pick (by decide)) b__law_bent
  have law_bent_8 : Def l.prog w K mg base 9 "_law_bent" s__law_bent ["store", "thing"] (sp_bent K 8) := h__law_bent.toDef (fun F => ok__law_bent F T law_bent_7 (by decide) D__law_pick (by decide)) b__law_bent
  have D__law_bent : Def l.prog w K mg base 10 "_law_bent" s__law_bent ["store", "thing"] (sp_bent K 9) := h__law_bent.toDef (fun F => ok__law_bent F T law_bent_8 (by decide) D__law_pick (by decide)) b__law_bent
  have D__law_is_row : Def l.prog w K mg base 1 "_law_is_row" s__law_is_row ["thing", "low", "high"] (so_is_row K) := h__law_is_row.toDef (fun F => ok__law_is_row F T) fun _ _ _ _ _ _ us hl => match us, hl with | [_, _, _], _ => rfl
  have D__law_is_name : Def l.prog w K mg base 1 "_law_is_name" s__law_is_name ["thing", "high"] (so_lname K) := h__law_is_name.toDef (fun F => ok__law_is_name F T) fun _ _ _ _ _ _ us hl => match us, hl with | [_, _], _ => rfl
  have D__law_are_kinds : Def l.prog w K mg base 2 "_law_are_kinds" s__law_are_kinds ["thing"] (so_is_kinds K) := h__law_are_kinds.toDef (fun F => ok__law_are_kinds F T D__law_is_row D__law_is_name (by decide) (by decide)) fun _ _ _ _ _ _ us hl => match us, hl with | [_], _ => rfl
  have D__law_is_whole : Def l.prog w K mg base 1 "_law_is_whole" s__law_is_whole ["thing", "low", "high"] (so_within K) := h__law_is_whole.toDef (fun F => ok__law_is_whole F T) fun _ _ _ _ _ _ us hl => match us, hl with | [_, _, _], _ => rfl
  have D__law_ratio : Def l.prog w K mg base 1 "_law_ratio" s__law_ratio ["top", "bottom"] (sp_ratio K) := h__law_ratio.toDef (fun F => ok__law_ratio F T) fun _ _ _ _ _ _ us hl => match us, hl with | [_, _], _ => rfl
  have D__law_is_ratio : Def l.prog w K mg base 2 "_law_is_ratio" s__law_is_ratio ["thing"] (so_lratio K) := h__law_is_ratio.toDef (fun F => ok__law_is_ratio F T D__law_is_row D__law_ratio (by decide) (by decide)) fun _ _ _ _ _ _ us hl => match us, hl with | [_], _ => rfl
  have D__law_is_term : Def l.prog w K mg base 3 "_law_is_term" s__law_is_term ["thing", "dim", "widths"] (so_term K) := h__law_is_term.toDef (fun F => ok__law_is_term F T D__law_is_row D__law_is_whole D__law_is_ratio (by decide) (by decide) (by decide)) fun _ _ _ _ _ _ us hl => match us, hl with | [_, _, _], _ => rfl
  have D__law_are_maps : Def l.prog w K mg base 4 "_law_are_maps" s__law_are_maps ["thing", "kinds", "dims"] (so_lmaps K) := h__law_are_maps.toDef (fun F => ok__law_are_maps F T D__law_is_row D__law_is_term (by decide) (by decide)) fun _ _ _ _ _ _ us hl => match us, hl with | [_, _, _], _ => rfl
  have D__law_is_vector : Def l.prog w K mg base 3 "_law_is_vector" s__law_is_vector ["thing", "size"] (so_vec K) := h__law_is_vector.toDef (fun F => ok__law_is_vector F T D__law_is_row D__law_is_ratio (by decide) (by decide)) fun _ _ _ _ _ _ us hl => match us, hl with | [_, _], _ => rfl
  have D__law_is_form : Def l.prog w K mg base 5 "_law_is_form" s__law_is_form ["thing"] (so_is_form K) := h__law_is_form.toDef (fun F => ok__law_is_form F T D__law_is_row D__law_are_kinds D__law_is_whole D__law_are_maps D__law_is_name D__law_is_vector (by decide) (by decide) (by decide) (by decide) (by decide) (by decide)) fun _ _ _ _ _ _ us hl => match us, hl with | [_], _ => rfl
  exact ok_law F T D__law_store D__law_kinds D__law_form D_is_form D__law_same D__law_edge D__law_bent D__law_is_form (by decide) (by decide) (by decide) (by decide) (by decide) (by decide) (by decide) (by decide)
end K63

set_option Elab.async false
set_option linter.all false
set_option maxRecDepth 100000
set_option pp.deepTerms false
set_option pp.deepTerms.threshold 3
open PySem PySem.W PyProof.Rows
set_option maxHeartbeats 0 in
theorem PySem.Challenge.cw_sameontrees_k14_forms_judged_holds : PySem.Challenge.rw_sameontrees_k14_forms_judged.Holds := by
  w_on; o_law; k_head; (case hw => w_witness2)
  k_fill
  refine Ly.walk_kept (l := PySem.Challenge.rw_sameontrees_k14_forms_judged) (n := 63) (k := 20) (x := "script") (sp := fun w => K63.sp_law _) rfl (by decide) rfl ⟨rfl, by decide, by decide⟩ (fun w h Y => PySem.W.kIn_of Y) ?F (fun _ _ a ns hl hb _ hS => ⟨a, ns, rfl, hS, hl, K63.law_cells hb, fun _ => rfl⟩)
  case F =>
    intro w mg fa h KX G hmg
    refine' K63.all_mk hmg ⟨PySem.W.mg_none_of KX G ?z0, PySem.W.mg_none_of KX G ?z1, PySem.W.mg_none_of KX G ?z2, PySem.W.mg_none_of KX G ?z3, PySem.W.mg_none_of KX G ?z4, PySem.W.mg_none_of KX G ?z5, PySem.W.mg_none_of KX G ?z6, PySem.W.mg_none_of KX G ?z7, PySem.W.mg_none_of KX G ?z8, PySem.W.mg_none_of KX G ?z9, PySem.W.mg_none_of KX G ?z10, PySem.W.mg_none_of KX G ?z11, PySem.W.mg_none_of KX G ?z12, PySem.W.mg_none_of KX G ?z13, PySem.W.mg_none_of KX G ?z14, PySem.W.mg_none_of KX G ?z15, PySem.W.mg_none_of KX G ?z16, PySem.W.mg_none_of KX G ?z17, PySem.W.mg_of KX G ?g18, K63.int_mk KX G ?g19, K63.int_mk KX G ?g20, K63.int_mk KX G ?g21, K63.int_mk KX G ?g22, K63.int_mk KX G ?g23, K63.int_mk KX G ?g24, K63.str_mk KX G ?g25, K63.str_mk KX G ?g26, K63.str_mk KX G ?g27, Ly.pair_mk KX G ?g28 ?h28, K63.strs_mk KX G ?g29 ?h29⟩ (Ly.here KX G ?a0 ?l0 ?c0 ?k0) (Ly.here KX G ?a1 ?l1 ?c1 ?k1) (Ly.here KX G ?a2 ?l2 ?c2 ?k2) (Ly.here KX G ?a3 ?l3 ?c3 ?k3) (Ly.here KX G ?a4 ?l4 ?c4 ?k4) (Ly.here KX G ?a5 ?l5 ?c5 ?k5) (Ly.here KX G ?a6 ?l6 ?c6 ?k6) (Ly.here KX G ?a7 ?l7 ?c7 ?k7) (Ly.here KX G ?a8 ?l8 ?c8 ?k8) (Ly.here KX G ?a9 ?l9 ?c9 ?k9) (Ly.here KX G ?a10 ?l10 ?c10 ?k10) (Ly.here KX G ?a11 ?l11 ?c11 ?k11) (Ly.here KX G ?a12 ?l12 ?c12 ?k12) (Ly.here KX G ?a13 ?l13 ?c13 ?k13) (Ly.here KX G ?a14 ?l14 ?c14 ?k14) (Ly.here KX G ?a15 ?l15 ?c15 ?k15) (Ly.here KX G ?a16 ?l16 ?c16 ?k16) (Ly.here KX G ?a17 ?l17 ?c17 ?k17) (Ly.here KX G ?a18 ?l18 ?c18 ?k18) (Ly.here KX G ?a19 ?l19 ?c19 ?k19) (Ly.here KX G ?a20 ?l20 ?c20 ?k20) (Ly.here KX G ?a21 ?l21 ?c21 ?k21) (Ly.here KX G ?a22 ?l22 ?c22 ?k22) (Ly.here KX G ?a23 ?l23 ?c23 ?k23) (Ly.here KX G ?a24 ?l24 ?c24 ?k24) (Ly.here KX G ?a25 ?l25 ?c25 ?k25) (Ly.here KX G ?a26 ?l26 ?c26 ?k26) (Ly.here KX G ?a27 ?l27 ?c27 ?k27) (Ly.here KX G ?a28 ?l28 ?c28 ?k28) (Ly.here KX G ?a29 ?l29 ?c29 ?k29) (Ly.here KX G ?a30 ?l30 ?c30 ?k30) (Ly.here KX G ?a31 ?l31 ?c31 ?k31) (Ly.here KX G ?a32 ?l32 ?c32 ?k32) (Ly.here KX G ?a33 ?l33 ?c33 ?k33) (Ly.here KX G ?a34 ?l34 ?c34 ?k34) (Ly.here KX G ?a35 ?l35 ?c35 ?k35) (Ly.here KX G ?a36 ?l36 ?c36 ?k36) (Ly.here KX G ?a37 ?l37 ?c37 ?k37) (Ly.here KX G ?a38 ?l38 ?c38 ?k38) (Ly.here KX G ?a39 ?l39 ?c39 ?k39)
    (case a0 => k_is)
    (case l0 => k_is)
    (case c0 => k_is)
    (case k0 => k_is)
    (case a1 => k_is)
    (case l1 => k_is)
    (case c1 => k_is)
    (case k1 => k_is)
    (case a2 => k_is)
    (case l2 => k_is)
    (case c2 => k_is)
    (case k2 => k_is)
    (case a3 => k_is)
    (case l3 => k_is)
    (case c3 => k_is)
    (case k3 => k_is)
    (case a4 => k_is)
    (case l4 => k_is)
    (case c4 => k_is)
    (case k4 => k_is)
    (case a5 => k_is)
    (case l5 => k_is)
    (case c5 => k_is)
    (case k5 => k_is)
    (case a6 => k_is)
    (case l6 => k_is)
    (case c6 => k_is)
    (case k6 => k_is)
    (case a7 => k_is)
    (case l7 => k_is)
    (case c7 => k_is)
    (case k7 => k_is)
    (case a8 => k_is)
    (case l8 => k_is)
    (case c8 => k_is)
    (case k8 => k_is)
    (case a9 => k_is)
    (case l9 => k_is)
    (case c9 => k_is)
    (case k9 => k_is)
    (case a10 => k_is)
    (case l10 => k_is)
    (case c10 => k_is)
    (case k10 => k_is)
    (case a11 => k_is)
    (case l11 => k_is)
    (case c11 => k_is)
    (case k11 => k_is)
    (case a12 => k_is)
    (case l12 => k_is)
    (case c12 => k_is)
    (case k12 => k_is)
    (case a13 => k_is)
    (case l13 => k_is)
    (case c13 => k_is)
    (case k13 => k_is)
    (case a14 => k_is)
    (case l14 => k_is)
    (case c14 => k_is)
    (case k14 => k_is)
    (case a15 => k_is)
    (case l15 => k_is)
    (case c15 => k_is)
    (case k15 => k_is)
    (case a16 => k_is)
    (case l16 => k_is)
    (case c16 => k_is)
    (case k16 => k_is)
    (case a17 => k_is)
    (case l17 => k_is)
    (case c17 => k_is)
    (case k17 => k_is)
    (case a18 => k_is)
    (case l18 => k_is)
    (case c18 => k_is)
    (case k18 => k_is)
    (case a19 => k_is)
    (case l19 => k_is)
    (case c19 => k_is)
    (case k19 => k_is)
    (case a20 => k_is)
    (case l20 => k_is)
    (case c20 => k_is)
    (case k20 => k_is)
    (case a21 => k_is)
    (case l21 => k_is)
    (case c21 => k_is)
    (case k21 => k_is)
    (case a22 => k_is)
    (case l22 => k_is)
    (case c22 => k_is)
    (case k22 => k_is)
    (case a23 => k_is)
    (case l23 => k_is)
    (case c23 => k_is)
    (case k23 => k_is)
    (case a24 => k_is)
    (case l24 => k_is)
    (case c24 => k_is)
    (case k24 => k_is)
    (case a25 => k_is)
    (case l25 => k_is)
    (case c25 => k_is)
    (case k25 => k_is)
    (case a26 => k_is)
    (case l26 => k_is)
    (case c26 => k_is)
    (case k26 => k_is)
    (case a27 => k_is)
    (case l27 => k_is)
    (case c27 => k_is)
    (case k27 => k_is)
    (case a28 => k_is)
    (case l28 => k_is)
    (case c28 => k_is)
    (case k28 => k_is)
    (case a29 => k_is)
    (case l29 => k_is)
    (case c29 => k_is)
    (case k29 => k_is)
    (case a30 => k_is)
    (case l30 => k_is)
    (case c30 => k_is)
    (case k30 => k_is)
    (case a31 => k_is)
    (case l31 => k_is)
    (case c31 => k_is)
    (case k31 => k_is)
    (case a32 => k_is)
    (case l32 => k_is)
    (case c32 => k_is)
    (case k32 => k_is)
    (case a33 => k_is)
    (case l33 => k_is)
    (case c33 => k_is)
    (case k33 => k_is)
    (case a34 => k_is)
    (case l34 => k_is)
    (case c34 => k_is)
    (case k34 => k_is)
    (case a35 => k_is)
    (case l35 => k_is)
    (case c35 => k_is)
    (case k35 => k_is)
    (case a36 => k_is)
    (case l36 => k_is)
    (case c36 => k_is)
    (case k36 => k_is)
    (case a37 => k_is)
    (case l37 => k_is)
    (case c37 => k_is)
    (case k37 => k_is)
    (case a38 => k_is)
    (case l38 => k_is)
    (case c38 => k_is)
    (case k38 => k_is)
    (case a39 => k_is)
    (case l39 => k_is)
    (case c39 => k_is)
    (case k39 => k_is)
    (case z0 => k_is)
    (case z1 => k_is)
    (case z2 => k_is)
    (case z3 => k_is)
    (case z4 => k_is)
    (case z5 => k_is)
    (case z6 => k_is)
    (case z7 => k_is)
    (case z8 => k_is)
    (case z9 => k_is)
    (case z10 => k_is)
    (case z11 => k_is)
    (case z12 => k_is)
    (case z13 => k_is)
    (case z14 => k_is)
    (case z15 => k_is)
    (case z16 => k_is)
    (case z17 => k_is)
    (case g18 => k_is)
    (case g19 => k_is)
    (case g20 => k_is)
    (case g21 => k_is)
    (case g22 => k_is)
    (case g23 => k_is)
    (case g24 => k_is)
    (case g25 => k_is)
    (case g26 => k_is)
    (case g27 => k_is)
    (case g28 => k_is)
    (case h28 => k_is)
    (case g29 => k_is)
    (case h29 => k_is)
