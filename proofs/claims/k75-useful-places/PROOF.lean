import PyProof.Rows.All
import Wide.All
import OpenK.AllK
import Wide.FinOn
import HandS.ForMost
import HandS.Defaults
import HandS.IsInst
import HandS.Rev
import HandS.TupAny
import HandS.Style
import HandS.SortRule
import HandS.TupSets
import HandS.SetKeys
import HandS.DictTup
import HandS.DictComp
import HandS.Conv
import HandS.IterVal
import HandS.Head0
import HandS.Head1
import HandS.Head2
import HandS.HeadEnd
import HandS.HeadHook1
import HandS.HeadHook2
import PySem.Challenge.RW_printsalike_k75_whole_useful_places
import HandS.Walk
import HandS.HeadHook3
import HandS.HeadHook4
import KE.KDictSum
import KE.KEqDict
import KE.KDictDisplayH
import HandS.TryOnly
import PyProof.ReprRoads
import PyProof.StrLawsRepr
set_option Elab.async false
set_option maxRecDepth 100000
set_option maxHeartbeats 4000000
/-! KA: data, frames, calls of defs. -/
namespace PK
open PySem PySem.Spec PyProof.Rows L2
abbrev Fg := PySem.W.Frag
/-! ### what stands stays -/
/-- tuples and locked things stay -/
structure Tk (H H' : Hp) : Prop where
  t : ∀ a xs, H a = some (.tup xs) → H' a = some (.tup xs)
  f : ∀ a o u, H a = some (.frz o u) → H' a = some (.frz o u)
theorem Tk.refl (H : Hp) : Tk H H := ⟨fun _ _ h => h, fun _ _ _ h => h⟩
theorem Tk.trans {H H1 H2 : Hp} (a : Tk H H1) (b : Tk H1 H2) : Tk H H2 := ⟨fun p xs h => b.t p xs (a.t p xs h), fun p o u h => b.f p o u (a.f p o u h)⟩
theorem tk_same {H H' : Hp} (s : Same H H') : Tk H H' := ⟨fun a xs h => s a _ h, fun a o u h => s a _ h⟩
theorem Tk.seq {K : Fg} {H H' : Hp} {a : Addr} {xs : List V} (e : Tk H H') (h : SqT K H a xs) : SqT K H' a xs := by
  rcases h with (h | ⟨o, h⟩) | h
  · exact .inl (.inl (e.t _ _ h))
  · exact .inl (.inr ⟨o, e.f _ _ _ h⟩)
  · exact .inr h
/-- all but the things at M stays -/
def Kp (M : List Addr) (H H' : Hp) : Prop := ∀ b o, H b = some o → b ∉ M → H' b = some o
theorem Kp.refl (M : List Addr) (H : Hp) : Kp M H H := fun _ _ h _ => h
theorem Kp.trans {M : List Addr} {H H1 H2 : Hp} (a : Kp M H H1) (b : Kp M H1 H2) : Kp M H H2 := fun c o h m => b c o (a c o h m) m
theorem Kp.of {M : List Addr} {H H' : Hp} (s : Same H H') : Kp M H H' := fun b o h _ => s b o h
theorem Kp.mono {M N : List Addr} {H H' : Hp} (s : Kp M H H') (h : ∀ b ∈ M, b ∈ N) : Kp N H H' := fun b o e m => s b o e fun z => m (h b z)
theorem Kp.nil {H H' : Hp} (s : Kp [] H H') : Same H H' := fun b o h => s b o h (by simp)
theorem same_new {H : Hp} {p : Addr} (h : H p = none) (o : HO) : Same H (upd H p o) := fun b u q => by rw [upd_ne (ne_of_none q h)]; exact q
theorem kp_upd {M : List Addr} {H : Hp} {p : Addr} (h : p ∈ M) (o : HO) : Kp M H (upd H p o) := fun b u q m => by
  rw [upd_ne (fun z => m (by rw [z]; exact h))]; exact q
/-- a list, a dict, an instance changes: tuples stay -/
theorem tk_upd {H : Hp} {p : Addr} {o o' : HO} (h : H p = some o) (h1 : ∀ xs, o ≠ .tup xs) (h2 : ∀ ob u, o ≠ .frz ob u) : Tk H (upd H p o') :=
  ⟨fun a xs e => by
    rw [upd_ne (fun z => by rw [z, h] at e; exact h1 xs (Option.some.inj e))]; exact e,
   fun a ob u e => by
    rw [upd_ne (fun z => by rw [z, h] at e; exact h2 ob u (Option.some.inj e))]; exact e⟩
theorem tk_lst {H : Hp} {p : Addr} {xs : List V} {o' : HO} (h : H p = some (.lst xs)) : Tk H (upd H p o') := tk_upd h (fun _ => nofun) (fun _ _ => nofun)
theorem tk_dK {H : Hp} {p : Addr} {xs : List (Key × V)} {o' : HO} (h : H p = some (.dK xs)) : Tk H (upd H p o') := tk_upd h (fun _ => nofun) (fun _ _ => nofun)
theorem tk_dT {H : Hp} {p : Addr} {xs : List (List Key × V)} {o' : HO} (h : H p = some (.dT xs)) : Tk H (upd H p o') := tk_upd h (fun _ => nofun) (fun _ _ => nofun)
theorem tk_ins {H : Hp} {p C dx : Addr} {fs : List (Str × V)} {o' : HO} (h : H p = some (.ins C dx fs)) : Tk H (upd H p o') := tk_upd h (fun _ => nofun) (fun _ _ => nofun)
/-! ### data -/
mutual
inductive Dat (K : Fg) (H : Hp) : V → PyData → Prop
  | non : Dat K H .non .none
  | bl (b : Bool) : Dat K H (.bl b) (.bool b)
  | int (i : Int) : Dat K H (.int i) (.int i)
  | str (x : Str) : Dat K H (.str x) (.str x)
  | tup {a : Addr} {xs : List V} {ds : List PyData} : SqT K H a xs → Dats K H xs ds → Dat K H (.ref a) (.tuple ds)
inductive Dats (K : Fg) (H : Hp) : List V → List PyData → Prop
  | nil : Dats K H [] []
  | cons {v : V} {vs : List V} {d : PyData} {ds : List PyData} : Dat K H v d → Dats K H vs ds → Dats K H (v :: vs) (d :: ds)
end
section
variable {K : Fg} {H H' : Hp}
mutual
theorem Dat.tk (e : Tk H H') : ∀ {v : V} {d : PyData}, Dat K H v d → Dat K H' v d
  | _, _, .non => .non
  | _, _, .bl b => .bl b
  | _, _, .int i => .int i
  | _, _, .str x => .str x
  | _, _, .tup h t => .tup (e.seq h) (Dats.tk e t)
theorem Dats.tk (e : Tk H H') : ∀ {vs : List V} {ds : List PyData}, Dats K H vs ds → Dats K H' vs ds
  | _, _, .nil => .nil
  | _, _, .cons h t => .cons (Dat.tk e h) (Dats.tk e t)
end
mutual
theorem Dat.dp : ∀ {v : V} {d : PyData}, Dat K H v d → Dp K H v d
  | _, _, .non => .non
  | _, _, .bl b => .bl b
  | _, _, .int i => .int i
  | _, _, .str x => .str x
  | _, _, .tup h t => .tup h (Dats.dp t)
theorem Dats.dp : ∀ {vs : List V} {ds : List PyData}, Dats K H vs ds → DpAll K H vs ds
  | _, _, .nil => .nil
  | _, _, .cons h t => .cons (Dat.dp h) (Dats.dp t)
end
theorem Dats.length : ∀ {vs : List V} {ds : List PyData}, Dats K H vs ds → vs.length = ds.length
  | _, _, .nil => rfl
  | _, _, .cons _ t => congrArg (· + 1) (Dats.length t)
theorem Dats.get : ∀ {vs : List V} {ds : List PyData} {i : Nat} {v : V}, Dats K H vs ds → vs[i]? = some v → ∃ d, ds[i]? = some d ∧ Dat K H v d
  | _, _, _, _, .nil, e => by simp at e
  | _, _, 0, _, .cons h _, e => by simp at e; subst e; exact ⟨_, rfl, h⟩
  | _, _, i + 1, v, .cons _ t, e => by
    obtain ⟨d, h1, h2⟩ := Dats.get (i := i) (v := v) t (by simpa using e)
    exact ⟨d, by simpa using h1, h2⟩
theorem Dats.got : ∀ {vs : List V} {ds : List PyData} {i : Nat} {d : PyData}, Dats K H vs ds → ds[i]? = some d → ∃ v, vs[i]? = some v ∧ Dat K H v d
  | _, _, _, _, .nil, e => by simp at e
  | _, _, 0, _, .cons h _, e => by simp at e; subst e; exact ⟨_, rfl, h⟩
  | _, _, i + 1, d, .cons _ t, e => by
    obtain ⟨v, h1, h2⟩ := Dats.got (i := i) (d := d) t (by simpa using e)
    exact ⟨v, by simpa using h1, h2⟩
theorem Dats.append : ∀ {vs ws : List V} {ds es : List PyData}, Dats K H vs ds → Dats K H ws es → Dats K H (vs ++ ws) (ds ++ es)
  | _, _, _, _, .nil, s => s
  | _, _, _, _, .cons h t, s => .cons h (Dats.append t s)
theorem Dats.take : ∀ {vs : List V} {ds : List PyData} (n : Nat), Dats K H vs ds → Dats K H (vs.take n) (ds.take n)
  | _, _, 0, _ => .nil
  | _, _, _ + 1, .nil => .nil
  | _, _, n + 1, .cons h t => .cons h (Dats.take n t)
theorem Dats.drop : ∀ {vs : List V} {ds : List PyData} (n : Nat), Dats K H vs ds → Dats K H (vs.drop n) (ds.drop n)
  | _, _, 0, h => h
  | _, _, _ + 1, .nil => .nil
  | _, _, n + 1, .cons _ t => Dats.drop n t
theorem Dats.snoc {vs : List V} {v : V} {ds : List PyData} {d : PyData} (h : Dats K H vs ds) (h1 : Dat K H v d) : Dats K H (vs ++ [v]) (ds ++ [d]) := h.append (.cons h1 .nil)
theorem Dat.inv_tup {v : V} {ds : List PyData} (h : Dat K H v (.tuple ds)) : ∃ a xs, v = .ref a ∧ SqT K H a xs ∧ Dats K H xs ds := by
  cases h with
  | tup h t => exact ⟨_, _, rfl, h, t⟩
theorem Dat.inv_str {v : V} {x : Str} (h : Dat K H v (.str x)) : v = .str x := by cases h; rfl
theorem Dat.inv_int {v : V} {x : Int} (h : Dat K H v (.int x)) : v = .int x := by cases h; rfl
theorem Dats.inv_cons {vs : List V} {d : PyData} {ds : List PyData} (h : Dats K H vs (d :: ds)) : ∃ v ws, vs = v :: ws ∧ Dat K H v d ∧ Dats K H ws ds := by
  cases h with
  | cons h t => exact ⟨_, _, rfl, h, t⟩
theorem Dats.inv_nil {vs : List V} (h : Dats K H vs []) : vs = [] := by cases h; rfl
end
/-! ### a def, as its callers see it -/
structure Dn (P : Program) (w : World) (K : Fg) (mg : Str → Option Value) (base : Heap) (k : Nat) (a : Addr) (ps : List Str) (sp : Sp) : Prop where
  ex : ∃ fd, FnOk P w K mg base CX0 k a fd ps sp ∧ Binds K fd ps []
  kp : PySem.W.keepIn K (.ref a) = true
theorem Dn.mono {P : Program} {w : World} {K : Fg} {mg : Str → Option Value} {base : Heap} {j k : Nat} {a : Addr} {ps : List Str} {sp : Sp} (D : Dn P w K mg base j a ps sp) (h : j ≤ k) : Dn P w K mg base k a ps sp :=
  let ⟨⟨fd, F, b⟩, kp⟩ := D
  ⟨⟨fd, F.mono h, b⟩, kp⟩
theorem Dn.imp {P : Program} {w : World} {K : Fg} {mg : Str → Option Value} {base : Heap} {k : Nat} {a : Addr} {ps : List Str} {sp sp' : Sp} (D : Dn P w K mg base k a ps sp) (h : ∀ vs H Q E, sp' vs H Q E → sp vs H Q E) : Dn P w K mg base k a ps sp' :=
  let ⟨⟨fd, F, b⟩, kp⟩ := D
  ⟨⟨fd, F.imp h, b⟩, kp⟩
section
variable {X : Cx} {k : Nat} {a C : Addr} {ps : List Str} {sp : Sp} {x m : Str} {p pos apos : Pos} {e o : Expr} {es : List Expr} {ta : TE} {t : TA}
theorem pe_f (D : Dn X.prog X.w X.K X.mg X.base k a ps sp) (hr : Room k X.A) (hm : X.mg x = some (.ref a)) (ha : PA X (e :: es) t) (hg : Gl X x := by rfl) (hdb : (x == ("__debug__" : Str)) = false := by decide)
    (he : starEach (e :: es) X.env = (false, eval e X.env) :: starEach es X.env := by rfl) (hpl : (backTo pos (starEach es X.env)).any (·.1) = false := by rfl) : PE X (.Call (.Name x p) (e :: es) [] pos) (tCall sp [] E0 t) :=
  let ⟨⟨_, F, b⟩, kp⟩ := D
  pe_call F hr hg hm kp b .nil pass0 ha hdb he hpl
theorem pe_m {pl : Sem Bool} (D : Dn X.prog X.w X.K X.mg X.base k a ps sp) (hr : Room k X.A) (ho : PE X o ta) (c : Cls X.K C) (hm : Meth X.K C m a) (ha : PA X (e :: es) t)
    (hst : starEach (e :: es) X.env = (false, eval e X.env) :: starEach es X.env := by rfl) (hpl : (backTo pos (starEach es X.env)).any (·.1) = false := by rfl)
    (ht : eval (.Call (.Attribute o m apos) (e :: es) [] pos) X.env = (do
      let ov ← eval o X.env
      standAt apos.atName
      let (f, first) ← holding [ov] (getMethod ov m pl)
      callWith pos f first (backTo pos (starEach (e :: es) X.env)) (backToKw pos (keywordEach [] X.env))) := by rfl) :
    PE X (.Call (.Attribute o m apos) (e :: es) [] pos) (tMeth C m sp [] E0 ta t) :=
  let ⟨⟨_, F, b⟩, _⟩ := D
  pe_meth ho c hm F hr b .nil pass0 ha hst hpl ht
theorem pe_mk (D : Dn X.prog X.w X.K X.mg X.base k a ps sp) (hr : Room (k + 1) X.A) (M : Mk X.K C a) (hm : X.mg x = some (.ref C)) (ha : PA X (e :: es) t) (hg : Gl X x := by rfl) (hdb : (x == ("__debug__" : Str)) = false := by decide)
    (he : starEach (e :: es) X.env = (false, eval e X.env) :: starEach es X.env := by rfl) (hpl : (backTo pos (starEach es X.env)).any (·.1) = false := by rfl) : PE X (.Call (.Name x p) (e :: es) [] pos) (tMake C sp [] E0 t) :=
  let ⟨⟨_, F, b⟩, _⟩ := D
  L2.pe_make M F hr hg hm b .nil pass0 ha hdb he hpl
end
/-! ### a def by its body -/
abbrev FnS (K : Fg) (x q : Str) (st : Stmt) (f : Addr) (fd : FuncData) : Prop := FunD K x q (defArgs st) (defBody st) (defScope st) [] [] f fd
/-- the def stands there -/
def Std (K : Fg) (x q : Str) (st : Stmt) (f : Addr) : Prop := ∃ fd, FnS K x q st f fd
theorem dn_mk {P : Program} {w : World} {K : Fg} {mg : Str → Option Value} {base : Heap} {x q : Str} {st : Stmt} {f : Addr} {N ps : List Str} {k : Nat} {sp : Sp} (F : Std K x q st f) (S : FnScope N ps (defScope st))
    (hb : ∀ (kV doc pm : Value) (an : Option Addr) (cdv ct : Value) (us : List Value), us.length = ps.length → bindArgs (PySem.W.fnOf x q (defArgs st) (defBody st) (defScope st) .none kV doc pm an cdv ct) ⟨us, []⟩ = pure (ps.zip us))
    (len : ∀ vs H Q E, sp vs H Q E → vs.length = ps.length)
    (hbody : ∀ (cdv : Value) (A : Around) (outer : List Env) (s : Shared) (H : Hp) (vs : List V) (Q : VK) (E : XK), Room k (A.deeper (envOfC q (defScope st) s.heap.objs.size f cdv)) → sp vs H Q E →
      ∃ t, PSs (cxOf CX0 P w K mg base N q (defScope st) f cdv A outer s H E).nox (defBody st) t ∧ t { nx := fun _ H' => Q .non H', rt := Q } (start N vs) H) : Dn P w K mg base (k + 1) f ps sp := by
  obtain ⟨fd, F⟩ := F
  refine ⟨⟨fd, F.ok S len fun cdv A outer s H vs Q E hr h => ?_, F.bindsN hb⟩, F.kp⟩
  obtain ⟨t, h1, h2⟩ := hbody cdv A outer s H vs Q E hr h
  exact ⟨t, h1.nox, h2⟩
/-- a def that nobody may call yet -/
theorem dn_never {P : Program} {w : World} {K : Fg} {mg : Str → Option Value} {base : Heap} {x q : Str} {st : Stmt} {f : Addr} {ps : List Str} (F : Std K x q st f)
    (hb : ∀ (kV doc pm : Value) (an : Option Addr) (cdv ct : Value) (us : List Value), us.length = ps.length → bindArgs (PySem.W.fnOf x q (defArgs st) (defBody st) (defScope st) .none kV doc pm an cdv ct) ⟨us, []⟩ = pure (ps.zip us)) :
    Dn P w K mg base 0 f ps (fun _ _ _ _ => False) := by
  obtain ⟨fd, F⟩ := F
  exact ⟨⟨fd, ⟨fun _ _ _ _ h => h.elim, fun _ _ _ _ _ _ _ _ _ _ _ _ _ h => h.elim⟩, F.bindsN hb⟩, F.kp⟩
end PK

set_option linter.all false
set_option Elab.async false
set_option maxRecDepth 100000
set_option maxHeartbeats 4000000
/-! KB: rules that hold for several kinds of values; comprehensions. -/
namespace PK
open PySem PySem.Spec PyProof.Rows L2
section
variable {X : Cx}
theorem pe_kn {x : Str} {v : V} {pos : Pos} (h : ∃ u, X.mg x = some u ∧ RelV v u) (hg : Gl X x := by rfl) (hd : (x == ("__debug__" : Str)) = false := by decide) : PE X (.Name x pos) (tC v) :=
  let ⟨_, m, r⟩ := h
  pe_glob hg m r hd
theorem pe_gr {x : Str} {a : Addr} {pos : Pos} (hm : X.mg x = some (.ref a)) (hg : Gl X x := by rfl) (hd : (x == ("__debug__" : Str)) = false := by decide) : PE X (.Name x pos) (tC (.ref a)) := pe_glob hg hm rfl hd
theorem pe_bt {x : Str} {n : String} {pos : Pos} (hm : X.mg x = none) (hg : Gl X x := by rfl) (hv : bootBuiltins x = some (.type n) := by decide +kernel) (hn : x ≠ "__name__" := by decide) (hd : (x == ("__debug__" : Str)) = false := by decide) : PE X (.Name x pos) (tC (.ty n)) :=
  pe_bltn hg hm hv rfl hn hd
/-- + of ints, of texts, of lists, of tuples -/
def rAdd (K : Fg) : R2 := fun x y H Q => rI0 (fun i j => .int (i + j)) x y H Q ∨ (∃ i j, x = .str i ∧ y = .str j ∧ i.length + j.length ≤ sizeLine ∧ Q (.str (i ++ j)) H) ∨ rCat x y H Q ∨ rCatA K x y H Q
theorem oAdd : OpR X (binaryOp .Add) (rAdd X.K) := OpR.or op_add (OpR.or op_add_str (OpR.or op_cat op_catA))
/-- == of plain values, of data -/
def rEqA (K : Fg) : R2 := fun x y H Q => rEq x y H Q ∨ rEqD K x y H Q
def rNeA (K : Fg) : R2 := fun x y H Q => rNe x y H Q ∨ rNeD K x y H Q
theorem hu64 {A : Around} {k : Nat} (hr : Room k A) : A.units + 64 < cLine := hr.units
theorem oEq (hu : X.A.units + 64 < cLine) : OpR X (compareOp .Eq) (rEqA X.K) := OpR.or op_eq (op_eqD hu)
theorem oNe (hu : X.A.units + 64 < cLine) : OpR X (compareOp .NotEq) (rNeA X.K) := OpR.or op_ne (op_neD hu)
theorem cLen : CallR X (.builtin "len") (rLen X.K) := call_len
/-- xs[i] of a list, ahead of xs[i] op= e -/
theorem get_list : PGet X (rIxL X.K) := by
  intro pins s σ H o i ov iv Q I ro ri h
  obtain ⟨p, xs, n, z, rfl, rfl, hq, he, q⟩ := h
  cases ro
  obtain ⟨t, rfl⟩ := ri
  obtain ⟨its, r, pl, hz⟩ := I.list hq
  obtain ⟨j, h1, h2, h3, h4, h5⟩ := atI_get he
  obtain ⟨w, ew, rw'⟩ := r.get h2
  have hl := r.length
  have hn := line63
  have fin : EP X pins σ Q w s := ⟨z, H, I, rw', q⟩
  by_cases h0 : 0 ≤ n
  · have hj : n.toNat = j := by
      rw [seqIndex_of h0 h5] at h1
      exact Option.some.inj h1
    exact wpAny_getItem_list pl.isList h0 (by omega) (by rw [hj]; simpa using ew) fin
  · have hj : (n + (its.toArray.size : Int)).toNat = j := by
      rw [seqIndex_neg (by omega) h4] at h1
      rw [List.size_toArray, ← hl]
      exact Option.some.inj h1
    exact wpAny_getItem_list_neg pl.isList (by omega) (by rw [List.size_toArray] <;> omega) (by omega) (by rw [hj]; simpa using ew) fin
end
/-! the same, the written part by its name: for what stands in a comprehension -/
section
variable {X : Cx} {K : Fg}
theorem oAddK (h : X.K = K) : OpR X (binaryOp .Add) (rAdd K) := by subst h; exact oAdd
theorem oEqK (h : X.K = K) (hu : X.A.units + 64 < cLine) : OpR X (compareOp .Eq) (rEqA K) := by subst h; exact oEq hu
theorem oNeK (h : X.K = K) (hu : X.A.units + 64 < cLine) : OpR X (compareOp .NotEq) (rNeA K) := by subst h; exact oNe hu
theorem cLenK (h : X.K = K) : CallR X (.builtin "len") (rLen K) := by subst h; exact cLen
theorem ixK (h : X.K = K) : IxR X (rIx K) := by subst h; exact ix_seq
theorem inK (h : X.K = K) : OpR X (compareOp .In) (rIn K false) := by subst h; exact op_in_seq
theorem notInK (h : X.K = K) : OpR X (compareOp .NotIn) (rIn K true) := by subst h; exact op_notIn_seq
theorem isiK (h : X.K = K) : CallR X (.builtin "isinstance") (rIsi K) := by subst h; exact call_isi
theorem allK (h : X.K = K) (hc : X.calm = true) : CallR X (.builtin "all") (rAll K) := by subst h; exact cr_all hc
theorem sumK (h : X.K = K) (hc : X.calm = true) : CallR X (.builtin "sum") (rSum K) := by subst h; exact cr_sum hc
theorem slTupK (h : X.K = K) : SlR X (rSlA K) := by subst h; exact sl_tupA
theorem slLstK (h : X.K = K) : SlR X (rSlL K) := by subst h; exact sl_list
def rTupOf (K : Fg) : List V → Hp → VK → Prop := fun xs H Q => ∃ p ys, xs = [.ref p] ∧ ((SqL K H p ys ∧ ∀ l, H l = none → Q (.ref l) (upd H l (.tup ys))) ∨ (SqT K H p ys ∧ Q (.ref p) H))
theorem tupK (h : X.K = K) : CallR X (.type "tuple") (rTupOf K) := by subst h; exact call_tuple_of
theorem fldK {e : Expr} {f : Str} {ta : TE} {pos : Pos} (h : X.K = K) (he : PE X e ta) (hb : attributeBase e f X.env (eval e X.env) = eval e X.env) : PE X (.Attribute e f pos) (tFld K ta f) := by subst h; exact pe_fld he hb
theorem iTupK {e : Expr} {te : TE} {tg : Expr} (h : X.K = K) (he : PE X e te) : PI X tg e (iTup K te) := by subst h; exact pi_tup he
theorem iLstK {e : Expr} {te : TE} {tg : Expr} (h : X.K = K) (he : PE X e te) : PI X tg e (iList K te) := by subst h; exact pi_list he
end
/-! ### comprehensions -/
/-- [e for x in it if t]: P tells what the new list holds after i turns; the things at M may change -/
theorem lc_acc {J : It} {n : Nat} {G : Hp → Prop} {Y : Nat → Hp → V → Hp → Prop} (w : Walk J n G Y) (M : List Addr) (P : Nat → List V → Hp → Prop) {g : TG} {tt : TT} {te : TE} {vs : List Nat} {σ : L2.St} {H1 : Hp} {D : Addr} {Qd : Hp → Prop} (nD : H1 D = none)
    (hG : ∀ i acc H, Kp M H1 H → Tk H1 H → P i acc H → G H)
    (hP : ∀ i acc H xs o, Kp M H1 H → H D = some (.lst xs) → P i acc H → P i acc (upd H D o)) (h0 : P 0 [] (upd H1 D (.lst []))) (hn : n < sizeLine) (nM : D ∉ M)
    (hs : ∀ i x acc H H', i < n → Kp M H1 H → Tk H1 H → H D = some (.lst acc) → acc.length ≤ i → P i acc H → Y i H x H' → ∀ (N : V → Hp → Prop) (E : Hp → Prop),
      (∀ y H4, Kp M H H4 → Tk H H4 → P (i + 1) (acc ++ [y]) H4 → N y H4) → (∀ H4, Kp M H H4 → Tk H H4 → P (i + 1) acc H4 → E H4) →
      g x (wipe σ vs) H' fun σ2 H2 => wipe σ2 vs = wipe σ vs ∧ tt σ2 H2 fun b H3 => if b = true then te σ2 H3 N else E H3)
    (hd : ∀ H acc, Kp M H1 H → Tk H1 H → H D = some (.lst acc) → acc.length ≤ n → P n acc H → Qd H) :
    ∃ W : Nat → Nat → Hp → Prop, (∃ m, W 0 m (upd H1 D (.lst []))) ∧ ∀ i m H, W i m H →
      (J.stop i H ∧ Qd H) ∨ (J.go i H ∧ ∃ Nx : Hp → Prop, (∀ H', Nx H' → ∃ m', m' < m ∧ W (i + 1) m' H') ∧ ∀ x H', J.yld i H x H' → g x (wipe σ vs) H' fun σ2 H2 => wipe σ2 vs = wipe σ vs ∧ tt σ2 H2 fun b H3 =>
        if b = true then te σ2 H3 fun y H4 => ∃ acc, H4 D = some (.lst acc) ∧ acc.length < sizeLine ∧ Nx (upd H4 D (.lst (acc ++ [y]))) else Nx H3) := by
  have s0 := same_new nD (.lst [])
  refine lc_it w (fun i H => Kp M H1 H ∧ Tk H1 H ∧ ∃ acc, H D = some (.lst acc) ∧ acc.length ≤ i ∧ P i acc H) ⟨.of s0, tk_same s0, [], upd_same, Nat.le_refl _, h0⟩ (fun i H _ ⟨a, b, acc, c, _, p⟩ => hG i acc H a b p) (fun i x H H' hi ⟨a, b, acc, c, l, p⟩ y => ?_) fun H ⟨a, b, acc, c, l, p⟩ => hd H acc a b c l p
  refine hs i x acc H H' hi a b c l p y _ _ (fun z H4 k t q => ?_) fun H4 k t q => ?_
  · have cD := k D _ c nM
    refine ⟨acc, cD, by omega, (fun d o e m => ?_), b.trans (t.trans (tk_lst cD)), _, upd_same, by rw [List.length_append]; exact Nat.add_le_add_right l 1, hP _ _ _ _ _ (a.trans k) cD q⟩
    rw [upd_ne (ne_of_none e nD)]
    exact k d o (a d o e m) m
  · exact ⟨a.trans k, b.trans t, acc, k D _ c nM, by omega, q⟩
end PK

set_option linter.all false
set_option Elab.async false
set_option maxRecDepth 100000
set_option maxHeartbeats 4000000
/-! KT: the text by places; what the module's names stand for (printed by gent.py). -/
namespace PK
open PySem PySem.Spec PyProof.Rows L2
def top (i : Nat) : Stmt := PySem.Challenge.pw_printsalike_k75_whole_useful_places.main.body.getD i (.Pass ⟨0, 0, 0, 0⟩)
abbrev s_is_row : Stmt := top 12
abbrev N_is_row : List Str := ["thing", "low", "high"]
theorem sc_is_row : FnScope N_is_row ["thing", "low", "high"] (defScope s_is_row) := ⟨rfl, rfl, rfl, by decide +kernel, rfl, by decide +kernel, by decide +kernel⟩
abbrev s_in_run : Stmt := top 13
abbrev N_in_run : List Str := ["char"]
theorem sc_in_run : FnScope N_in_run ["char"] (defScope s_in_run) := ⟨rfl, rfl, rfl, by decide +kernel, rfl, by decide +kernel, by decide +kernel⟩
abbrev s_is_desk_name : Stmt := top 14
abbrev N_is_desk_name : List Str := ["thing", "char"]
theorem sc_is_desk_name : FnScope N_is_desk_name ["thing"] (defScope s_is_desk_name) := ⟨rfl, rfl, rfl, by decide +kernel, rfl, by decide +kernel, by decide +kernel⟩
abbrev s_is_low : Stmt := top 15
abbrev N_is_low : List Str := ["thing"]
theorem sc_is_low : FnScope N_is_low ["thing"] (defScope s_is_low) := ⟨rfl, rfl, rfl, by decide +kernel, rfl, by decide +kernel, by decide +kernel⟩
abbrev s_is_program_name : Stmt := top 16
abbrev N_is_program_name : List Str := ["thing", "char"]
theorem sc_is_program_name : FnScope N_is_program_name ["thing"] (defScope s_is_program_name) := ⟨rfl, rfl, rfl, by decide +kernel, rfl, by decide +kernel, by decide +kernel⟩
abbrev s_first_double : Stmt := top 17
abbrev N_first_double : List Str := ["names", "seen", "name"]
theorem sc_first_double : FnScope N_first_double ["names"] (defScope s_first_double) := ⟨rfl, rfl, rfl, by decide +kernel, rfl, by decide +kernel, by decide +kernel⟩
abbrev s_inner_bodies : Stmt := top 24
abbrev N_inner_bodies : List Str := ["thing", "word"]
theorem sc_inner_bodies : FnScope N_inner_bodies ["thing"] (defScope s_inner_bodies) := ⟨rfl, rfl, rfl, by decide +kernel, rfl, by decide +kernel, by decide +kernel⟩
abbrev s_bodies_of : Stmt := top 25
abbrev N_bodies_of : List Str := ["statement"]
theorem sc_bodies_of : FnScope N_bodies_of ["statement"] (defScope s_bodies_of) := ⟨rfl, rfl, rfl, by decide +kernel, rfl, by decide +kernel, by decide +kernel⟩
abbrev s_count_of : Stmt := top 26
abbrev N_count_of : List Str := ["thing", "depth", "room", "count", "statement", "bodies", "body"]
theorem sc_count_of : FnScope N_count_of ["thing", "depth", "room"] (defScope s_count_of) := ⟨rfl, rfl, rfl, by decide +kernel, rfl, by decide +kernel, by decide +kernel⟩
abbrev s_is_program : Stmt := top 27
abbrev N_is_program : List Str := ["thing", "name", "room", "procedure"]
theorem sc_is_program : FnScope N_is_program ["thing"] (defScope s_is_program) := ⟨rfl, rfl, rfl, by decide +kernel, rfl, by decide +kernel, by decide +kernel⟩
abbrev s_need_program : Stmt := top 28
abbrev N_need_program : List Str := ["program"]
theorem sc_need_program : FnScope N_need_program ["program"] (defScope s_need_program) := ⟨rfl, rfl, rfl, by decide +kernel, rfl, by decide +kernel, by decide +kernel⟩
abbrev s_places_in : Stmt := top 30
abbrev N_places_in : List Str := ["body", "returned", "count", "statement", "second", "inner"]
theorem sc_places_in : FnScope N_places_in ["body", "returned"] (defScope s_places_in) := ⟨rfl, rfl, rfl, by decide +kernel, rfl, by decide +kernel, by decide +kernel⟩
abbrev s_Layer_init : Stmt := inClass (top 31) 0
abbrev N_Layer_init : List Str := ["self", "letters", "numbers"]
theorem sc_Layer_init : FnScope N_Layer_init ["self", "letters", "numbers"] (defScope s_Layer_init) := ⟨rfl, rfl, rfl, by decide +kernel, rfl, by decide +kernel, by decide +kernel⟩
abbrev s_Layer_make : Stmt := inClass (top 31) 1
abbrev N_Layer_make : List Str := ["self", "place"]
theorem sc_Layer_make : FnScope N_Layer_make ["self", "place"] (defScope s_Layer_make) := ⟨rfl, rfl, rfl, by decide +kernel, rfl, by decide +kernel, by decide +kernel⟩
abbrev s_Layer_body : Stmt := inClass (top 31) 2
abbrev N_Layer_body : List Str := ["self", "statements", "behind", "seconds", "begin", "statement"]
theorem sc_Layer_body : FnScope N_Layer_body ["self", "statements", "behind", "seconds"] (defScope s_Layer_body) := ⟨rfl, rfl, rfl, by decide +kernel, rfl, by decide +kernel, by decide +kernel⟩
abbrev s_Layer_statement : Stmt := inClass (top 31) 3
abbrev N_Layer_statement : List Str := ["self", "statement", "behind", "seconds", "word", "letter", "one", "nexts", "fork", "begin", "second"]
theorem sc_Layer_statement : FnScope N_Layer_statement ["self", "statement", "behind", "seconds"] (defScope s_Layer_statement) := ⟨rfl, rfl, rfl, by decide +kernel, rfl, by decide +kernel, by decide +kernel⟩
abbrev s_laid : Stmt := top 32
abbrev N_laid : List Str := ["program", "letters", "procedures", "index", "name", "by_name", "body", "numbers", "found", "layer", "begin"]
theorem sc_laid : FnScope N_laid ["program"] (defScope s_laid) := ⟨rfl, rfl, rfl, by decide +kernel, rfl, by decide +kernel, by decide +kernel⟩
abbrev s_own_fault : Stmt := top 35
abbrev N_own_fault : List Str := ["statement", "is_second", "letters", "names", "word"]
theorem sc_own_fault : FnScope N_own_fault ["statement", "is_second", "letters", "names"] (defScope s_own_fault) := ⟨rfl, rfl, rfl, by decide +kernel, rfl, by decide +kernel, by decide +kernel⟩
abbrev s_fault_in : Stmt := top 36
abbrev N_fault_in : List Str := ["body", "is_second", "letters", "names", "statement", "fault", "at", "inner"]
theorem sc_fault_in : FnScope N_fault_in ["body", "is_second", "letters", "names"] (defScope s_fault_in) := ⟨rfl, rfl, rfl, by decide +kernel, rfl, by decide +kernel, by decide +kernel⟩
abbrev s_fault_of : Stmt := top 37
abbrev N_fault_of : List Str := ["program", "letters", "procedures", "name", "body", "names", "word", "some", "double", "fault"]
theorem sc_fault_of : FnScope N_fault_of ["program"] (defScope s_fault_of) := ⟨rfl, rfl, rfl, by decide +kernel, rfl, by decide +kernel, by decide +kernel⟩
abbrev s_check : Stmt := top 38
abbrev N_check : List Str := ["program"]
theorem sc_check : FnScope N_check ["program"] (defScope s_check) := ⟨rfl, rfl, rfl, by decide +kernel, rfl, by decide +kernel, by decide +kernel⟩
abbrev s_need_checked : Stmt := top 39
abbrev N_need_checked : List Str := ["program", "what"]
theorem sc_need_checked : FnScope N_need_checked ["program"] (defScope s_need_checked) := ⟨rfl, rfl, rfl, by decide +kernel, rfl, by decide +kernel, by decide +kernel⟩
abbrev s_procedure_index : Stmt := top 41
abbrev N_procedure_index : List Str := ["program", "name", "index", "own", "body"]
theorem sc_procedure_index : FnScope N_procedure_index ["program", "name"] (defScope s_procedure_index) := ⟨rfl, rfl, rfl, by decide +kernel, rfl, by decide +kernel, by decide +kernel⟩
abbrev s_need_index : Stmt := top 42
abbrev N_need_index : List Str := ["program", "name"]
theorem sc_need_index : FnScope N_need_index ["program", "name"] (defScope s_need_index) := ⟨rfl, rfl, rfl, by decide +kernel, rfl, by decide +kernel, by decide +kernel⟩
abbrev s_Lot_init : Stmt := inClass (top 44) 0
abbrev N_Lot_init : List Str := ["self", "program", "procedure", "users", "waiting", "begin", "places", "place", "parts", "part", "done"]
theorem sc_Lot_init : FnScope N_Lot_init ["self", "program"] (defScope s_Lot_init) := ⟨rfl, rfl, rfl, by decide +kernel, rfl, by decide +kernel, by decide +kernel⟩
abbrev s_Lot_choose : Stmt := inClass (top 44) 1
abbrev N_Lot_choose : List Str := ["self", "procedure", "place", "which", "parts", "part"]
theorem sc_Lot_choose : FnScope N_Lot_choose ["self", "procedure", "place"] (defScope s_Lot_choose) := ⟨rfl, rfl, rfl, by decide +kernel, rfl, by decide +kernel, by decide +kernel⟩
abbrev s_Lot_ways : Stmt := inClass (top 44) 2
abbrev N_Lot_ways : List Str := ["self", "procedure", "place", "here", "part"]
theorem sc_Lot_ways : FnScope N_Lot_ways ["self", "procedure", "place"] (defScope s_Lot_ways) := ⟨rfl, rfl, rfl, by decide +kernel, rfl, by decide +kernel, by decide +kernel⟩
abbrev s_Lot_begin : Stmt := inClass (top 44) 3
abbrev N_Lot_begin : List Str := ["self", "index"]
theorem sc_Lot_begin : FnScope N_Lot_begin ["self", "index"] (defScope s_Lot_begin) := ⟨rfl, rfl, rfl, by decide +kernel, rfl, by decide +kernel, by decide +kernel⟩
abbrev s_Lot_ended : Stmt := inClass (top 44) 4
abbrev N_Lot_ended : List Str := ["self", "home", "ways", "which", "parts", "part"]
theorem sc_Lot_ended : FnScope N_Lot_ended ["self", "home"] (defScope s_Lot_ended) := ⟨rfl, rfl, rfl, by decide +kernel, rfl, by decide +kernel, by decide +kernel⟩
abbrev s_Lot_useful : Stmt := inClass (top 44) 5
abbrev N_Lot_useful : List Str := ["self", "index", "first", "found", "waiting", "home", "which", "parts", "part"]
theorem sc_Lot_useful : FnScope N_Lot_useful ["self", "index"] (defScope s_Lot_useful) := ⟨rfl, rfl, rfl, by decide +kernel, rfl, by decide +kernel, by decide +kernel⟩
abbrev s_useful : Stmt := top 45
abbrev N_useful : List Str := ["program", "name", "index"]
theorem sc_useful : FnScope N_useful ["program", "name"] (defScope s_useful) := ⟨rfl, rfl, rfl, by decide +kernel, rfl, by decide +kernel, by decide +kernel⟩
abbrev s_Lsource : Stmt := top 47
abbrev N_Lsource : List Str := ["cells", "salt"]
theorem sc_Lsource : FnScope N_Lsource ["cells", "salt"] (defScope s_Lsource) := ⟨rfl, rfl, rfl, by decide +kernel, rfl, by decide +kernel, by decide +kernel⟩
abbrev s_Ldraw : Stmt := top 48
abbrev N_Ldraw : List Str := ["source", "many", "cells", "at", "rest", "mixed", "cell"]
theorem sc_Ldraw : FnScope N_Ldraw ["source", "many"] (defScope s_Ldraw) := ⟨rfl, rfl, rfl, by decide +kernel, rfl, by decide +kernel, by decide +kernel⟩
abbrev s_Lsame : Stmt := top 49
abbrev N_Lsame : List Str := ["found", "due", "k"]
theorem sc_Lsame : FnScope N_Lsame ["found", "due"] (defScope s_Lsame) := ⟨rfl, rfl, rfl, by decide +kernel, rfl, by decide +kernel, by decide +kernel⟩
abbrev s_Lnet : Stmt := top 50
abbrev N_Lnet : List Str := ["letters", "found", "x"]
theorem sc_Lnet : FnScope N_Lnet ["letters"] (defScope s_Lnet) := ⟨rfl, rfl, rfl, by decide +kernel, rfl, by decide +kernel, by decide +kernel⟩
abbrev s_Lnames : Stmt := top 51
abbrev N_Lnames : List Str := ["source", "many", "stem", "first", "signs", "k"]
theorem sc_Lnames : FnScope N_Lnames ["source", "many"] (defScope s_Lnames) := ⟨rfl, rfl, rfl, by decide +kernel, rfl, by decide +kernel, by decide +kernel⟩
abbrev s_Lstatement : Stmt := top 52
abbrev N_Lstatement : List Str := ["source", "letters", "heads", "left", "deep", "free", "pick", "many", "bodies", "k", "body", "inner"]
theorem sc_Lstatement : FnScope N_Lstatement ["source", "letters", "heads", "left", "deep", "free"] (defScope s_Lstatement) := ⟨rfl, rfl, rfl, by decide +kernel, rfl, by decide +kernel, by decide +kernel⟩
abbrev s_Lbody : Stmt := top 53
abbrev N_Lbody : List Str := ["source", "letters", "heads", "left", "deep", "free", "made", "turn"]
theorem sc_Lbody : FnScope N_Lbody ["source", "letters", "heads", "left", "deep", "free"] (defScope s_Lbody) := ⟨rfl, rfl, rfl, by decide +kernel, rfl, by decide +kernel, by decide +kernel⟩
abbrev s_Lprogram : Stmt := top 54
abbrev N_Lprogram : List Str := ["source", "most", "letters", "heads", "procedures", "left", "k", "near", "body", "head"]
theorem sc_Lprogram : FnScope N_Lprogram ["source", "most"] (defScope s_Lprogram) := ⟨rfl, rfl, rfl, by decide +kernel, rfl, by decide +kernel, by decide +kernel⟩
abbrev s_Lopposite : Stmt := top 55
abbrev N_Lopposite : List Str := ["letters", "x"]
theorem sc_Lopposite : FnScope N_Lopposite ["letters"] (defScope s_Lopposite) := ⟨rfl, rfl, rfl, by decide +kernel, rfl, by decide +kernel, by decide +kernel⟩
abbrev s_Lword : Stmt := top 56
abbrev N_Lword : List Str := ["source", "many", "most", "found", "turn", "x"]
theorem sc_Lword : FnScope N_Lword ["source", "many", "most"] (defScope s_Lword) := ⟨rfl, rfl, rfl, by decide +kernel, rfl, by decide +kernel, by decide +kernel⟩
abbrev s_Lstraight : Stmt := top 57
abbrev N_Lstraight : List Str := ["source", "letters", "word", "x", "made", "at", "letter", "words"]
theorem sc_Lstraight : FnScope N_Lstraight ["source", "letters", "word"] (defScope s_Lstraight) := ⟨rfl, rfl, rfl, by decide +kernel, rfl, by decide +kernel, by decide +kernel⟩
abbrev s_Lkept : Stmt := top 58
abbrev N_Lkept : List Str := ["source", "letters", "heads", "nets", "left", "deep", "word", "tail", "made", "rest", "turn", "pick", "part", "bodies", "k", "first", "body", "second", "out", "on", "ways"]
theorem sc_Lkept : FnScope N_Lkept ["source", "letters", "heads", "nets", "left", "deep", "word", "tail"] (defScope s_Lkept) := ⟨rfl, rfl, rfl, by decide +kernel, rfl, by decide +kernel, by decide +kernel⟩
abbrev s_Lsize : Stmt := top 59
abbrev N_Lsize : List Str := ["body", "total", "statement", "inner"]
theorem sc_Lsize : FnScope N_Lsize ["body"] (defScope s_Lsize) := ⟨rfl, rfl, rfl, by decide +kernel, rfl, by decide +kernel, by decide +kernel⟩
abbrev s_Lkept_program : Stmt := top 60
abbrev N_Lkept_program : List Str := ["source", "letters", "heads", "head", "nets", "procedures", "never", "k", "plain", "rich", "ways", "cut", "at"]
theorem sc_Lkept_program : FnScope N_Lkept_program ["source"] (defScope s_Lkept_program) := ⟨rfl, rfl, rfl, by decide +kernel, rfl, by decide +kernel, by decide +kernel⟩
abbrev s_Lbent_body : Stmt := top 61
abbrev N_Lbent_body : List Str := ["source", "letters", "body", "left", "made", "statement", "word", "new", "other", "inner"]
theorem sc_Lbent_body : FnScope N_Lbent_body ["source", "letters", "body", "left"] (defScope s_Lbent_body) := ⟨rfl, rfl, rfl, by decide +kernel, rfl, by decide +kernel, by decide +kernel⟩
abbrev s_Lbent_program : Stmt := top 62
abbrev N_Lbent_program : List Str := ["source", "program", "letters", "procedures", "k", "body"]
theorem sc_Lbent_program : FnScope N_Lbent_program ["source", "program"] (defScope s_Lbent_program) := ⟨rfl, rfl, rfl, by decide +kernel, rfl, by decide +kernel, by decide +kernel⟩
abbrev s_Lany_program : Stmt := top 63
abbrev N_Lany_program : List Str := ["source", "pick", "program"]
theorem sc_Lany_program : FnScope N_Lany_program ["source"] (defScope s_Lany_program) := ⟨rfl, rfl, rfl, by decide +kernel, rfl, by decide +kernel, by decide +kernel⟩
abbrev s_Llay : Stmt := top 64
abbrev N_Llay : List Str := ["letters", "heads", "places", "body", "goal", "seconds", "statement", "word", "x", "inner", "nexts", "fork", "begin", "second"]
theorem sc_Llay : FnScope N_Llay ["letters", "heads", "places", "body", "goal", "seconds"] (defScope s_Llay) := ⟨rfl, rfl, rfl, by decide +kernel, rfl, by decide +kernel, by decide +kernel⟩
abbrev s_Llaid : Stmt := top 65
abbrev N_Llaid : List Str := ["program", "head", "body", "letters", "heads", "found", "places", "begin"]
theorem sc_Llaid : FnScope N_Llaid ["program"] (defScope s_Llaid) := ⟨rfl, rfl, rfl, by decide +kernel, rfl, by decide +kernel, by decide +kernel⟩
abbrev s_Lways : Stmt := top 66
abbrev N_Lways : List Str := ["laid_v", "home", "place", "one"]
theorem sc_Lways : FnScope N_Lways ["laid_v", "home"] (defScope s_Lways) := ⟨rfl, rfl, rfl, by decide +kernel, rfl, by decide +kernel, by decide +kernel⟩
abbrev s_Lhomes : Stmt := top 67
abbrev N_Lhomes : List Str := ["laid_v", "found", "k", "place"]
theorem sc_Lhomes : FnScope N_Lhomes ["laid_v"] (defScope s_Lhomes) := ⟨rfl, rfl, rfl, by decide +kernel, rfl, by decide +kernel, by decide +kernel⟩
abbrev s_Lusers : Stmt := top 68
abbrev N_Lusers : List Str := ["laid_v", "found", "home", "way", "part", "users"]
theorem sc_Lusers : FnScope N_Lusers ["laid_v"] (defScope s_Lusers) := ⟨rfl, rfl, rfl, by decide +kernel, rfl, by decide +kernel, by decide +kernel⟩
abbrev s_Lchosen : Stmt := top 69
abbrev N_Lchosen : List Str := ["laid_v", "users", "found", "home", "waiting", "turn", "ways", "k", "part", "good"]
theorem sc_Lchosen : FnScope N_Lchosen ["laid_v"] (defScope s_Lchosen) := ⟨rfl, rfl, rfl, by decide +kernel, rfl, by decide +kernel, by decide +kernel⟩
abbrev s_Luseful : Stmt := top 70
abbrev N_Luseful : List Str := ["laid_v", "chosen", "index", "first", "found", "seen", "turn", "way", "part"]
theorem sc_Luseful : FnScope N_Luseful ["laid_v", "chosen", "index"] (defScope s_Luseful) := ⟨rfl, rfl, rfl, by decide +kernel, rfl, by decide +kernel, by decide +kernel⟩
abbrev s_law : Stmt := top 71
abbrev N_law : List Str := ["script", "source", "turn", "program", "shown", "laid_v", "chosen", "head", "body", "heads", "index", "dues"]
theorem sc_law : FnScope N_law ["script"] (defScope s_law) := ⟨rfl, rfl, rfl, by decide +kernel, rfl, by decide +kernel, by decide +kernel⟩
structure Tp (K : Fg) (mg : Str → Option Value) : Prop where
  g_is_row : mg "is_row" = some (.ref (He.ga K "is_row"))
  g_in_run : mg "in_run" = some (.ref (He.ga K "in_run"))
  g_is_desk_name : mg "is_desk_name" = some (.ref (He.ga K "is_desk_name"))
  g_is_low : mg "is_low" = some (.ref (He.ga K "is_low"))
  g_is_program_name : mg "is_program_name" = some (.ref (He.ga K "is_program_name"))
  g_first_double : mg "first_double" = some (.ref (He.ga K "first_double"))
  g_inner_bodies : mg "inner_bodies" = some (.ref (He.ga K "inner_bodies"))
  g_bodies_of : mg "bodies_of" = some (.ref (He.ga K "bodies_of"))
  g_count_of : mg "count_of" = some (.ref (He.ga K "count_of"))
  g_is_program : mg "is_program" = some (.ref (He.ga K "is_program"))
  g_need_program : mg "need_program" = some (.ref (He.ga K "need_program"))
  g_places_in : mg "places_in" = some (.ref (He.ga K "places_in"))
  g_laid : mg "laid" = some (.ref (He.ga K "laid"))
  g_own_fault : mg "own_fault" = some (.ref (He.ga K "own_fault"))
  g_fault_in : mg "fault_in" = some (.ref (He.ga K "fault_in"))
  g_fault_of : mg "fault_of" = some (.ref (He.ga K "fault_of"))
  g_check : mg "check" = some (.ref (He.ga K "check"))
  g_need_checked : mg "need_checked" = some (.ref (He.ga K "need_checked"))
  g_procedure_index : mg "procedure_index" = some (.ref (He.ga K "procedure_index"))
  g_need_index : mg "need_index" = some (.ref (He.ga K "need_index"))
  g_useful : mg "useful" = some (.ref (He.ga K "useful"))
  g__law_source : mg "_law_source" = some (.ref (He.ga K "_law_source"))
  g__law_draw : mg "_law_draw" = some (.ref (He.ga K "_law_draw"))
  g__law_same : mg "_law_same" = some (.ref (He.ga K "_law_same"))
  g__law_net : mg "_law_net" = some (.ref (He.ga K "_law_net"))
  g__law_names : mg "_law_names" = some (.ref (He.ga K "_law_names"))
  g__law_statement : mg "_law_statement" = some (.ref (He.ga K "_law_statement"))
  g__law_body : mg "_law_body" = some (.ref (He.ga K "_law_body"))
  g__law_program : mg "_law_program" = some (.ref (He.ga K "_law_program"))
  g__law_opposite : mg "_law_opposite" = some (.ref (He.ga K "_law_opposite"))
  g__law_word : mg "_law_word" = some (.ref (He.ga K "_law_word"))
  g__law_straight : mg "_law_straight" = some (.ref (He.ga K "_law_straight"))
  g__law_kept : mg "_law_kept" = some (.ref (He.ga K "_law_kept"))
  g__law_size : mg "_law_size" = some (.ref (He.ga K "_law_size"))
  g__law_kept_program : mg "_law_kept_program" = some (.ref (He.ga K "_law_kept_program"))
  g__law_bent_body : mg "_law_bent_body" = some (.ref (He.ga K "_law_bent_body"))
  g__law_bent_program : mg "_law_bent_program" = some (.ref (He.ga K "_law_bent_program"))
  g__law_any_program : mg "_law_any_program" = some (.ref (He.ga K "_law_any_program"))
  g__law_lay : mg "_law_lay" = some (.ref (He.ga K "_law_lay"))
  g__law_laid : mg "_law_laid" = some (.ref (He.ga K "_law_laid"))
  g__law_ways : mg "_law_ways" = some (.ref (He.ga K "_law_ways"))
  g__law_homes : mg "_law_homes" = some (.ref (He.ga K "_law_homes"))
  g__law_users : mg "_law_users" = some (.ref (He.ga K "_law_users"))
  g__law_chosen : mg "_law_chosen" = some (.ref (He.ga K "_law_chosen"))
  g__law_useful : mg "_law_useful" = some (.ref (He.ga K "_law_useful"))
  g_law : mg "law" = some (.ref (He.ga K "law"))
  g_Layer : mg "Layer" = some (.ref (He.ga K "Layer"))
  cl_Layer : Cls K (He.ga K "Layer")
  k_Layer : Mk K (He.ga K "Layer") (He.ma K (He.ga K "Layer") "__init__")
  n_Layer_letters : NoAttr K (He.ga K "Layer") "letters"
  n_Layer_numbers : NoAttr K (He.ga K "Layer") "numbers"
  n_Layer_found : NoAttr K (He.ga K "Layer") "found"
  m_Layer_make : Meth K (He.ga K "Layer") "make" (He.ma K (He.ga K "Layer") "make")
  m_Layer_body : Meth K (He.ga K "Layer") "body" (He.ma K (He.ga K "Layer") "body")
  m_Layer_statement : Meth K (He.ga K "Layer") "statement" (He.ma K (He.ga K "Layer") "statement")
  g_Lot : mg "Lot" = some (.ref (He.ga K "Lot"))
  cl_Lot : Cls K (He.ga K "Lot")
  k_Lot : Mk K (He.ga K "Lot") (He.ma K (He.ga K "Lot") "__init__")
  n_Lot_laid : NoAttr K (He.ga K "Lot") "laid"
  n_Lot_rows : NoAttr K (He.ga K "Lot") "rows"
  n_Lot_homes : NoAttr K (He.ga K "Lot") "homes"
  m_Lot_choose : Meth K (He.ga K "Lot") "choose" (He.ma K (He.ga K "Lot") "choose")
  m_Lot_ways : Meth K (He.ga K "Lot") "ways" (He.ma K (He.ga K "Lot") "ways")
  m_Lot_begin : Meth K (He.ga K "Lot") "begin" (He.ma K (He.ga K "Lot") "begin")
  m_Lot_ended : Meth K (He.ga K "Lot") "ended" (He.ma K (He.ga K "Lot") "ended")
  m_Lot_useful : Meth K (He.ga K "Lot") "useful" (He.ma K (He.ga K "Lot") "useful")
  b_len : mg "len" = none
  b_all : mg "all" = none
  b_sum : mg "sum" = none
  b_abs : mg "abs" = none
  b_isinstance : mg "isinstance" = none
  b_repr : mg "repr" = none
  b_sorted : mg "sorted" = none
  b_int : mg "int" = none
  b_tuple : mg "tuple" = none
  b_list : mg "list" = none
  b_set : mg "set" = none
  b_enumerate : mg "enumerate" = none
  b_str : mg "str" = none
  b_bool : mg "bool" = none
  b_range : mg "range" = none
  b_reversed : mg "reversed" = none
  c_LOWER : ∃ u, mg "LOWER" = some u ∧ RelV (V.str "abcdefghijklmnopqrstuvwxyz") u
  c_UPPER : ∃ u, mg "UPPER" = some u ∧ RelV (V.str "ABCDEFGHIJKLMNOPQRSTUVWXYZ") u
  c_DIGITS : ∃ u, mg "DIGITS" = some u ∧ RelV (V.str "0123456789") u
  c_LONGEST : ∃ u, mg "LONGEST" = some u ∧ RelV (V.int 10) u
  g_PRINTER_WORDS : mg "PRINTER_WORDS" = some (.ref (He.ga K "PRINTER_WORDS"))
  t_PRINTER_WORDS : ∀ H, SqT K H (He.ga K "PRINTER_WORDS") [V.str "kind", V.str "letters", V.str "none", V.str "start", V.str "state", V.str "words"]
  g_PROGRAM_WORDS : mg "PROGRAM_WORDS" = some (.ref (He.ga K "PROGRAM_WORDS"))
  t_PROGRAM_WORDS : ∀ H, SqT K H (He.ga K "PROGRAM_WORDS") [V.str "call", V.str "choose", V.str "do", V.str "ensure", V.str "finally", V.str "letters", V.str "loop", V.str "or", V.str "proc", V.str "return", V.str "undo"]
  c_MOST_LETTERS : ∃ u, mg "MOST_LETTERS" = some u ∧ RelV (V.int 20) u
  c_MOST_PROCEDURES : ∃ u, mg "MOST_PROCEDURES" = some u ∧ RelV (V.int 40) u
  c_MOST_BODIES : ∃ u, mg "MOST_BODIES" = some u ∧ RelV (V.int 8) u
  c_MOST_STATEMENTS : ∃ u, mg "MOST_STATEMENTS" = some u ∧ RelV (V.int 400) u
  c_DEEPEST : ∃ u, mg "DEEPEST" = some u ∧ RelV (V.int 12) u
  c_MOST_PLACES : ∃ u, mg "MOST_PLACES" = some u ∧ RelV (V.int 300) u
end PK

set_option linter.all false
set_option Elab.async false
set_option maxRecDepth 100000
set_option maxHeartbeats 0
/-! KHa: the head: facts by names, the run of the module's top (printed by genh.py; early, for the memory's sake). -/
namespace PK
open PySem PySem.Spec PyProof.Rows L2
def dfG (x : Str) (st : Stmt) : He.DefD := ⟨(x, none), x, x, defArgs st, defBody st, defScope st, [], []⟩
def dfM (c m q : Str) (st : Stmt) : He.DefD := ⟨(c, some m), m, q, defArgs st, defBody st, defScope st, [], []⟩
def fn0 : List He.DefD := [dfG "is_row" s_is_row, dfG "in_run" s_in_run, dfG "is_desk_name" s_is_desk_name, dfG "is_low" s_is_low, dfG "is_program_name" s_is_program_name, dfG "first_double" s_first_double, dfG "inner_bodies" s_inner_bodies, dfG "bodies_of" s_bodies_of, dfG "count_of" s_count_of, dfG "is_program" s_is_program, dfG "need_program" s_need_program, dfG "places_in" s_places_in, dfM "Layer" "__init__" "Layer.__init__" s_Layer_init, dfM "Layer" "make" "Layer.make" s_Layer_make, dfM "Layer" "body" "Layer.body" s_Layer_body, dfM "Layer" "statement" "Layer.statement" s_Layer_statement, dfG "laid" s_laid, dfG "own_fault" s_own_fault, dfG "fault_in" s_fault_in, dfG "fault_of" s_fault_of]
def fn1 : List He.DefD := [dfG "check" s_check, dfG "need_checked" s_need_checked, dfG "procedure_index" s_procedure_index, dfG "need_index" s_need_index, dfM "Lot" "__init__" "Lot.__init__" s_Lot_init, dfM "Lot" "choose" "Lot.choose" s_Lot_choose, dfM "Lot" "ways" "Lot.ways" s_Lot_ways, dfM "Lot" "begin" "Lot.begin" s_Lot_begin, dfM "Lot" "ended" "Lot.ended" s_Lot_ended, dfM "Lot" "useful" "Lot.useful" s_Lot_useful, dfG "useful" s_useful, dfG "_law_source" s_Lsource, dfG "_law_draw" s_Ldraw, dfG "_law_same" s_Lsame, dfG "_law_net" s_Lnet, dfG "_law_names" s_Lnames, dfG "_law_statement" s_Lstatement, dfG "_law_body" s_Lbody, dfG "_law_program" s_Lprogram, dfG "_law_opposite" s_Lopposite]
def fn2 : List He.DefD := [dfG "_law_word" s_Lword, dfG "_law_straight" s_Lstraight, dfG "_law_kept" s_Lkept, dfG "_law_size" s_Lsize, dfG "_law_kept_program" s_Lkept_program, dfG "_law_bent_body" s_Lbent_body, dfG "_law_bent_program" s_Lbent_program, dfG "_law_any_program" s_Lany_program, dfG "_law_lay" s_Llay, dfG "_law_laid" s_Llaid, dfG "_law_ways" s_Lways, dfG "_law_homes" s_Lhomes, dfG "_law_users" s_Lusers, dfG "_law_chosen" s_Lchosen, dfG "_law_useful" s_Luseful, dfG "law" s_law]
def fn : List He.DefD := fn0 ++ (fn1 ++ (fn2))
def fa0 : List He.Fa := [.glo "is_row", .glo "in_run", .glo "is_desk_name", .glo "is_low", .glo "is_program_name", .glo "first_double", .glo "inner_bodies", .glo "bodies_of", .glo "count_of", .glo "is_program", .glo "need_program", .glo "places_in", .glo "laid", .glo "own_fault", .glo "fault_in", .glo "fault_of", .glo "check", .glo "need_checked", .glo "procedure_index", .glo "need_index"]
def fa1 : List He.Fa := [.glo "useful", .glo "_law_source", .glo "_law_draw", .glo "_law_same", .glo "_law_net", .glo "_law_names", .glo "_law_statement", .glo "_law_body", .glo "_law_program", .glo "_law_opposite", .glo "_law_word", .glo "_law_straight", .glo "_law_kept", .glo "_law_size", .glo "_law_kept_program", .glo "_law_bent_body", .glo "_law_bent_program", .glo "_law_any_program", .glo "_law_lay", .glo "_law_laid"]
def fa2 : List He.Fa := [.glo "_law_ways", .glo "_law_homes", .glo "_law_users", .glo "_law_chosen", .glo "_law_useful", .glo "law", .glo "Layer", .cls "Layer", .mkr "Layer", .noat "Layer" "letters", .noat "Layer" "numbers", .noat "Layer" "found", .meth "Layer" "make", .meth "Layer" "body", .meth "Layer" "statement", .glo "Lot", .cls "Lot", .mkr "Lot", .noat "Lot" "laid", .noat "Lot" "rows"]
def fa3 : List He.Fa := [.noat "Lot" "homes", .meth "Lot" "choose", .meth "Lot" "ways", .meth "Lot" "begin", .meth "Lot" "ended", .meth "Lot" "useful", .free "len", .free "all", .free "sum", .free "abs", .free "isinstance", .free "repr", .free "sorted", .free "int", .free "tuple", .free "list", .free "set", .free "enumerate", .free "str", .free "bool"]
def fa4 : List He.Fa := [.free "range", .free "reversed", .str "LOWER" "abcdefghijklmnopqrstuvwxyz", .str "UPPER" "ABCDEFGHIJKLMNOPQRSTUVWXYZ", .str "DIGITS" "0123456789", .int "LONGEST" 10, .glo "PRINTER_WORDS", .glo "PROGRAM_WORDS", .int "MOST_LETTERS" 20, .int "MOST_PROCEDURES" 40, .int "MOST_BODIES" 8, .int "MOST_STATEMENTS" 400, .int "DEEPEST" 12, .int "MOST_PLACES" 300]
def fa : List He.Fa := fa0 ++ (fa1 ++ (fa2 ++ (fa3 ++ (fa4))))
def vs1 : List He.Dv := [.str "kind", .str "letters", .str "none", .str "start", .str "state", .str "words"]
def vs2 : List He.Dv := [.str "call", .str "choose", .str "do", .str "ensure", .str "finally", .str "letters", .str "loop", .str "or", .str "proc", .str "return", .str "undo"]
def exT (K : Fg) : Bool := He.tupB K "PRINTER_WORDS" vs1 && He.tupB K "PROGRAM_WORDS" vs2
def lo0 : List PySem.Str := ["__name__", "PrintError", "BadName", "BadProgram", "NotChecked", "LOWER", "UPPER", "DIGITS", "LONGEST", "PRINTER_WORDS", "PROGRAM_WORDS", "is_row", "in_run", "is_desk_name", "is_low", "is_program_name", "first_double", "MOST_LETTERS", "MOST_PROCEDURES", "MOST_BODIES"]
def lo1 : List PySem.Str := ["MOST_STATEMENTS", "DEEPEST", "inner_bodies", "bodies_of", "count_of", "is_program", "need_program", "places_in", "Layer", "laid", "MOST_PLACES", "own_fault", "fault_in", "fault_of", "check", "need_checked", "procedure_index", "need_index", "Lot", "useful"]
def lo2 : List PySem.Str := ["_law_source", "_law_draw", "_law_same", "_law_net", "_law_names", "_law_statement", "_law_body", "_law_program", "_law_opposite", "_law_word", "_law_straight", "_law_kept", "_law_size", "_law_kept_program", "_law_bent_body", "_law_bent_program", "_law_any_program", "_law_lay", "_law_laid", "_law_ways"]
def lo3 : List PySem.Str := ["_law_homes", "_law_users", "_law_chosen", "_law_useful"]
def loose : List PySem.Str := lo0 ++ (lo1 ++ (lo2 ++ (lo3)))
abbrev R : PySem.W.OpenRow := PySem.W.OpenLaw.row PySem.Challenge.rw_printsalike_k75_whole_useful_places
abbrev hk : PySem.W.Hook := He.hookX 5 fa fn [] [] exT
def ob (s : PySem.W.SharedT) : He.AlX := He.obsX 5 fa fn [] [] exT (HandSHeadRun.getT s)
theorem ob_eq (s : PySem.W.SharedT) : ob s = hk.obs s.abs := He.obsX_eq (HandSHeadRun.getT_eq s)
theorem run (w : World) : HandSHeadRun.RunEq R (PySem.W.view R.prog [71]) hk ob 4000 loose w := by
  intro os
  kernel_rfl
theorem room : Room 64 PySem.callerA := ⟨rfl, by decide +kernel, by decide +kernel⟩
end PK

set_option linter.all false
set_option Elab.async false
set_option maxRecDepth 100000
set_option maxHeartbeats 4000000
/-! KN: names. -/
namespace PK
open PySem PySem.Spec PyProof.Rows L2
abbrev lowL : List Nat := ("abcdefghijklmnopqrstuvwxyz" : Str).cps.toList
abbrev uppL : List Nat := ("ABCDEFGHIJKLMNOPQRSTUVWXYZ" : Str).cps.toList
abbrev digL : List Nat := ("0123456789" : Str).cps.toList
def prW : List Str := ["kind", "letters", "none", "start", "state", "words"]
def pgW : List Str := ["call", "choose", "do", "ensure", "finally", "letters", "loop", "or", "proc", "return", "undo"]
/-- a program name -/
def okName (x : Str) : Bool := decide (1 ≤ x.cps.size) && (decide (x.cps.size ≤ 10) && ((match x.cps[0]? with
  | some c => decide (c ∈ lowL) && !decide (c ∈ digL)
  | none => false) && (x.cps.toList.all (fun c => decide (c ∈ lowL) || decide (c ∈ digL)) && (!(prW.any fun y => y == x) && !(pgW.any fun y => y == x)))))
structure OkN (x : Str) : Prop where
  l1 : 1 ≤ x.cps.size
  l2 : x.cps.size ≤ 10
  hd : ∃ c, x.cps[0]? = some c ∧ c ∈ lowL ∧ c ∉ digL
  all : ∀ c ∈ x.cps.toList, c ∈ lowL ∨ c ∈ digL
  pr : (prW.any fun y => y == x) = false
  pg : (pgW.any fun y => y == x) = false
theorem okN_of {x : Str} (h : okName x = true) : OkN x := by
  unfold okName at h
  simp only [Bool.and_eq_true, decide_eq_true_eq, Bool.not_eq_true', List.all_eq_true, Bool.or_eq_true] at h
  obtain ⟨h1, h2, h3, h4, h5, h6⟩ := h
  refine ⟨h1, h2, ?_, h4, h5, h6⟩
  cases e : x.cps[0]? with
  | none => rw [e] at h3; cases h3
  | some c =>
    rw [e] at h3
    simp only [Bool.and_eq_true, decide_eq_true_eq, Bool.not_eq_true', decide_eq_false_iff_not] at h3
    exact ⟨c, rfl, h3.1, h3.2⟩
/-- a test of some name, that holds -/
def spYes (C : Str → Prop) : Sp := fun vs H Q _ => ∃ x, vs = [.str x] ∧ C x ∧ ∀ H', Same H H' → Q (.bl true) H'
def spInRun : Sp := fun vs H Q _ => ∃ c, vs = [.str ⟨#[c]⟩] ∧ Q (.bl (decide (c ∈ lowL) || (decide (c ∈ uppL) || decide (c ∈ digL)))) H
def spIsRow (K : Fg) : Sp := fun vs H Q _ => ∃ (a : Addr) (xs : List V) (lo hi : Int), vs = [.ref a, .int lo, .int hi] ∧ SqT K H a xs ∧ lo ≤ xs.length ∧ (xs.length : Int) ≤ hi ∧ Q (.bl true) H
theorem qbl {Q : VK} {b c : Bool} {H : Hp} (e : b = c) (q : Q (.bl c) H) : Q (.bl b) H := by rw [e]; exact q
theorem qint {Q : VK} {b c : Int} {H : Hp} (e : b = c) (q : Q (.int c) H) : Q (.int b) H := by rw [e]; exact q
theorem ift {c : Bool} {A B : Prop} (h : c = true) (a : A) : if c = true then A else B := by rw [if_pos h]; exact a
theorem iff' {c : Bool} {A B : Prop} (h : c = false) (a : B) : if c = true then A else B := by rw [h]; exact iteF a
theorem tyes {σ : L2.St} {H : Hp} {te : TE} {N : VK} {E : Hp → Prop} (h : te σ H N) : tYes σ H (fun b H3 => if b = true then te σ H3 N else E H3) := iteT (A := te σ H N) (B := E H) h
theorem tyx_tup {K : Fg} {H : Hp} {a : Addr} {xs : List V} (h : SqT K H a xs) : TyX K H (.ref a) (.type "tuple") := by
  rcases h with (h | ⟨o, h⟩) | ⟨o, its, n, hk, hc, _⟩
  · exact .base (.tup h)
  · exact .fTuple h
  · exact .kTuple hk hc
theorem name_len {x : Str} (h : OkN x) : x.length ≤ sizeLine := by
  have := h.l2
  exact Nat.le_trans this (by decide)
section
variable {P : Program} {w : World} {K : Fg} {mg : Str → Option Value} {base : Heap}
theorem ok_is_row (T : Tp K mg) (F : Std K "is_row" "is_row" s_is_row (He.ga K "is_row")) : Dn P w K mg base 1 (He.ga K "is_row") ["thing", "low", "high"] (spIsRow K) := by
  refine dn_mk F sc_is_row
    (fun _ _ _ _ _ _ us hl => match us, hl with | [_, _, _], _ => rfl)
    (fun vs H Q E h => ?_) fun cdv A outer s H vs Q E hr h => ?_
  · obtain ⟨a, xs, lo, hi, rfl, _⟩ := h; rfl
  obtain ⟨a, xs, lo, hi, rfl, hS, h1, h2, q⟩ := h
  refine ⟨_, (pss_one (ps_ret (pe_and (pe_callB (isiK (K := K) rfl) (by rfl) T.b_isinstance (by decide +kernel) (pa_cons (pv 0) (pa_cons (pe_bt (n := "tuple") T.b_tuple) pa_nil))) (pe_one (pe_chain op_le op_le (pv 1) (pe_callB (cLenK (K := K) rfl) (by rfl) T.b_len PySem.boot_len (pa_cons (pv 0) pa_nil)) (pv 2)))))), ?_⟩
  refine ⟨_, rfl, _, _, _, _, true, rfl, .ty _, tyx_tup hS, kit_ty (by decide +kernel), _, rfl, ?_⟩
  refine iteT ⟨_, rfl, _, rfl, _, _, rfl, .inr ⟨_, hS, rfl⟩, _, _, rfl, rfl, _, rfl, ?_⟩
  rw [if_pos (decide_eq_true h1)]
  refine ⟨_, rfl, _, _, rfl, rfl, ?_⟩
  exact qbl (Q := Q) (decide_eq_true h2) q
theorem ok_in_run (T : Tp K mg) (F : Std K "in_run" "in_run" s_in_run (He.ga K "in_run")) : Dn P w K mg base 1 (He.ga K "in_run") ["char"] spInRun := by
  refine dn_mk F sc_in_run
    (fun _ _ _ _ _ _ us hl => match us, hl with | [_], _ => rfl)
    (fun vs H Q E h => ?_) fun cdv A outer s H vs Q E hr h => ?_
  · obtain ⟨c, rfl, _⟩ := h; rfl
  obtain ⟨c, rfl, q⟩ := h
  refine ⟨_, (pss_one (ps_ret (pe_or (pe_cmpR op_in_sign (pv 0) (pe_kn T.c_LOWER) (by rfl)) (pe_or (pe_cmpR op_in_sign (pv 0) (pe_kn T.c_UPPER) (by rfl)) (pe_one (pe_cmpR op_in_sign (pv 0) (pe_kn T.c_DIGITS) (by rfl))))))), ?_⟩
  refine ⟨_, rfl, _, _, rfl, rfl, _, rfl, ?_⟩
  refine ite2 (fun e => ?_) (fun e => ?_)
  · rw [e] at q; exact q
  rw [Bool.eq_false_iff.mpr e] at q
  refine ⟨_, rfl, _, _, rfl, rfl, _, rfl, ?_⟩
  refine ite2 (fun e => ?_) (fun e => ?_)
  · rw [e] at q; exact q
  rw [Bool.eq_false_iff.mpr e] at q
  exact ⟨_, rfl, _, _, rfl, rfl, q⟩
theorem ok_is_desk_name (T : Tp K mg) (F : Std K "is_desk_name" "is_desk_name" s_is_desk_name (He.ga K "is_desk_name")) (D_in_run : Dn P w K mg base 1 (He.ga K "in_run") ["char"] spInRun) :
    Dn P w K mg base 2 (He.ga K "is_desk_name") ["thing"] (spYes OkN) := by
  refine dn_mk F sc_is_desk_name
    (fun _ _ _ _ _ _ us hl => match us, hl with | [_], _ => rfl)
    (fun vs H Q E h => ?_) fun cdv A outer s H vs Q E hr h => ?_
  · obtain ⟨x, rfl, _⟩ := h; rfl
  obtain ⟨x, rfl, ok, q⟩ := h
  refine ⟨_, (pss_cons (ps_if (PW.pt (pw_or (pt_not (pt_val (pe_callB (isiK (K := K) rfl) (by rfl) T.b_isinstance (by decide +kernel) (pa_cons (pv 0) (pa_cons (pe_bt (n := "str") T.b_str) pa_nil))))) (pw_or1 (pt_not (pt_chain op_le op_le pe_int (pe_callB (cLenK (K := K) rfl) (by rfl) T.b_len PySem.boot_len (pa_cons (pv 0) pa_nil)) (pe_kn T.c_LONGEST)))))) (pss_one (ps_ret pe_bl)) pss_nil)
    (pss_one (ps_ret (pe_and (pe_cmpR op_notIn_sign (pe_ix (ixK (K := K) rfl) (pv 0) pe_int (fun _ _ => rfl)) (pe_kn T.c_DIGITS) (by rfl)) (pe_one (pe_callB (allK (K := K) rfl rfl) (by rfl) T.b_all (by decide +kernel) (pa_cons (pe_lc (own := [("char", 1)]) (tt := tYes) rfl sc_is_desk_name.nd (pi_str (pv 0)) (blkOk_by (N := N_is_desk_name) (sc := defScope s_is_desk_name) (own := [("char", 1)]) (by decide +kernel)) (fun _ _ _ _ _ => (pg_name (i := 1) sc_is_desk_name.nd rfl (Or.inl rfl))) (fun _ _ _ _ _ => pts_nil) (fun _ _ _ _ _ => (pe_f D_in_run (hr.mono (by omega)) T.g_in_run (pa_cons (pv 1) pa_nil)))) pa_nil))))))), ?_⟩
  have hl := name_len ok
  obtain ⟨c0, e0, m1, m2⟩ := ok.hd
  refine ⟨_, rfl, _, _, _, _, true, rfl, .ty _, .base (.str x), kit_ty (by decide +kernel), _, rfl, ?_⟩
  refine iteF ⟨_, rfl, _, _, rfl, ⟨hl, rfl⟩, _, _, rfl, rfl, _, rfl, ?_⟩
  have hl1 : (1 : Int) ≤ ((x.length : Nat) : Int) := by
    have := ok.l1
    have e : x.length = x.cps.size := rfl
    omega
  have hl2 : ((x.length : Nat) : Int) ≤ 10 := by
    have := ok.l2
    have e : x.length = x.cps.size := rfl
    omega
  refine ift (decide_eq_true hl1) ⟨_, _, rfl, rfl, _, rfl, iff' (by rw [decide_eq_true hl2]; rfl) ?_⟩
  refine ⟨_, rfl, .inr (.inr ⟨x, 0, c0, rfl, rfl, hl, atI_nat (j := 0) (by rw [Array.getElem?_toList]; exact e0), ⟨c0, _, rfl, rfl, _, rfl, ift (by rw [decide_eq_false m2]; rfl) ?_⟩⟩)⟩
  refine ⟨_, rfl, _, rfl, fun D nD => lc_acc walk_str [] (fun i acc _ => ∃ bs : List Bool, acc = bs.map V.bl ∧ bs.all id = true) nD (fun _ _ _ _ _ _ => trivial) (fun _ _ _ _ _ _ _ p => p) ⟨[], rfl, rfl⟩ ?_ (by simp) ?_ ?_⟩
  · exact Nat.lt_of_le_of_lt ok.l2 (by decide)
  · rintro i y acc H1 H2 hi k t hD hl ⟨bs, rfl, hb⟩ ⟨rfl, c, hc, rfl⟩ N E1 hN _
    have hcm : c ∈ x.cps.toList := by
      rw [← Array.getElem?_toList] at hc
      exact List.mem_of_getElem? hc
    refine ⟨rfl, tyes ⟨_, rfl, c, rfl, ?_⟩⟩
    have e : (decide (c ∈ lowL) || (decide (c ∈ uppL) || decide (c ∈ digL))) = true := by
      rcases ok.all c hcm with m | m
      · rw [decide_eq_true m]; rfl
      · rw [decide_eq_true m]; simp
    rw [e]
    exact hN _ _ (Kp.refl _ _) (Tk.refl _) ⟨bs ++ [true], by simp, by simp [hb]⟩
  · rintro H1 acc k t hD _ ⟨bs, rfl, hb⟩
    refine ⟨D, bs, rfl, SqL.of hD, ?_⟩
    rw [hb]
    exact q _ k.nil
theorem inV_str (ws : List Str) (x : Str) : inV (.str x) (ws.map V.str) = ws.any fun y => y == x := by
  induction ws with
  | nil => rfl
  | cons y r ih => show (eqV (.str y) (.str x) || inV (.str x) (r.map V.str)) = _; rw [ih]; rfl
theorem flat_strs (ws : List Str) : (ws.map V.str).all flatV = true := by
  induction ws with
  | nil => rfl
  | cons y r ih => show (flatV (.str y) && (r.map V.str).all flatV) = true; rw [ih]; rfl
theorem ok_is_low (T : Tp K mg) (F : Std K "is_low" "is_low" s_is_low (He.ga K "is_low")) (D_is_desk_name : Dn P w K mg base 2 (He.ga K "is_desk_name") ["thing"] (spYes OkN)) :
    Dn P w K mg base 3 (He.ga K "is_low") ["thing"] (spYes OkN) := by
  refine dn_mk F sc_is_low
    (fun _ _ _ _ _ _ us hl => match us, hl with | [_], _ => rfl)
    (fun vs H Q E h => ?_) fun cdv A outer s H vs Q E hr h => ?_
  · obtain ⟨x, rfl, _⟩ := h; rfl
  obtain ⟨x, rfl, ok, q⟩ := h
  refine ⟨_, (pss_one (ps_ret (pe_and (pe_f D_is_desk_name (hr.mono (by omega)) T.g_is_desk_name (pa_cons (pv 0) pa_nil)) (pe_and (pe_cmpR op_in_sign (pe_ix (ixK (K := K) rfl) (pv 0) pe_int (fun _ _ => rfl)) (pe_kn T.c_LOWER) (by rfl)) (pe_one (pe_cmpR (notInK (K := K) rfl) (pv 0) (pe_gr T.g_PRINTER_WORDS) (by rfl))))))), ?_⟩
  have hl := name_len ok
  obtain ⟨c0, e0, m1, m2⟩ := ok.hd
  refine ⟨_, rfl, x, rfl, ok, fun H1 s1 => ⟨_, rfl, iteT ?_⟩⟩
  refine ⟨_, rfl, .inr (.inr ⟨x, 0, c0, rfl, rfl, hl, atI_nat (j := 0) (by rw [Array.getElem?_toList]; exact e0), c0, _, rfl, rfl, _, rfl, ift (decide_eq_true m1) ?_⟩)⟩
  refine ⟨_, rfl, _, prW.map V.str, rfl, .inr (T.t_PRINTER_WORDS _), rfl, flat_strs _, ?_⟩
  exact qbl (Q := Q) (by rw [inV_str, ok.pr]; rfl) (q _ s1)
theorem ok_is_program_name (T : Tp K mg) (F : Std K "is_program_name" "is_program_name" s_is_program_name (He.ga K "is_program_name")) (D_is_low : Dn P w K mg base 3 (He.ga K "is_low") ["thing"] (spYes OkN)) :
    Dn P w K mg base 4 (He.ga K "is_program_name") ["thing"] (spYes OkN) := by
  refine dn_mk F sc_is_program_name
    (fun _ _ _ _ _ _ us hl => match us, hl with | [_], _ => rfl)
    (fun vs H Q E h => ?_) fun cdv A outer s H vs Q E hr h => ?_
  · obtain ⟨x, rfl, _⟩ := h; rfl
  obtain ⟨x, rfl, ok, q⟩ := h
  refine ⟨_, (pss_cons (ps_if (PW.pt (pw_or (pt_not (pt_val (pe_f D_is_low (hr.mono (by omega)) T.g_is_low (pa_cons (pv 0) pa_nil)))) (pw_or1 (pt_cmpR (inK (K := K) rfl) (pv 0) (pe_gr T.g_PROGRAM_WORDS) (by rfl))))) (pss_one (ps_ret pe_bl)) pss_nil)
    (pss_one (ps_ret (pe_callB (allK (K := K) rfl rfl) (by rfl) T.b_all (by decide +kernel) (pa_cons (pe_lc (own := [("char", 1)]) (tt := tYes) rfl sc_is_program_name.nd (pi_str (pv 0)) (blkOk_by (N := N_is_program_name) (sc := defScope s_is_program_name) (own := [("char", 1)]) (by decide +kernel)) (fun _ _ _ _ _ => (pg_name (i := 1) sc_is_program_name.nd rfl (Or.inl rfl))) (fun _ _ _ _ _ => pts_nil) (fun _ _ _ _ _ => (pe_cmpR op_notIn_sign (pv 1) (pe_kn T.c_UPPER) (by rfl)))) pa_nil))))), ?_⟩
  refine ⟨_, rfl, x, rfl, ok, fun H0 s0 => ⟨_, rfl, iteF ?_⟩⟩
  refine ⟨_, rfl, _, pgW.map V.str, rfl, .inr (T.t_PROGRAM_WORDS _), rfl, flat_strs _, _, rfl, iff' (by rw [inV_str, ok.pg]; rfl) ?_⟩
  refine ⟨_, rfl, _, rfl, fun D nD => lc_acc walk_str [] (fun i acc _ => ∃ bs : List Bool, acc = bs.map V.bl ∧ bs.all id = true) nD (fun _ _ _ _ _ _ => trivial) (fun _ _ _ _ _ _ _ p => p) ⟨[], rfl, rfl⟩ ?_ (by simp) ?_ ?_⟩
  · exact Nat.lt_of_le_of_lt ok.l2 (by decide)
  · rintro i y acc H1 H2 hi k t hD hl ⟨bs, rfl, hb⟩ ⟨rfl, c, hc, rfl⟩ N E1 hN _
    have hcm : c ∈ x.cps.toList := by
      rw [← Array.getElem?_toList] at hc
      exact List.mem_of_getElem? hc
    refine ⟨rfl, tyes ⟨_, rfl, c, _, rfl, rfl, ?_⟩⟩
    have e : (!decide (c ∈ uppL)) = true := by
      have dj : ∀ c ∈ lowL ++ digL, c ∉ uppL := by decide +kernel
      rw [decide_eq_false (dj c (List.mem_append.mpr (ok.all c hcm)))]; rfl
    exact qbl (Q := N) e (hN _ _ (Kp.refl _ _) (Tk.refl _) ⟨bs ++ [true], by simp, by simp [hb]⟩)
  · rintro H1 acc k t hD _ ⟨bs, rfl, hb⟩
    refine ⟨D, bs, rfl, SqL.of hD, ?_⟩
    rw [hb]
    exact q _ (s0.trans k.nil)
end
end PK

set_option linter.all false
set_option Elab.async false
set_option maxRecDepth 100000
set_option maxHeartbeats 4000000
/-! KS: statements, their data, their counts. -/
namespace PK
open PySem PySem.Spec PyProof.Rows L2
inductive Stm where
  | act (u : Bool) (x : Str)
  | call (x : Str)
  | cho (bs : List (List Stm))
  | loop (b : List Stm)
  | ret
  | ens (b s : List Stm)
abbrev Bod := List Stm
def actW (u : Bool) : Str := if u then "undo" else "do"
mutual
def stmD : Stm → PyData
  | .act u x => .tuple [.str (actW u), .str x]
  | .call x => .tuple [.str "call", .str x]
  | .cho bs => .tuple [.str "choose", .tuple (bodDs bs)]
  | .loop b => .tuple [.str "loop", .tuple (stmDs b)]
  | .ret => .tuple [.str "return"]
  | .ens b s => .tuple [.str "ensure", .tuple (stmDs b), .tuple (stmDs s)]
def stmDs : List Stm → List PyData
  | [] => []
  | s :: r => stmD s :: stmDs r
def bodDs : List (List Stm) → List PyData
  | [] => []
  | b :: r => .tuple (stmDs b) :: bodDs r
end
abbrev bodD (b : Bod) : PyData := .tuple (stmDs b)
theorem stmDs_map (b : Bod) : stmDs b = b.map stmD := by
  induction b with
  | nil => rfl
  | cons s r ih => rw [stmDs, ih]; rfl
theorem bodDs_map (bs : List Bod) : bodDs bs = bs.map bodD := by
  induction bs with
  | nil => rfl
  | cons s r ih => rw [bodDs, ih]; rfl
mutual
def cntS : Stm → Nat
  | .act _ _ => 1
  | .call _ => 1
  | .cho bs => 1 + cntBs bs
  | .loop b => 1 + cntB b
  | .ret => 1
  | .ens b s => 1 + (cntB b + cntB s)
def cntB : List Stm → Nat
  | [] => 0
  | s :: r => cntS s + cntB r
def cntBs : List (List Stm) → Nat
  | [] => 0
  | b :: r => cntB b + cntBs r
end
mutual
def depS : Stm → Nat
  | .act _ _ => 1
  | .call _ => 1
  | .cho bs => 1 + depBs bs
  | .loop b => 1 + depB b
  | .ret => 1
  | .ens b s => 1 + max (depB b) (depB s)
def depB : List Stm → Nat
  | [] => 0
  | s :: r => max (depS s) (depB r)
def depBs : List (List Stm) → Nat
  | [] => 0
  | b :: r => max (depB b) (depBs r)
end
/-! no return -/
mutual
def nrS : Stm → Bool
  | .act _ _ => true
  | .call _ => true
  | .cho bs => nrBs bs
  | .loop b => nrB b
  | .ret => false
  | .ens b s => nrB b && nrB s
def nrB : List Stm → Bool
  | [] => true
  | s :: r => nrS s && nrB r
def nrBs : List (List Stm) → Bool
  | [] => true
  | b :: r => nrB b && nrBs r
end
/-! letters among L, calls among P, two to eight bodies, no return in a second body -/
mutual
def wfS (L P : List Str) : Stm → Bool
  | .act _ x => decide (x ∈ L)
  | .call x => decide (x ∈ P)
  | .cho bs => decide (2 ≤ bs.length) && (decide (bs.length ≤ 8) && wfBs L P bs)
  | .loop b => wfB L P b
  | .ret => true
  | .ens b s => wfB L P b && (wfB L P s && nrB s)
def wfB (L P : List Str) : List Stm → Bool
  | [] => true
  | s :: r => wfS L P s && wfB L P r
def wfBs (L P : List Str) : List (List Stm) → Bool
  | [] => true
  | b :: r => wfB L P b && wfBs L P r
end
/-! how many places a body makes, returned: how many each return makes -/
mutual
def plS (rt : Nat) : Stm → Nat
  | .act _ _ => 1
  | .call _ => 1
  | .cho bs => 1 + plBs rt bs
  | .loop b => 1 + plB rt b
  | .ret => rt
  | .ens b s => plB 0 s + plB (rt + plB 0 s) b
def plB (rt : Nat) : List Stm → Nat
  | [] => 0
  | s :: r => plS rt s + plB rt r
def plBs (rt : Nat) : List (List Stm) → Nat
  | [] => 0
  | b :: r => plB rt b + plBs rt r
end
theorem cntB_append (a b : Bod) : cntB (a ++ b) = cntB a + cntB b := by
  induction a with
  | nil => simp [cntB]
  | cons s r ih => simp only [List.cons_append, cntB, ih]; omega
theorem cnt_pos (s : Stm) : 1 ≤ cntS s := by cases s <;> simp only [cntS] <;> omega
theorem len_cnt (b : Bod) : b.length ≤ cntB b := by
  induction b with
  | nil => exact Nat.zero_le _
  | cons s r ih => have := cnt_pos s; simp only [List.length_cons, cntB]; omega
theorem wfB_append {L P : List Str} (a b : Bod) : wfB L P (a ++ b) = (wfB L P a && wfB L P b) := by
  induction a with
  | nil => simp [wfB]
  | cons s r ih => simp only [List.cons_append, wfB, ih, Bool.and_assoc]
theorem wfB_mem {L P : List Str} {b : Bod} (h : wfB L P b = true) {s : Stm} (m : s ∈ b) : wfS L P s = true := by
  induction b with
  | nil => cases m
  | cons t r ih =>
    simp only [wfB, Bool.and_eq_true] at h
    rcases List.mem_cons.mp m with rfl | m
    · exact h.1
    · exact ih h.2 m
/-! ### data that can be compared -/
def NmOk (l : List Str) : Prop := ∀ x ∈ l, OkN x
theorem strOk_of {x : Str} (h : OkN x) : PyData.canLay0 (.str x) = true := by
  show PySem.PyData.strOk x = true
  unfold PySem.PyData.strOk
  rw [Array.all_eq_true']
  intro c hc
  have hc : c ∈ x.cps.toList := Array.mem_toList_iff.mpr hc
  have dj : ∀ c ∈ lowL ++ digL, c < 0x110000 := by decide +kernel
  exact decide_eq_true (dj c (List.mem_append.mpr (h.all c hc)))
mutual
theorem lay_S {L P : List Str} (hL : NmOk L) (hP : NmOk P) : ∀ s : Stm, wfS L P s = true → (stmD s).canLay0 = true
  | .act u x, h => by
    have h := of_decide_eq_true (show decide (x ∈ L) = true from h)
    have e := strOk_of (hL x h)
    cases u <;> simp only [stmD, PyData.canLay0, PyData.canLayAll0, Bool.and_true] at e ⊢ <;> (rw [e]; decide +kernel)
  | .call x, h => by
    have h := of_decide_eq_true (show decide (x ∈ P) = true from h)
    have e := strOk_of (hP x h)
    simp only [stmD, PyData.canLay0, PyData.canLayAll0, Bool.and_true] at e ⊢ <;> (rw [e]; decide +kernel)
  | .cho bs, h => by
    simp only [wfS, Bool.and_eq_true] at h
    have e := lay_Bs hL hP bs h.2.2
    simp only [stmD, PyData.canLay0, PyData.canLayAll0, Bool.and_true]
    rw [e]; decide +kernel
  | .loop b, h => by
    simp only [wfS] at h
    have e := lay_B hL hP b h
    simp only [stmD, PyData.canLay0, PyData.canLayAll0, Bool.and_true]
    rw [e]; decide +kernel
  | .ret, _ => by decide +kernel
  | .ens b s, h => by
    simp only [wfS, Bool.and_eq_true] at h
    have e := lay_B hL hP b h.1
    have e2 := lay_B hL hP s h.2.1
    simp only [stmD, PyData.canLay0, PyData.canLayAll0, Bool.and_true]
    rw [e, e2]; decide +kernel
theorem lay_B {L P : List Str} (hL : NmOk L) (hP : NmOk P) : ∀ b : List Stm, wfB L P b = true → PyData.canLayAll0 (stmDs b) = true
  | [], _ => rfl
  | s :: r, h => by
    simp only [wfB, Bool.and_eq_true] at h
    simp only [stmDs, PyData.canLayAll0, Bool.and_eq_true]
    exact ⟨lay_S hL hP s h.1, lay_B hL hP r h.2⟩
theorem lay_Bs {L P : List Str} (hL : NmOk L) (hP : NmOk P) : ∀ bs : List (List Stm), wfBs L P bs = true → PyData.canLayAll0 (bodDs bs) = true
  | [], _ => rfl
  | s :: r, h => by
    simp only [wfBs, Bool.and_eq_true] at h
    simp only [bodDs, PyData.canLayAll0, PyData.canLay0, Bool.and_eq_true]
    exact ⟨lay_B hL hP s h.1, lay_Bs hL hP r h.2⟩
end
section
variable {X : Cx}
/-- a tuple, not the empty one -/
def rNeNil (K : Fg) : R2 := fun x y H Q => ∃ (a b : Addr) (ds : List PyData), x = .ref a ∧ y = .ref b ∧ Dat K H x (.tuple ds) ∧ SqT K H b [] ∧ PyData.canLayAll0 ds = true ∧ Q (.bl (!ds.isEmpty)) H
theorem oNeNil (hu : X.A.units + 64 < cLine) : OpR X (compareOp .NotEq) (rNeNil X.K) := by
  intro pins s σ H x y v u Q I rx ry h
  obtain ⟨a, b, ds, rfl, rfl, hd, hb, hc, q⟩ := h
  obtain ⟨as, r1⟩ := Dp.reads I (.tuple ds) _ v hd.dp rx
  obtain ⟨bs, r2⟩ := Dp.reads I (.tuple []) _ u (Dp.tup hb .nil) ry
  have e : PyData.eqv (.tuple ds) (.tuple []) = ds.isEmpty := by cases ds <;> rfl
  have hm : min (PyData.tuple ds).depth (PyData.tuple []).depth ≤ 1 := Nat.le_trans (Nat.min_le_right _ _) (by decide)
  exact SeqAt.compareNe_reads r1 r2 hc rfl (by omega) ⟨.bl _, H, I, by rw [e]; rfl, q⟩
end
end PK

set_option linter.all false
set_option Elab.async false
set_option maxRecDepth 100000
set_option maxHeartbeats 4000000
/-! KP: what a program is. -/
namespace PK
open PySem PySem.Spec PyProof.Rows L2
def subs : Stm → List Bod
  | .act _ _ => []
  | .call _ => []
  | .cho bs => bs
  | .loop b => [b]
  | .ret => []
  | .ens b s => [b, s]
def wrd : Stm → Str
  | .act u _ => actW u
  | .call _ => "call"
  | .cho _ => "choose"
  | .loop _ => "loop"
  | .ret => "return"
  | .ens _ _ => "ensure"
def rst : Stm → List PyData
  | .act _ x => [.str x]
  | .call x => [.str x]
  | .cho bs => [.tuple (bodDs bs)]
  | .loop b => [.tuple (stmDs b)]
  | .ret => []
  | .ens b s => [.tuple (stmDs b), .tuple (stmDs s)]
theorem stmD_eq (s : Stm) : stmD s = .tuple (.str (wrd s) :: rst s) := by cases s <;> rfl
/-- the names stand for letters and procedures -/
structure Nm (L P : List Str) : Prop where
  l : NmOk L
  p : NmOk P
def spInner (K : Fg) : Sp := fun vs H Q _ => ∃ (L P : List Str) (v : V) (s : Stm), vs = [v] ∧ Dat K H v (stmD s) ∧ wfS L P s = true ∧ Nm L P ∧ ∀ r H', Same H H' → Dat K H' r (.tuple (bodDs (subs s))) → Q r H'
section
variable {P : Program} {w : World} {K : Fg} {mg : Str → Option Value} {base : Heap}
theorem stm_get {K : Fg} {H : Hp} {v : V} {s : Stm} (h : Dat K H v (stmD s)) : ∃ a w ys, v = .ref a ∧ w = wrd s ∧ SqT K H a (.str w :: ys) ∧ Dats K H ys (rst s) := by
  rw [stmD_eq] at h
  obtain ⟨a, xs, rfl, h1, h2⟩ := h.inv_tup
  obtain ⟨z, ys, rfl, h3, h4⟩ := h2.inv_cons
  rw [h3.inv_str] at h1
  exact ⟨a, _, ys, rfl, rfl, h1, h4⟩
theorem rst_len (s : Stm) : (rst s).length ≤ 2 := by cases s <;> simp [rst]
theorem ok_inner (T : Tp K mg) (F : Std K "inner_bodies" "inner_bodies" s_inner_bodies (He.ga K "inner_bodies")) (D_is_row : Dn P w K mg base 1 (He.ga K "is_row") ["thing", "low", "high"] (spIsRow K))
    (D_is_program_name : Dn P w K mg base 4 (He.ga K "is_program_name") ["thing"] (spYes OkN)) :
    Dn P w K mg base 5 (He.ga K "inner_bodies") ["thing"] (spInner K) := by
  refine dn_mk F sc_inner_bodies
    (fun _ _ _ _ _ _ us hl => match us, hl with | [_], _ => rfl)
    (fun vs H Q E h => ?_) fun cdv A outer s H vs Q E hr h => ?_
  · obtain ⟨L, PP, x, s, rfl, _⟩ := h; rfl
  obtain ⟨L, PP, v, st, rfl, hd, hw, nm, q⟩ := h
  obtain ⟨a, w0, ys, rfl, ew, hS, hY⟩ := stm_get hd
  have hl : (V.str w0 :: ys).length ≤ 3 := by
    have e1 := hY.length
    have e2 := rst_len st
    simp only [List.length_cons]; omega
  refine ⟨_, (pss_cons (ps_if (PW.pt (pw_or (pt_not (pt_val (pe_f D_is_row (hr.mono (by omega)) T.g_is_row (pa_cons (pv 0) (pa_cons pe_int (pa_cons pe_int pa_nil)))))) (pw_or1 (pt_not (pt_val (pe_callB (isiK (K := K) rfl) (by rfl) T.b_isinstance (by decide +kernel) (pa_cons (pe_ix (ixK (K := K) rfl) (pv 0) pe_int (fun _ _ => rfl)) (pa_cons (pe_bt (n := "str") T.b_str) pa_nil)))))))) (pss_one (ps_ret pe_non)) pss_nil)
    (pss_cons (ps_set (i := 1) sc_inner_bodies.nd rfl (Or.inl rfl) (pe_ix (ixK (K := K) rfl) (pv 0) pe_int (fun _ _ => rfl)))
    (pss_cons (ps_if (pt_cmpR (inK (K := K) rfl) (pv 1) (pe_tup (pa_cons pe_str (pa_cons pe_str (pa_cons pe_str pa_nil)))) (by rfl)) (pss_one (ps_ret (pe_ifExp (PW.pt (pw_and (pt_cmpR (oEqK (K := K) rfl (hu64 hr)) (pe_callB (cLenK (K := K) rfl) (by rfl) T.b_len PySem.boot_len (pa_cons (pv 0) pa_nil)) pe_int (nomark _)) (pw_and1 (pt_val (pe_f D_is_program_name (hr.mono (by omega)) T.g_is_program_name (pa_cons (pe_ix (ixK (K := K) rfl) (pv 0) pe_int (fun _ _ => rfl)) pa_nil)))))) (pe_tup pa_nil) pe_non))) pss_nil)
    (pss_cons (ps_if (pt_cmpR (oEqK (K := K) rfl (hu64 hr)) (pv 1) pe_str (nomark _)) (pss_one (ps_ret (pe_ifExp (PW.pt (pw_and (pt_cmpR (oEqK (K := K) rfl (hu64 hr)) (pe_callB (cLenK (K := K) rfl) (by rfl) T.b_len PySem.boot_len (pa_cons (pv 0) pa_nil)) pe_int (nomark _)) (pw_and1 (pt_val (pe_f D_is_row (hr.mono (by omega)) T.g_is_row (pa_cons (pe_ix (ixK (K := K) rfl) (pv 0) pe_int (fun _ _ => rfl)) (pa_cons pe_int (pa_cons (pe_kn T.c_MOST_BODIES) pa_nil)))))))) (pe_ix (ixK (K := K) rfl) (pv 0) pe_int (fun _ _ => rfl)) pe_non))) pss_nil)
    (pss_cons (ps_if (pt_cmpR (oEqK (K := K) rfl (hu64 hr)) (pv 1) pe_str (nomark _)) (pss_one (ps_ret (pe_ifExp (pt_cmpR (oEqK (K := K) rfl (hu64 hr)) (pe_callB (cLenK (K := K) rfl) (by rfl) T.b_len PySem.boot_len (pa_cons (pv 0) pa_nil)) pe_int (nomark _)) (pe_slice (slTupK (K := K) rfl) (pv 0) (po_some pe_int) po_none) pe_non))) pss_nil)
    (pss_cons (ps_if (pt_cmpR (oEqK (K := K) rfl (hu64 hr)) (pv 1) pe_str (nomark _)) (pss_one (ps_ret (pe_ifExp (pt_cmpR (oEqK (K := K) rfl (hu64 hr)) (pe_callB (cLenK (K := K) rfl) (by rfl) T.b_len PySem.boot_len (pa_cons (pv 0) pa_nil)) pe_int (nomark _)) (pe_tup pa_nil) pe_non))) pss_nil)
    (pss_one (ps_ret (pe_ifExp (PW.pt (pw_and (pt_cmpR (oEqK (K := K) rfl (hu64 hr)) (pv 1) pe_str (nomark _)) (pw_and1 (pt_cmpR (oEqK (K := K) rfl (hu64 hr)) (pe_callB (cLenK (K := K) rfl) (by rfl) T.b_len PySem.boot_len (pa_cons (pv 0) pa_nil)) pe_int (nomark _))))) (pe_slice (slTupK (K := K) rfl) (pv 0) (po_some pe_int) po_none) pe_non))))))))), ?_⟩
  refine ⟨_, rfl, a, _, 1, 3, rfl, hS, by simp only [List.length_cons]; omega, by omega, _, rfl, iteF ?_⟩
  refine ⟨_, rfl, .inr (.inl ⟨a, _, 0, _, rfl, rfl, hS, atI_nat (j := 0) rfl, _, _, _, _, true, rfl, .ty _, .base (.str _), kit_ty (by decide +kernel), _, rfl, iteF ?_⟩)⟩
  refine ⟨_, rfl, .inr (.inl ⟨a, _, 0, _, rfl, rfl, hS, atI_nat (j := 0) rfl, ?_⟩)⟩
  refine ⟨_, rfl, (by show 3 ≤ sizeLine; decide), fun p hp => ⟨p, (["do", "undo", "call"] : List Str).map V.str, rfl, .inr (SqT.of upd_same), rfl, flat_strs _, _, rfl, ?_⟩⟩
  have s0 := same_new hp (.tup [V.str "do", V.str "undo", V.str "call"])
  have hS := (tk_same s0).seq hS
  have hY := hY.tk (tk_same s0)
  rw [inV_str]
  cases st with
  | act u x =>
    have ew : w0 = actW u := ew
    obtain ⟨y, _, rfl, h1, h2⟩ := hY.inv_cons
    cases h2.inv_nil
    rw [h1.inv_str] at hS
    have hx := nm.l x (of_decide_eq_true (show decide (x ∈ L) = true from hw))
    refine ift (by subst ew; cases u <;> decide +kernel) ?_
    refine ⟨_, rfl, _, _, rfl, .inr ⟨_, hS, rfl⟩, .inl ⟨rfl, _, rfl, iteT ⟨_, rfl, .inr (.inl ⟨a, _, 1, _, rfl, rfl, hS, atI_nat (j := 1) rfl, x, rfl, hx, fun H2 s2 => ⟨_, rfl, iteT ?_⟩⟩)⟩⟩⟩
    exact ⟨Nat.zero_le _, fun r hr => q _ _ (s0.trans (s2.trans (same_new hr _))) (.tup (SqT.of upd_same) .nil)⟩
  | call x =>
    have ew : w0 = "call" := ew
    subst ew
    obtain ⟨y, _, rfl, h1, h2⟩ := hY.inv_cons
    cases h2.inv_nil
    rw [h1.inv_str] at hS
    have hx := nm.p x (of_decide_eq_true (show decide (x ∈ PP) = true from hw))
    refine ift (by decide +kernel) ?_
    refine ⟨_, rfl, _, _, rfl, .inr ⟨_, hS, rfl⟩, .inl ⟨rfl, _, rfl, iteT ⟨_, rfl, .inr (.inl ⟨a, _, 1, _, rfl, rfl, hS, atI_nat (j := 1) rfl, x, rfl, hx, fun H2 s2 => ⟨_, rfl, iteT ?_⟩⟩)⟩⟩⟩
    exact ⟨Nat.zero_le _, fun r hr => q _ _ (s0.trans (s2.trans (same_new hr _))) (.tup (SqT.of upd_same) .nil)⟩
  | cho bs =>
    have ew : w0 = "choose" := ew
    subst ew
    obtain ⟨y, _, rfl, h1, h2⟩ := hY.inv_cons
    cases h2.inv_nil
    simp only [wfS, Bool.and_eq_true, decide_eq_true_eq] at hw
    obtain ⟨c, zs, rfl, hc, hz⟩ := h1.inv_tup
    have hlz : zs.length = bs.length := by rw [hz.length, bodDs_map, List.length_map]
    refine iff' (by decide +kernel) ?_
    refine ⟨_, rfl, .inl ⟨rfl, _, rfl, ift (by decide +kernel) ?_⟩⟩
    refine ⟨_, rfl, _, _, rfl, .inr ⟨_, hS, rfl⟩, .inl ⟨rfl, _, rfl, iteT ?_⟩⟩
    refine ⟨_, rfl, .inr (.inl ⟨a, _, 1, _, rfl, rfl, hS, atI_nat (j := 1) rfl, c, zs, 2, 8, rfl, hc, by omega, by omega, _, rfl, iteT ?_⟩)⟩
    exact ⟨_, rfl, .inr (.inl ⟨a, _, 1, _, rfl, rfl, hS, atI_nat (j := 1) rfl, q _ _ s0 h1⟩)⟩
  | loop b =>
    have ew : w0 = "loop" := ew
    subst ew
    obtain ⟨y, _, rfl, h1, h2⟩ := hY.inv_cons
    cases h2.inv_nil
    refine iff' (by decide +kernel) ?_
    refine ⟨_, rfl, .inl ⟨rfl, _, rfl, iff' (by decide +kernel) ?_⟩⟩
    refine ⟨_, rfl, .inl ⟨rfl, _, rfl, ift (by decide +kernel) ?_⟩⟩
    refine ⟨_, rfl, _, _, rfl, .inr ⟨_, hS, rfl⟩, .inl ⟨rfl, _, rfl, iteT ?_⟩⟩
    refine ⟨_, rfl, _, rfl, a, _, rfl, hS, (fun h => ?_), fun _ r hr => ?_⟩
    · have e : (1 : Nat) = 0 := h.1
      omega
    · exact q _ _ (s0.trans (same_new hr _)) (.tup (SqT.of upd_same) (.cons (h1.tk (tk_same (same_new hr _))) .nil))
  | ret =>
    have ew : w0 = "return" := ew
    subst ew
    cases hY.inv_nil
    refine iff' (by decide +kernel) ?_
    refine ⟨_, rfl, .inl ⟨rfl, _, rfl, iff' (by decide +kernel) ?_⟩⟩
    refine ⟨_, rfl, .inl ⟨rfl, _, rfl, iff' (by decide +kernel) ?_⟩⟩
    refine ⟨_, rfl, .inl ⟨rfl, _, rfl, ift (by decide +kernel) ?_⟩⟩
    refine ⟨_, rfl, _, _, rfl, .inr ⟨_, hS, rfl⟩, .inl ⟨rfl, _, rfl, iteT ?_⟩⟩
    exact ⟨Nat.zero_le _, fun r hr => q _ _ (s0.trans (same_new hr _)) (.tup (SqT.of upd_same) .nil)⟩
  | ens b s =>
    have ew : w0 = "ensure" := ew
    subst ew
    obtain ⟨y, _, rfl, h1, h2⟩ := hY.inv_cons
    obtain ⟨z, _, rfl, h3, h4⟩ := h2.inv_cons
    cases h4.inv_nil
    refine iff' (by decide +kernel) ?_
    refine ⟨_, rfl, .inl ⟨rfl, _, rfl, iff' (by decide +kernel) ?_⟩⟩
    refine ⟨_, rfl, .inl ⟨rfl, _, rfl, iff' (by decide +kernel) ?_⟩⟩
    refine ⟨_, rfl, .inl ⟨rfl, _, rfl, iff' (by decide +kernel) ?_⟩⟩
    refine ⟨_, rfl, .inl ⟨rfl, _, rfl, ift (by decide +kernel) ?_⟩⟩
    refine ⟨_, rfl, _, _, rfl, .inr ⟨_, hS, rfl⟩, .inl ⟨rfl, _, rfl, iteT ?_⟩⟩
    refine ⟨_, rfl, _, rfl, a, _, rfl, hS, (fun h => ?_), fun _ r hr => ?_⟩
    · have e : (1 : Nat) = 0 := h.1
      omega
    · exact q _ _ (s0.trans (same_new hr _)) (.tup (SqT.of upd_same) (.cons (h1.tk (tk_same (same_new hr _))) (.cons (h3.tk (tk_same (same_new hr _))) .nil)))
theorem ok_bodies_of (T : Tp K mg) (F : Std K "bodies_of" "bodies_of" s_bodies_of (He.ga K "bodies_of")) (D_inner_bodies : Dn P w K mg base 5 (He.ga K "inner_bodies") ["thing"] (spInner K)) :
    Dn P w K mg base 6 (He.ga K "bodies_of") ["statement"] (spInner K) := by
  refine dn_mk F sc_bodies_of
    (fun _ _ _ _ _ _ us hl => match us, hl with | [_], _ => rfl)
    (fun vs H Q E h => ?_) fun cdv A outer s H vs Q E hr h => ?_
  · obtain ⟨L, PP, x, s, rfl, _⟩ := h; rfl
  obtain ⟨L, PP, v, st, rfl, hd, hw, nm, q⟩ := h
  refine ⟨_, (pss_one (ps_ret (pe_f D_inner_bodies (hr.mono (by omega)) T.g_inner_bodies (pa_cons (pv 0) pa_nil)))), ?_⟩
  exact ⟨_, rfl, L, PP, v, st, rfl, hd, hw, nm, q⟩
/-- what count_of tells of a body whose depth is at most n -/
def spCount (K : Fg) : Nat → Sp
  | 0 => fun _ _ _ _ => False
  | n + 1 => fun vs H Q _ => ∃ (L P : List Str) (v : V) (b : Bod) (d room : Int), vs = [v, .int d, .int room] ∧ Dat K H v (bodD b) ∧ wfB L P b = true ∧ Nm L P ∧ (depB b : Int) ≤ d ∧ d ≤ (n : Int) ∧ (cntB b : Int) ≤ room ∧ ∀ H', Same H H' → Q (.int (cntB b : Nat)) H'
theorem dats_at {K : Fg} {H : Hp} {α : Type} {f : α → PyData} {vs : List V} {l : List α} (h : Dats K H vs (l.map f)) {i : Nat} {v : V} (e : vs[i]? = some v) : ∃ x, l[i]? = some x ∧ Dat K H v (f x) := by
  obtain ⟨d, h1, h2⟩ := h.get e
  rw [List.getElem?_map] at h1
  cases q : l[i]? with
  | none => rw [q] at h1; cases h1
  | some x => rw [q] at h1; cases h1; exact ⟨x, rfl, h2⟩
theorem take_snoc {α : Type} {l : List α} {i : Nat} {x : α} (h : l[i]? = some x) : l.take (i + 1) = l.take i ++ [x] := by
  obtain ⟨hi, e⟩ := List.getElem?_eq_some_iff.mp h
  rw [← List.take_append_getElem hi, e]
theorem cntB_snoc (b : Bod) (s : Stm) : cntB (b ++ [s]) = cntB b + cntS s := by rw [cntB_append]; simp [cntB]
theorem cntBs_append (a b : List Bod) : cntBs (a ++ b) = cntBs a + cntBs b := by
  induction a with
  | nil => simp [cntBs]
  | cons s r ih => simp only [List.cons_append, cntBs, ih]; omega
theorem cntS_subs (s : Stm) : cntS s = 1 + cntBs (subs s) := by cases s <;> simp [cntS, subs, cntBs]
theorem cntB_take_le (b : Bod) (i : Nat) : cntB (b.take i) ≤ cntB b := by
  have e := cntB_append (b.take i) (b.drop i)
  rw [List.take_append_drop] at e
  omega
theorem cntBs_take_le (b : List Bod) (i : Nat) : cntBs (b.take i) ≤ cntBs b := by
  have e := cntBs_append (b.take i) (b.drop i)
  rw [List.take_append_drop] at e
  omega
theorem depB_mem {b : Bod} {s : Stm} (m : s ∈ b) : depS s ≤ depB b := by
  induction b with
  | nil => cases m
  | cons t r ih =>
    simp only [depB]
    rcases List.mem_cons.mp m with rfl | m
    · omega
    · have := ih m; omega
theorem depBs_mem {b : List Bod} {s : Bod} (m : s ∈ b) : depB s ≤ depBs b := by
  induction b with
  | nil => cases m
  | cons t r ih =>
    simp only [depBs]
    rcases List.mem_cons.mp m with rfl | m
    · omega
    · have := ih m; omega
theorem depS_subs (s : Stm) : depS s = 1 + depBs (subs s) := by cases s <;> simp [depS, subs, depBs]
theorem wfBs_mem {L P : List Str} {b : List Bod} (h : wfBs L P b = true) {s : Bod} (m : s ∈ b) : wfB L P s = true := by
  induction b with
  | nil => cases m
  | cons t r ih =>
    simp only [wfBs, Bool.and_eq_true] at h
    rcases List.mem_cons.mp m with rfl | m
    · exact h.1
    · exact ih h.2 m
theorem wf_subs {L P : List Str} {s : Stm} (h : wfS L P s = true) : wfBs L P (subs s) = true := by
  cases s <;> simp_all [wfS, subs, wfBs]
theorem ok_count (n : Nat) (T : Tp K mg) (F : Std K "count_of" "count_of" s_count_of (He.ga K "count_of")) (D_inner_bodies : Dn P w K mg base 5 (He.ga K "inner_bodies") ["thing"] (spInner K))
    (D_count_of : Dn P w K mg base (6 + n) (He.ga K "count_of") ["thing", "depth", "room"] (spCount K n)) :
    Dn P w K mg base (6 + n + 1) (He.ga K "count_of") ["thing", "depth", "room"] (spCount K (n + 1)) := by
  refine dn_mk F sc_count_of
    (fun _ _ _ _ _ _ us hl => match us, hl with | [_, _, _], _ => rfl)
    (fun vs H Q E h => ?_) fun cdv A outer s H vs Q E hr h => ?_
  · obtain ⟨L, PP, v, b, d, room, rfl, _⟩ := h; rfl
  obtain ⟨L, PP, v, b, d, room, rfl, hd, hw, nm, hdep, hdn, hroom, q⟩ := h
  obtain ⟨a, xs, rfl, hS, hX⟩ := hd.inv_tup
  refine ⟨_, (pss_cons (ps_if (PW.pt (pw_or (pt_not (pt_val (pe_callB (isiK (K := K) rfl) (by rfl) T.b_isinstance (by decide +kernel) (pa_cons (pv 0) (pa_cons (pe_bt (n := "tuple") T.b_tuple) pa_nil))))) (pw_or1 (PW.pt (pw_and (pt_cmpR (oNeNil (hu64 hr)) (pv 0) (pe_tup pa_nil) (nomark _)) (pw_and1 (pt_cmpR (oEqK (K := K) rfl (hu64 hr)) (pv 1) pe_int (nomark _)))))))) (pss_one (ps_ret (pe_op (oAddK (K := K) rfl) (pv 2) pe_int))) pss_nil)
    (pss_cons (ps_set (i := 3) sc_count_of.nd rfl (Or.inl rfl) pe_int)
    (pss_cons (ps_for PassesOwn.never rfl (iTupK (K := K) rfl (pv 0)) (pg_name (i := 4) sc_count_of.nd rfl (Or.inl rfl)) (pss_cons (ps_set (i := 5) sc_count_of.nd rfl (Or.inl rfl) (pe_f D_inner_bodies (hr.mono (by omega)) T.g_inner_bodies (pa_cons (pv 4) pa_nil)))
    (pss_cons (ps_aug (i := 3) sc_count_of.nd rfl (Or.inl rfl) pe_int ip_add)
    (pss_cons (ps_if (PW.pt (pw_or (pt_cmpR op_isN (pv 5) pe_non (nomark _)) (pw_or1 (pt_cmpR op_gt (pv 3) (pv 2) (nomark _))))) (pss_one (ps_ret (pe_op (oAddK (K := K) rfl) (pv 2) pe_int))) pss_nil)
    (pss_one (ps_for PassesOwn.never rfl (iTupK (K := K) rfl (pv 5)) (pg_name (i := 6) sc_count_of.nd rfl (Or.inl rfl)) (pss_cons (ps_aug (i := 3) sc_count_of.nd rfl (Or.inl rfl) (pe_f D_count_of (hr.mono (by omega)) T.g_count_of (pa_cons (pv 6) (pa_cons (pe_op op_sub (pv 1) pe_int) (pa_cons (pe_op op_sub (pv 2) (pv 3)) pa_nil)))) ip_add)
    (pss_one (ps_if (pt_cmpR op_gt (pv 3) (pv 2) (nomark _)) (pss_one (ps_ret (pv 3))) pss_nil)))))))))
    (pss_one (ps_ret (pv 3)))))), ?_⟩
  refine ⟨_, rfl, _, _, _, _, true, rfl, .ty _, tyx_tup hS, kit_ty (by decide +kernel), _, rfl, iteF ?_⟩
  refine ⟨_, rfl, Nat.zero_le _, fun p hp => ⟨a, p, _, rfl, rfl, hd.tk (tk_same (same_new hp _)), SqT.of upd_same, lay_B nm.l nm.p b hw, _, rfl, ite2 (fun h => ⟨_, rfl, .inl ⟨rfl, _, rfl, iff' (decide_eq_false (fun e => ?_)) ?_⟩⟩) (fun _ => iteF ?_)⟩⟩
  · have e : d = 0 := V.int.inj e
    cases b with
    | nil => cases h
    | cons s r =>
      have h1 : 1 ≤ depS s := by rw [depS_subs]; omega
      simp only [depB] at hdep
      omega
  all_goals
    refine ⟨_, rfl, a, rfl, ⟨_, (tk_same (same_new hp _)).seq hS⟩, for_it walk_tup (fun i σ H' => Same H H' ∧ ∃ v4 v5 v6, σ = [some (.ref a), some (.int d), some (.int room), some (.int (cntB (b.take i) : Nat)), v4, v5, v6])
      ⟨same_new hp _, none, none, none, rfl⟩ (fun i σ H' _ ⟨s1, _⟩ => (tk_same s1).seq hS) ?_ ?_⟩
    · rintro i x σ H1 H1' hi ⟨s1, v4, v5, v6, rfl⟩ ⟨rfl, hx⟩
      obtain ⟨st, hst, hdx⟩ := dats_at (by rw [stmDs_map] at hX; exact hX) hx
      have hm := List.mem_of_getElem? hst
      have hws := wfB_mem hw hm
      refine ⟨_, rfl, L, PP, x, st, rfl, hdx.tk (tk_same s1), hws, nm, fun r H2 s2 hr2 => ?_⟩
      obtain ⟨c, zs, rfl, hc, hz⟩ := hr2.inv_tup
      have s12 := s1.trans s2
      have e1 : cntB (b.take (i + 1)) = cntB (b.take i) + cntS st := by rw [take_snoc hst, cntB_snoc]
      have e2 := cntS_subs st
      have e3 := cntB_take_le b (i + 1)
      refine ⟨_, rfl, _, _, rfl, rfl, ?_⟩
      refine ⟨_, rfl, rfl, _, rfl, iff' (decide_eq_false (fun h => by cases h)) ?_⟩
      refine ⟨_, rfl, _, rfl, _, _, rfl, rfl, _, rfl, iff' (decide_eq_false (by dsimp only; omega)) ?_⟩
      refine ⟨_, rfl, c, rfl, ⟨_, hc⟩, for_it walk_tup (fun j σ H' => Same H2 H' ∧ ∃ v6, σ = [some (.ref a), some (.int d), some (.int room), some (.int ((cntB (b.take i) : Nat) + 1 + (cntBs ((subs st).take j) : Nat))), some x, some (.ref c), v6])
        ⟨.refl _, v6, ?_⟩ (fun j σ H' _ ⟨s3, _⟩ => (tk_same s3).seq hc) ?_ ?_⟩
      · simp [cntBs]
      · rintro j y σ H3 H3' hj ⟨s3, v7, rfl⟩ ⟨rfl, hy⟩
        obtain ⟨bd, hbd, hdy⟩ := dats_at (by rw [bodDs_map] at hz; exact hz) hy
        have hm2 := List.mem_of_getElem? hbd
        have w2 := wfBs_mem (wf_subs hws) hm2
        have d1 := depB_mem hm
        have d2 := depS_subs st
        have d3 := depBs_mem hm2
        have e4 : cntBs ((subs st).take (j + 1)) = cntBs ((subs st).take j) + cntB bd := by rw [take_snoc hbd, cntBs_append]; simp [cntBs]
        have e5 := cntBs_take_le (subs st) (j + 1)
        refine ⟨_, rfl, _, rfl, _, rfl, _, _, rfl, rfl, _, rfl, _, rfl, _, _, rfl, rfl, ?_⟩
        cases n with
        | zero => omega
        | succ m =>
          refine ⟨L, PP, y, bd, d - 1, _, rfl, hdy.tk (tk_same s3), w2, nm, by omega, by omega, by omega, fun H4 s4 => ?_⟩
          refine ⟨_, _, rfl, rfl, ?_⟩
          refine ⟨_, rfl, _, rfl, _, _, rfl, rfl, _, rfl, iff' (decide_eq_false (by dsimp only; omega)) ?_⟩
          exact ⟨s3.trans s4, some y, congrArg (fun z => [some (V.ref a), some (V.int d), some (V.int room), some (V.int z), some x, some (V.ref c), some y]) (by dsimp only; rw [e4]; omega)⟩
      · rintro σ H3 ⟨s3, v7, rfl⟩
        refine ⟨s12.trans s3, some x, some (.ref c), v7, congrArg (fun z => [some (V.ref a), some (V.int d), some (V.int room), some (V.int z), some x, some (V.ref c), v7]) ?_⟩
        have e6 : (subs st).length = zs.length := by rw [hz.length, bodDs_map, List.length_map]
        rw [← e6, List.take_length, e1, e2]
        omega
    · rintro σ H1 ⟨s1, v4, v5, v6, rfl⟩
      have e6 : b.length = xs.length := by rw [hX.length, stmDs_map, List.length_map]
      refine ⟨_, rfl, ?_⟩
      rw [← e6, List.take_length]
      exact q H1 s1
/-- every depth -/
theorem all_count (T : Tp K mg) (F : Std K "count_of" "count_of" s_count_of (He.ga K "count_of")) (D_inner_bodies : Dn P w K mg base 5 (He.ga K "inner_bodies") ["thing"] (spInner K)) :
    ∀ n : Nat, Dn P w K mg base (6 + n) (He.ga K "count_of") ["thing", "depth", "room"] (spCount K n)
  | 0 => (dn_never F
    (fun _ _ _ _ _ _ us hl => match us, hl with | [_, _, _], _ => rfl)
    ).mono (by omega)
  | n + 1 => ok_count n T F D_inner_bodies (all_count T F D_inner_bodies n)
end
end PK

set_option linter.all false
set_option Elab.async false
set_option maxRecDepth 100000
set_option maxHeartbeats 4000000
/-! KQ: programs. -/
namespace PK
open PySem PySem.Spec PyProof.Rows L2
structure Prog where
  ls : List Str
  ps : List (Str × Bod)
abbrev Prog.heads (p : Prog) : List Str := p.ps.map (·.1)
def procD (q : Str × Bod) : PyData := .tuple [.str q.1, bodD q.2]
def progD (p : Prog) : PyData := .tuple [.tuple (p.ls.map .str), .tuple (p.ps.map procD)]
def cntP (l : List (Str × Bod)) : Nat := (l.map fun q => cntB q.2).sum
structure Valid (p : Prog) : Prop where
  l1 : 1 ≤ p.ls.length
  l2 : p.ls.length ≤ 20
  p1 : 1 ≤ p.ps.length
  p2 : p.ps.length ≤ 40
  nm : Nm p.ls p.heads
  dl : p.ls.Nodup
  dh : p.heads.Nodup
  wf : ∀ q ∈ p.ps, wfB p.ls p.heads q.2 = true
  dep : ∀ q ∈ p.ps, depB q.2 ≤ 12
  cnt : cntP p.ps ≤ 400
  pl : ∀ q ∈ p.ps, 1 + plB 0 q.2 ≤ 300
def spProgT (K : Fg) (r : V) : Sp := fun vs H Q _ => ∃ (v : V) (p : Prog), vs = [v] ∧ Dat K H v (progD p) ∧ Valid p ∧ ∀ H', Same H H' → Q r H'
theorem prog_get {K : Fg} {H : Hp} {v : V} {p : Prog} (h : Dat K H v (progD p)) : ∃ a al ap ls ps, v = .ref a ∧ SqT K H a [.ref al, .ref ap] ∧ SqT K H al ls ∧ Dats K H ls (p.ls.map .str) ∧ SqT K H ap ps ∧ Dats K H ps (p.ps.map procD) := by
  obtain ⟨a, xs, rfl, h1, h2⟩ := h.inv_tup
  obtain ⟨x, xs, rfl, h3, h4⟩ := h2.inv_cons
  obtain ⟨y, xs, rfl, h5, h6⟩ := h4.inv_cons
  cases h6.inv_nil
  obtain ⟨al, ls, rfl, h7, h8⟩ := h3.inv_tup
  obtain ⟨ap, ps, rfl, h9, h10⟩ := h5.inv_tup
  exact ⟨a, al, ap, ls, ps, rfl, h1, h7, h8, h9, h10⟩
theorem proc_get {K : Fg} {H : Hp} {v : V} {q : Str × Bod} (h : Dat K H v (procD q)) : ∃ a b, v = .ref a ∧ SqT K H a [.str q.1, b] ∧ Dat K H b (bodD q.2) := by
  obtain ⟨a, xs, rfl, h1, h2⟩ := h.inv_tup
  obtain ⟨x, xs, rfl, h3, h4⟩ := h2.inv_cons
  obtain ⟨y, xs, rfl, h5, h6⟩ := h4.inv_cons
  cases h6.inv_nil
  rw [h3.inv_str] at h1
  exact ⟨a, y, rfl, h1, h5⟩
theorem cntP_take {l : List (Str × Bod)} {i : Nat} {q : Str × Bod} (h : l[i]? = some q) : cntP (l.take (i + 1)) = cntP (l.take i) + cntB q.2 := by
  rw [take_snoc h]; unfold cntP; rw [List.map_append, List.sum_append]; simp
theorem cntP_take_le (l : List (Str × Bod)) (i : Nat) : cntP (l.take i) ≤ cntP l := by
  unfold cntP
  conv => rhs; rw [← List.take_append_drop i l, List.map_append, List.sum_append]
  omega
section
variable {P : Program} {w : World} {K : Fg} {mg : Str → Option Value} {base : Heap}
theorem ok_is_program (T : Tp K mg) (F : Std K "is_program" "is_program" s_is_program (He.ga K "is_program")) (D_is_row : Dn P w K mg base 1 (He.ga K "is_row") ["thing", "low", "high"] (spIsRow K))
    (D_is_program_name : Dn P w K mg base 4 (He.ga K "is_program_name") ["thing"] (spYes OkN)) (D_count_of : Dn P w K mg base 19 (He.ga K "count_of") ["thing", "depth", "room"] (spCount K 13)) :
    Dn P w K mg base 20 (He.ga K "is_program") ["thing"] (spProgT K (.bl true)) := by
  refine dn_mk F sc_is_program
    (fun _ _ _ _ _ _ us hl => match us, hl with | [_], _ => rfl)
    (fun vs H Q E h => ?_) fun cdv A outer s H vs Q E hr h => ?_
  · obtain ⟨v, p, rfl, _⟩ := h; rfl
  obtain ⟨v, p, rfl, hd, vp, q⟩ := h
  obtain ⟨a, al, ap, ls, ps, rfl, hS, hL, hLd, hP, hPd⟩ := prog_get hd
  have ll : ls.length = p.ls.length := by rw [hLd.length, List.length_map]
  have lp : ps.length = p.ps.length := by rw [hPd.length, List.length_map]
  have v1 := vp.l1
  have v2 := vp.l2
  have v3 := vp.p1
  have v4 := vp.p2
  refine ⟨_, (pss_cons (ps_if (PW.pt (pw_or (pt_not (pt_val (pe_f D_is_row (hr.mono (by omega)) T.g_is_row (pa_cons (pv 0) (pa_cons pe_int (pa_cons pe_int pa_nil)))))) (pw_or (pt_not (pt_val (pe_f D_is_row (hr.mono (by omega)) T.g_is_row (pa_cons (pe_ix (ixK (K := K) rfl) (pv 0) pe_int (fun _ _ => rfl)) (pa_cons pe_int (pa_cons (pe_kn T.c_MOST_LETTERS) pa_nil)))))) (pw_or1 (pt_not (pt_val (pe_f D_is_row (hr.mono (by omega)) T.g_is_row (pa_cons (pe_ix (ixK (K := K) rfl) (pv 0) pe_int (fun _ _ => rfl)) (pa_cons pe_int (pa_cons (pe_kn T.c_MOST_PROCEDURES) pa_nil)))))))))) (pss_one (ps_ret pe_bl)) pss_nil)
    (pss_cons (ps_if (pt_not (pt_val (pe_callB (allK (K := K) rfl rfl) (by rfl) T.b_all (by decide +kernel) (pa_cons (pe_lc (own := [("name", 1)]) (tt := tYes) rfl sc_is_program.nd (iTupK (K := K) rfl (pe_ix (ixK (K := K) rfl) (pv 0) pe_int (fun _ _ => rfl))) (blkOk_by (N := N_is_program) (sc := defScope s_is_program) (own := [("name", 1)]) (by decide +kernel)) (fun _ _ _ _ _ => (pg_name (i := 1) sc_is_program.nd rfl (Or.inl rfl))) (fun _ _ _ _ _ => pts_nil) (fun _ _ _ _ _ => (pe_f D_is_program_name (hr.mono (by omega)) T.g_is_program_name (pa_cons (pv 1) pa_nil)))) pa_nil)))) (pss_one (ps_ret pe_bl)) pss_nil)
    (pss_cons (ps_set (i := 2) sc_is_program.nd rfl (Or.inl rfl) (pe_kn T.c_MOST_STATEMENTS))
    (pss_cons (ps_for PassesOwn.never rfl (iTupK (K := K) rfl (pe_ix (ixK (K := K) rfl) (pv 0) pe_int (fun _ _ => rfl))) (pg_name (i := 3) sc_is_program.nd rfl (Or.inl rfl)) (pss_cons (ps_if (PW.pt (pw_or (pt_not (pt_val (pe_f D_is_row (hr.mono (by omega)) T.g_is_row (pa_cons (pv 3) (pa_cons pe_int (pa_cons pe_int pa_nil)))))) (pw_or1 (pt_not (pt_val (pe_f D_is_program_name (hr.mono (by omega)) T.g_is_program_name (pa_cons (pe_ix (ixK (K := K) rfl) (pv 3) pe_int (fun _ _ => rfl)) pa_nil))))))) (pss_one (ps_ret pe_bl)) pss_nil)
    (pss_cons (ps_aug (i := 2) sc_is_program.nd rfl (Or.inl rfl) (pe_f D_count_of (hr.mono (by omega)) T.g_count_of (pa_cons (pe_ix (ixK (K := K) rfl) (pv 3) pe_int (fun _ _ => rfl)) (pa_cons (pe_kn T.c_DEEPEST) (pa_cons (pv 2) pa_nil)))) ip_sub)
    (pss_one (ps_if (pt_cmpR op_lt (pv 2) pe_int (nomark _)) (pss_one (ps_ret pe_bl)) pss_nil)))))
    (pss_one (ps_ret pe_bl)))))), ?_⟩
  refine ⟨_, rfl, a, _, 2, 2, rfl, hS, (by simp), (by simp), _, rfl, iteF ?_⟩
  refine ⟨_, rfl, .inr (.inl ⟨a, _, 0, _, rfl, rfl, hS, atI_nat (j := 0) rfl, al, ls, 1, 20, rfl, hL, (by omega), (by omega), _, rfl, iteF ?_⟩)⟩
  refine ⟨_, rfl, .inr (.inl ⟨a, _, 1, _, rfl, rfl, hS, atI_nat (j := 1) rfl, ap, ps, 1, 40, rfl, hP, (by omega), (by omega), _, rfl, iteF ?_⟩)⟩
  refine ⟨_, rfl, .inr (.inl ⟨a, _, 0, _, rfl, rfl, hS, atI_nat (j := 0) rfl, al, rfl, ⟨_, hL⟩, fun D nD => lc_acc walk_tup [] (fun i acc _ => ∃ bs : List Bool, acc = bs.map V.bl ∧ bs.all id = true) nD (fun _ _ H1 _ t _ => t.seq hL) (fun _ _ _ _ _ _ _ p => p) ⟨[], rfl, rfl⟩ ?_ (by simp) ?_ ?_⟩)⟩
  · rw [ll]; exact Nat.lt_of_le_of_lt v2 (by decide)
  · rintro i y acc H1 H2 hi k t hD hl ⟨bs, rfl, hb⟩ ⟨rfl, hy⟩ N E1 hN _
    obtain ⟨x, hx, hyd⟩ := dats_at hLd hy
    rw [hyd.inv_str]
    exact ⟨rfl, tyes ⟨_, rfl, x, rfl, vp.nm.l x (List.mem_of_getElem? hx), fun H3 s3 => hN _ _ (.of s3) (tk_same s3) ⟨bs ++ [true], by simp, by simp [hb]⟩⟩⟩
  · rintro H1 acc k t hD _ ⟨bs, rfl, hb⟩
    refine ⟨D, bs, rfl, SqL.of hD, _, rfl, iff' (by rw [hb]; rfl) ?_⟩
    have s1 := k.nil
    refine ⟨_, rfl, .inr (.inl ⟨a, _, 1, _, rfl, rfl, t.seq hS, atI_nat (j := 1) rfl, ap, rfl, ⟨_, t.seq hP⟩, for_it walk_tup (fun i σ H' => Same H H' ∧ ∃ v1 v3, σ = [some (.ref a), v1, some (.int (400 - (cntP (p.ps.take i) : Nat))), v3])
      ⟨s1, none, none, rfl⟩ (fun i σ H' _ ⟨s2, _⟩ => (tk_same s2).seq hP) ?_ ?_⟩)⟩
    · rintro i x σ H2 H2' hi ⟨s2, v1, v3, rfl⟩ ⟨rfl, hx⟩
      obtain ⟨pr, hpr, hxd⟩ := dats_at hPd hx
      have hm := List.mem_of_getElem? hpr
      obtain ⟨c, bv, rfl, hc, hb⟩ := proc_get (hxd.tk (tk_same s2))
      have e1 := cntP_take hpr
      have e2 := cntP_take_le p.ps (i + 1)
      have e3 := vp.cnt
      have e4 := vp.dep pr hm
      refine ⟨_, rfl, c, _, 2, 2, rfl, hc, (by simp), (by simp), _, rfl, iteF ?_⟩
      refine ⟨_, rfl, .inr (.inl ⟨c, _, 0, _, rfl, rfl, hc, atI_nat (j := 0) rfl, pr.1, rfl, vp.nm.p _ (List.mem_map.mpr ⟨pr, hm, rfl⟩), fun H3 s3 => ⟨_, rfl, iteF ?_⟩⟩)⟩
      refine ⟨_, rfl, _, rfl, .inr (.inl ⟨c, _, 1, _, rfl, rfl, (tk_same s3).seq hc, atI_nat (j := 1) rfl, _, rfl, ?_⟩)⟩
      refine ⟨p.ls, p.heads, bv, pr.2, 12, _, rfl, hb.tk (tk_same s3), vp.wf pr hm, vp.nm, by omega, Int.le_refl _, by omega, fun H4 s4 => ?_⟩
      refine ⟨_, _, rfl, rfl, ?_⟩
      refine ⟨_, rfl, _, _, rfl, rfl, _, rfl, iff' (decide_eq_false (by dsimp only; omega)) ?_⟩
      exact ⟨s2.trans (s3.trans s4), v1, some (.ref c), congrArg (fun z => [some (V.ref a), v1, some (V.int z), some (.ref c)]) (by dsimp only; rw [e1]; omega)⟩
    · rintro σ H2 ⟨s2, v1, v3, rfl⟩
      exact q _ s2
theorem ok_need_program (T : Tp K mg) (F : Std K "need_program" "need_program" s_need_program (He.ga K "need_program")) (D_is_program : Dn P w K mg base 20 (He.ga K "is_program") ["thing"] (spProgT K (.bl true))) :
    Dn P w K mg base 21 (He.ga K "need_program") ["program"] (spProgT K .non) := by
  refine dn_mk F sc_need_program
    (fun _ _ _ _ _ _ us hl => match us, hl with | [_], _ => rfl)
    (fun vs H Q E h => ?_) fun cdv A outer s H vs Q E hr h => ?_
  · obtain ⟨v, p, rfl, _⟩ := h; rfl
  obtain ⟨v, p, rfl, hd, vp, q⟩ := h
  refine ⟨_, (pss_one (ps_if (pt_not (pt_val (pe_f D_is_program (hr.mono (by omega)) T.g_is_program (pa_cons (pv 0) pa_nil)))) (pss_one ps_never) pss_nil)), ?_⟩
  exact ⟨_, rfl, v, p, rfl, hd, vp, fun H1 s1 => ⟨_, rfl, iteF (q _ s1)⟩⟩
end
end PK

set_option linter.all false
set_option Elab.async false
set_option maxRecDepth 100000
set_option maxHeartbeats 4000000
/-! KL: how a body is laid: plain. -/
namespace PK
open PySem PySem.Spec PyProof.Rows L2
inductive Pl where
  | fin
  | ltr (x : Int) (n : Nat)
  | call (i n : Nat)
  | fork (ns : List Nat)
def natD (n : Nat) : PyData := .int (n : Int)
def plD : Pl → PyData
  | .fin => .tuple [.str "end"]
  | .ltr x n => .tuple [.str "letter", .int x, natD n]
  | .call i n => .tuple [.str "call", natD i, natD n]
  | .fork ns => .tuple [.str "fork", .tuple (ns.map natD)]
def oplD : Option Pl → PyData
  | none => .none
  | some p => plD p
abbrev Pls := List (Option Pl)
abbrev Lay := Nat → Pls → Nat × Pls
/-- the numbers of letters and procedures -/
structure Ix where
  l : Str → Int
  h : Str → Nat
def actX (I : Ix) (u : Bool) (x : Str) : Int := if u then -(I.l x) else I.l x
def goAll : List Lay → Lay
  | [], g, ps => (g, ps)
  | l :: r, g, ps => goAll r (l g ps).1 (l g ps).2
mutual
def layS (I : Ix) : Stm → List Lay → Lay
  | .act u x, _, g, ps => (ps.length, ps ++ [some (.ltr (actX I u x) g)])
  | .call x, _, g, ps => (ps.length, ps ++ [some (.call (I.h x) g)])
  | .cho bs, S, g, ps => ((layBs I bs S g ps).2.length, (layBs I bs S g ps).2 ++ [some (.fork (layBs I bs S g ps).1)])
  | .loop b, S, g, ps => (ps.length, (layB I b S ps.length (ps ++ [none])).2.set ps.length (some (.fork [(layB I b S ps.length (ps ++ [none])).1, g])))
  | .ret, S, _, ps => goAll S 0 ps
  | .ens b s, S, g, ps => layB I b (S ++ [layB I s []]) (layB I s [] g ps).1 (layB I s [] g ps).2
def layB (I : Ix) : List Stm → List Lay → Lay
  | [], _, g, ps => (g, ps)
  | s :: r, S, g, ps => layS I s S (layB I r S g ps).1 (layB I r S g ps).2
def layBs (I : Ix) : List (List Stm) → List Lay → Nat → Pls → List Nat × Pls
  | [], _, _, ps => ([], ps)
  | b :: r, S, g, ps => ((layB I b S g ps).1 :: (layBs I r S g (layB I b S g ps).2).1, (layBs I r S g (layB I b S g ps).2).2)
end
/-- the second bodies as layers -/
def secL (I : Ix) (S : List Bod) : List Lay := S.map fun s => layB I s []
def secN (S : List Bod) : Nat := (S.map (plB 0)).sum
theorem secL_snoc (I : Ix) (S : List Bod) (s : Bod) : secL I (S ++ [s]) = secL I S ++ [layB I s []] := by simp [secL]
theorem secN_snoc (S : List Bod) (s : Bod) : secN (S ++ [s]) = secN S + plB 0 s := by simp [secN]
/-! ### how many places -/
def Len (l : Lay) (n : Nat) : Prop := ∀ g ps, (l g ps).2.length = ps.length + n
inductive Lens : List Lay → Nat → Prop
  | nil : Lens [] 0
  | snoc {S : List Lay} {n m : Nat} {l : Lay} : Lens S n → Len l m → Lens (S ++ [l]) (n + m)
theorem goAll_snoc (S : List Lay) (l : Lay) (g : Nat) (ps : Pls) : goAll (S ++ [l]) g ps = l (goAll S g ps).1 (goAll S g ps).2 := by
  induction S generalizing g ps with
  | nil => rfl
  | cons a r ih => simp only [List.cons_append, goAll]; exact ih _ _
theorem Lens.all {S : List Lay} {n : Nat} (h : Lens S n) : Len (goAll S) n := by
  induction h with
  | nil => intro g ps; rfl
  | snoc h1 h2 ih => intro g ps; rw [goAll_snoc, h2, ih]; omega
mutual
theorem lenS (I : Ix) : ∀ (s : Stm) (S : List Lay) (n : Nat), Lens S n → Len (layS I s S) (plS n s)
  | .act _ _, S, n, _ => fun g ps => by simp [layS, plS]
  | .call _, S, n, _ => fun g ps => by simp [layS, plS]
  | .cho bs, S, n, h => fun g ps => by
    have e := lenBs I bs S n h g ps
    simp only [layS, plS, List.length_append, List.length_singleton, e]; omega
  | .loop b, S, n, h => fun g ps => by
    have e := lenB I b S n h ps.length (ps ++ [none])
    simp only [layS, plS, List.length_set, e, List.length_append, List.length_singleton]; omega
  | .ret, S, n, h => fun g ps => by simp only [layS, plS]; exact h.all 0 ps
  | .ens b s, S, n, h => fun g ps => by
    have e1 := lenB I s [] 0 .nil
    have e2 := lenB I b (S ++ [layB I s []]) (n + plB 0 s) (h.snoc e1)
    simp only [layS, plS, e2 _ _, e1 _ _]; omega
theorem lenB (I : Ix) : ∀ (b : List Stm) (S : List Lay) (n : Nat), Lens S n → Len (layB I b S) (plB n b)
  | [], _, _, _ => fun g ps => by simp [layB, plB]
  | s :: r, S, n, h => fun g ps => by
    have e1 := lenB I r S n h g ps
    have e2 := lenS I s S n h (layB I r S g ps).1 (layB I r S g ps).2
    simp only [layB, plB, e2, e1]; omega
theorem lenBs (I : Ix) : ∀ (b : List (List Stm)) (S : List Lay) (n : Nat), Lens S n → ∀ g ps, (layBs I b S g ps).2.length = ps.length + plBs n b
  | [], _, _, _, g, ps => by simp [layBs, plBs]
  | b :: r, S, n, h, g, ps => by
    have e1 := lenB I b S n h g ps
    have e2 := lenBs I r S n h g (layB I b S g ps).2
    simp only [layBs, plBs, e2, e1]; omega
end
theorem lens_sec (I : Ix) (S : List Bod) : Lens (secL I S) (secN S) := by
  have go : ∀ (r : List Bod), Lens (secL I r.reverse) (secN r.reverse) := by
    intro r
    induction r with
    | nil => exact .nil
    | cons s r ih => rw [List.reverse_cons, secL_snoc, secN_snoc]; exact ih.snoc (lenB I s [] 0 .nil)
  have := go S.reverse
  rwa [List.reverse_reverse] at this
/-! ### what stands there: the holes are filled; calls lead to procedures -/
/-- behind l the places of ps stand as before, what is new is no hole and its calls lead below m -/
def okO (m : Nat) : Option Pl → Prop
  | none => False
  | some (.call i _) => i < m
  | some .fin => False
  | some (.fork ns) => ns.length ≤ 8
  | some (.ltr _ _) => True
theorem layBs_len1 (I : Ix) (S : List Lay) (g : Nat) : ∀ (b : List (List Stm)) (ps : Pls), (layBs I b S g ps).1.length = b.length
  | [], _ => rfl
  | b :: r, ps => by simp only [layBs, List.length_cons]; rw [layBs_len1 I S g r]
def Add (m : Nat) (ps ps' : Pls) : Prop := ∃ r, ps' = ps ++ r ∧ ∀ o ∈ r, okO m o
theorem Add.refl (m : Nat) (ps : Pls) : Add m ps ps := ⟨[], by simp, by simp⟩
theorem Add.trans {m : Nat} {a b c : Pls} (h1 : Add m a b) (h2 : Add m b c) : Add m a c := by
  obtain ⟨r, rfl, h1⟩ := h1
  obtain ⟨t, rfl, h2⟩ := h2
  exact ⟨r ++ t, by simp, fun o ho => (List.mem_append.mp ho).elim (h1 o) (h2 o)⟩
theorem Add.one {m : Nat} {ps : Pls} {o : Option Pl} (h : okO m o) : Add m ps (ps ++ [o]) := ⟨[o], rfl, by simpa using h⟩
def AddL (m : Nat) (l : Lay) : Prop := ∀ g ps, Add m ps (l g ps).2
theorem addAll {m : Nat} : ∀ {S : List Lay}, (∀ l ∈ S, AddL m l) → AddL m (goAll S)
  | [], _ => fun g ps => .refl _ _
  | l :: r, h => fun g ps => (h l (by simp) g ps).trans (addAll (fun k hk => h k (List.mem_cons_of_mem _ hk)) _ _)
mutual
theorem addS (I : Ix) (m : Nat) (P : List Str) (L : List Str) (hi : ∀ x ∈ P, I.h x < m) : ∀ (s : Stm) (S : List Lay), wfS L P s = true → (∀ l ∈ S, AddL m l) → AddL m (layS I s S)
  | .act _ _, S, _, _ => fun g ps => by simp only [layS]; exact .one trivial
  | .call x, S, h, _ => fun g ps => by simp only [layS]; exact .one (hi x (of_decide_eq_true h))
  | .cho bs, S, h, k => fun g ps => by
    simp only [wfS, Bool.and_eq_true] at h
    simp only [layS]
    exact (addBs I m P L hi bs S h.2.2 k g ps).trans (.one (by show (layBs I bs S g ps).1.length ≤ 8; rw [layBs_len1]; exact of_decide_eq_true h.2.1))
  | .loop b, S, h, k => fun g ps => by
    simp only [wfS] at h
    simp only [layS]
    obtain ⟨r, e, hr⟩ := addB I m P L hi b S h k ps.length (ps ++ [none])
    rw [e, List.append_assoc, List.set_append_right _ _ (Nat.le_refl _), Nat.sub_self]
    exact ⟨_, rfl, by
      intro o ho
      rcases List.mem_cons.mp ho with rfl | ho
      · show 2 ≤ 8; decide
      · exact hr o ho⟩
  | .ret, S, _, k => fun g ps => by simp only [layS]; exact addAll k 0 ps
  | .ens b s, S, h, k => fun g ps => by
    simp only [wfS, Bool.and_eq_true] at h
    simp only [layS]
    have e1 := addB I m P L hi s [] h.2.1 (by simp)
    refine (e1 g ps).trans (addB I m P L hi b (S ++ [layB I s []]) h.1 (fun l hl => ?_) _ _)
    rcases List.mem_append.mp hl with hl | hl
    · exact k l hl
    · rw [List.mem_singleton.mp hl]; exact e1
theorem addB (I : Ix) (m : Nat) (P : List Str) (L : List Str) (hi : ∀ x ∈ P, I.h x < m) : ∀ (b : List Stm) (S : List Lay), wfB L P b = true → (∀ l ∈ S, AddL m l) → AddL m (layB I b S)
  | [], _, _, _ => fun g ps => by simp only [layB]; exact .refl _ _
  | s :: r, S, h, k => fun g ps => by
    simp only [wfB, Bool.and_eq_true] at h
    simp only [layB]
    exact (addB I m P L hi r S h.2 k g ps).trans (addS I m P L hi s S h.1 k _ _)
theorem addBs (I : Ix) (m : Nat) (P : List Str) (L : List Str) (hi : ∀ x ∈ P, I.h x < m) : ∀ (b : List (List Stm)) (S : List Lay), wfBs L P b = true → (∀ l ∈ S, AddL m l) → ∀ g ps, Add m ps (layBs I b S g ps).2
  | [], _, _, _, g, ps => by simp only [layBs]; exact .refl _ _
  | b :: r, S, h, k, g, ps => by
    simp only [wfBs, Bool.and_eq_true] at h
    simp only [layBs]
    exact (addB I m P L hi b S h.1 k g ps).trans (addBs I m P L hi r S h.2 k g _)
end
/-- a procedure, laid -/
def layP (I : Ix) (b : Bod) : Nat × Pls := layB I b [] 0 [some .fin]
theorem layP_len (I : Ix) (b : Bod) : (layP I b).2.length = 1 + plB 0 b := lenB I b [] 0 .nil 0 [some .fin]
theorem layP_ok {I : Ix} {m : Nat} {P L : List Str} (hi : ∀ x ∈ P, I.h x < m) {b : Bod} (h : wfB L P b = true) : ∃ r, (layP I b).2 = some .fin :: r ∧ ∀ o ∈ r, okO m o := by
  obtain ⟨r, e, hr⟩ := addB I m P L hi b [] h (by simp) 0 [some .fin]
  exact ⟨r, e, hr⟩
end PK

set_option linter.all false
set_option Elab.async false
set_option maxRecDepth 100000
set_option maxHeartbeats 4000000
/-! KY: the places counted. -/
namespace PK
open PySem PySem.Spec PyProof.Rows L2
/-- places_in of a body whose depth is below n -/
def spPl (K : Fg) : Nat → Sp
  | 0 => fun _ _ _ _ => False
  | n + 1 => fun vs H Q _ => ∃ (L P : List Str) (v : V) (b : Bod) (rt : Nat), vs = [v, .int rt] ∧ Dat K H v (bodD b) ∧ wfB L P b = true ∧ Nm L P ∧ depB b ≤ n ∧ ∀ H', Same H H' → Q (.int (plB rt b : Nat)) H'
theorem plB_append (rt : Nat) (a b : Bod) : plB rt (a ++ b) = plB rt a + plB rt b := by
  induction a with
  | nil => simp [plB]
  | cons s r ih => simp only [List.cons_append, plB, ih]; omega
theorem plB_snoc (rt : Nat) (b : Bod) (s : Stm) : plB rt (b ++ [s]) = plB rt b + plS rt s := by rw [plB_append]; simp [plB]
theorem plBs_map (rt : Nat) (bs : List Bod) : plBs rt bs = (bs.map (plB rt)).sum := by
  induction bs with
  | nil => rfl
  | cons b r ih => simp [plBs, ih]
theorem plS_subs (rt : Nat) : ∀ s : Stm, s ≠ .ret → (∀ b c, s ≠ .ens b c) → plS rt s = 1 + plBs rt (subs s)
  | .act _ _, _, _ => rfl
  | .call _, _, _ => rfl
  | .cho _, _, _ => rfl
  | .loop b, _, _ => by simp [plS, subs, plBs]
  | .ret, h, _ => absurd rfl h
  | .ens b s, _, h => absurd rfl (h b s)
theorem sum_map_cast (l : List Nat) : (l.map fun n : Nat => (n : Int)).sum = ((l.sum : Nat) : Int) := by
  induction l with
  | nil => rfl
  | cons a r ih => simp [ih]
theorem wrd_other : ∀ st : Stm, st ≠ .ret → (∀ b c, st ≠ .ens b c) → wrd st ≠ "return" ∧ wrd st ≠ "ensure"
  | .act true _, _, _ => show ("undo" : Str) ≠ "return" ∧ ("undo" : Str) ≠ "ensure" by decide +kernel
  | .act false _, _, _ => show ("do" : Str) ≠ "return" ∧ ("do" : Str) ≠ "ensure" by decide +kernel
  | .call _, _, _ => show ("call" : Str) ≠ "return" ∧ ("call" : Str) ≠ "ensure" by decide +kernel
  | .cho _, _, _ => show ("choose" : Str) ≠ "return" ∧ ("choose" : Str) ≠ "ensure" by decide +kernel
  | .loop _, _, _ => show ("loop" : Str) ≠ "return" ∧ ("loop" : Str) ≠ "ensure" by decide +kernel
  | .ret, h, _ => absurd rfl h
  | .ens b c, _, h => absurd rfl (h b c)
section
variable {P : Program} {w : World} {K : Fg} {mg : Str → Option Value} {base : Heap}
theorem ok_places_in (n : Nat) (T : Tp K mg) (F : Std K "places_in" "places_in" s_places_in (He.ga K "places_in")) (D_bodies_of : Dn P w K mg base 6 (He.ga K "bodies_of") ["statement"] (spInner K))
    (D_places_in : Dn P w K mg base (7 + n) (He.ga K "places_in") ["body", "returned"] (spPl K n)) :
    Dn P w K mg base (7 + n + 1) (He.ga K "places_in") ["body", "returned"] (spPl K (n + 1)) := by
  refine dn_mk F sc_places_in
    (fun _ _ _ _ _ _ us hl => match us, hl with | [_, _], _ => rfl)
    (fun vs H Q E h => ?_) fun cdv A outer s H vs Q E hr h => ?_
  · obtain ⟨L, PP, v, b, rt, rfl, _⟩ := h; rfl
  obtain ⟨L, PP, v, b, rt, rfl, hd, hw, nm, hdep, q⟩ := h
  obtain ⟨a, xs, rfl, hS, hX⟩ := hd.inv_tup
  refine ⟨_, (pss_cons (ps_set (i := 2) sc_places_in.nd rfl (Or.inl rfl) pe_int)
    (pss_cons (ps_for PassesOwn.never rfl (iTupK (K := K) rfl (pv 0)) (pg_name (i := 3) sc_places_in.nd rfl (Or.inl rfl)) (pss_one (ps_if (pt_cmpR (oEqK (K := K) rfl (hu64 hr)) (pe_ix (ixK (K := K) rfl) (pv 3) pe_int (fun _ _ => rfl)) pe_str (nomark _)) (pss_one (ps_aug (i := 2) sc_places_in.nd rfl (Or.inl rfl) (pv 1) ip_add)) (pss_one (ps_if (pt_cmpR (oEqK (K := K) rfl (hu64 hr)) (pe_ix (ixK (K := K) rfl) (pv 3) pe_int (fun _ _ => rfl)) pe_str (nomark _)) (pss_cons (ps_set (i := 4) sc_places_in.nd rfl (Or.inl rfl) (pe_f D_places_in (hr.mono (by omega)) T.g_places_in (pa_cons (pe_ix (ixK (K := K) rfl) (pv 3) pe_int (fun _ _ => rfl)) (pa_cons pe_int pa_nil))))
    (pss_one (ps_aug (i := 2) sc_places_in.nd rfl (Or.inl rfl) (pe_op (oAddK (K := K) rfl) (pv 4) (pe_f D_places_in (hr.mono (by omega)) T.g_places_in (pa_cons (pe_ix (ixK (K := K) rfl) (pv 3) pe_int (fun _ _ => rfl)) (pa_cons (pe_op (oAddK (K := K) rfl) (pv 1) (pv 4)) pa_nil)))) ip_add))) (pss_one (ps_aug (i := 2) sc_places_in.nd rfl (Or.inl rfl) (pe_op (oAddK (K := K) rfl) pe_int (pe_callB (sumK (K := K) rfl rfl) (by rfl) T.b_sum (by decide +kernel) (pa_cons (pe_lc (own := [("inner", 5)]) (tt := tYes) rfl sc_places_in.nd (iTupK (K := K) rfl (pe_f D_bodies_of (hr.mono (by omega)) T.g_bodies_of (pa_cons (pv 3) pa_nil))) (blkOk_by (N := N_places_in) (sc := defScope s_places_in) (own := [("inner", 5)]) (by decide +kernel)) (fun _ _ _ _ _ => (pg_name (i := 5) sc_places_in.nd rfl (Or.inl rfl))) (fun _ _ _ _ _ => pts_nil) (fun _ _ _ _ _ => (pe_f D_places_in (hr.mono (by omega)) T.g_places_in (pa_cons (pv 5) (pa_cons (pv 1) pa_nil))))) pa_nil))) ip_add)))))))
    (pss_one (ps_ret (pv 2))))), ?_⟩
  refine ⟨_, rfl, a, rfl, ⟨_, hS⟩, for_it walk_tup (fun i σ H' => Same H H' ∧ ∃ v3 v4 v5, σ = [some (.ref a), some (.int rt), some (.int (plB rt (b.take i) : Nat)), v3, v4, v5])
      ⟨.refl _, none, none, none, rfl⟩ (fun i σ H' _ ⟨s1, _⟩ => (tk_same s1).seq hS) ?_ ?_⟩
  · rintro i x σ H1 H1' hi ⟨s1, v3, v4, v5, rfl⟩ ⟨rfl, hx⟩
    obtain ⟨st, hst, hdx⟩ := dats_at (by rw [stmDs_map] at hX; exact hX) hx
    have hm := List.mem_of_getElem? hst
    have hws := wfB_mem hw hm
    have d1 := depB_mem hm
    have d2 := depS_subs st
    have hdx := hdx.tk (tk_same s1)
    have e1 : plB rt (b.take (i + 1)) = plB rt (b.take i) + plS rt st := by rw [take_snoc hst, plB_snoc]
    obtain ⟨c, w0, ys, rfl, ew, hC, hY⟩ := stm_get hdx
    refine ⟨_, rfl, .inr (.inl ⟨c, _, 0, _, rfl, rfl, hC, atI_nat (j := 0) rfl, .inl ⟨rfl, _, rfl, ?_⟩⟩)⟩
    have other : st ≠ .ret → (∀ b c, st ≠ .ens b c) → w0 ≠ "return" ∧ w0 ≠ "ensure" := by
      intro h1 h2
      rw [ew]
      exact wrd_other st h1 h2
    have cas : st = .ret ∨ (∃ b s, st = .ens b s) ∨ (st ≠ .ret ∧ ∀ b c, st ≠ .ens b c) := by
      cases st with
      | ret => exact .inl rfl
      | ens b s => exact .inr (.inl ⟨b, s, rfl⟩)
      | act u x => exact .inr (.inr ⟨nofun, nofun⟩)
      | call x => exact .inr (.inr ⟨nofun, nofun⟩)
      | cho bs => exact .inr (.inr ⟨nofun, nofun⟩)
      | loop b => exact .inr (.inr ⟨nofun, nofun⟩)
    rcases cas with rfl | ⟨bb, ss, rfl⟩ | ⟨n1, n2⟩
    · have ew : w0 = "return" := ew
      subst ew
      refine ift (by decide +kernel) ?_
      refine ⟨_, rfl, _, rfl, _, _, rfl, rfl, ?_⟩
      exact ⟨s1, _, _, _, congrArg (fun z => [some (V.ref a), some (V.int rt), some (V.int z), some (V.ref c), v4, v5]) (by dsimp only; rw [e1]; simp [plS])⟩
    · have ew : w0 = "ensure" := ew
      subst ew
      obtain ⟨y, _, rfl, h1, h2⟩ := hY.inv_cons
      obtain ⟨z, _, rfl, h3, h4⟩ := h2.inv_cons
      cases h4.inv_nil
      simp only [wfS, Bool.and_eq_true] at hws
      have d3 : depB bb ≤ depBs [bb, ss] := by simp [depBs]; omega
      have d4 : depB ss ≤ depBs [bb, ss] := by simp [depBs]; omega
      have d2 : depS (.ens bb ss) = 1 + depBs [bb, ss] := d2
      refine iff' (by decide +kernel) ?_
      refine ⟨_, rfl, .inr (.inl ⟨c, _, 0, _, rfl, rfl, hC, atI_nat (j := 0) rfl, .inl ⟨rfl, _, rfl, ift (by decide +kernel) ?_⟩⟩)⟩
      cases n with
      | zero => omega
      | succ m =>
        refine ⟨_, rfl, .inr (.inl ⟨c, _, 2, _, rfl, rfl, hC, atI_nat (j := 2) rfl, L, PP, z, ss, 0, rfl, h3, hws.2.1, nm, by omega, fun H2 s2 => ?_⟩)⟩
        have t2 := tk_same s2
        refine ⟨_, rfl, _, rfl, _, rfl, .inr (.inl ⟨c, _, 1, _, rfl, rfl, t2.seq hC, atI_nat (j := 1) rfl, _, rfl, _, rfl, .inl ⟨_, _, rfl, rfl, L, PP, y, bb, rt + plB 0 ss, rfl, h1.tk t2, hws.1, nm, by omega, fun H3 s3 => ?_⟩⟩)⟩
        refine .inl ⟨_, _, rfl, rfl, _, _, rfl, rfl, ?_⟩
        exact ⟨s1.trans (s2.trans s3), _, _, _, congrArg (fun z => [some (V.ref a), some (V.int rt), some (V.int z), some (V.ref c), some (V.int (plB 0 ss : Nat)), v5]) (by dsimp only; rw [e1]; simp only [plS]; omega)⟩
    · obtain ⟨k1, k2⟩ := other n1 n2
      refine iff' (decide_eq_false fun h => k1 (V.str.inj h)) ?_
      refine ⟨_, rfl, .inr (.inl ⟨c, _, 0, _, rfl, rfl, hC, atI_nat (j := 0) rfl, .inl ⟨rfl, _, rfl, iff' (decide_eq_false fun h => k2 (V.str.inj h)) ?_⟩⟩)⟩
      refine ⟨_, rfl, _, rfl, L, PP, _, st, rfl, hdx, hws, nm, fun r H2 s2 hr2 => ?_⟩
      obtain ⟨d, zs, rfl, hD, hZ⟩ := hr2.inv_tup
      have lz : zs.length = (subs st).length := by rw [hZ.length, bodDs_map, List.length_map]
      have lb : (subs st).length < sizeLine := by
        have : (subs st).length ≤ 8 := by
          cases st <;> simp [subs]
          simp only [wfS, Bool.and_eq_true, decide_eq_true_eq] at hws
          exact hws.2.1
        exact Nat.lt_of_le_of_lt this (by decide)
      refine ⟨d, rfl, ⟨_, hD⟩, fun D nD => lc_acc walk_tup [] (fun i acc _ => acc = (((subs st).take i).map fun b => V.int (plB rt b : Nat))) nD (fun _ _ H1 _ t _ => t.seq hD) (fun _ _ _ _ _ _ _ p => p) rfl ?_ (by simp) ?_ ?_⟩
      · rw [lz]; exact lb
      · rintro i y acc H3 H3' hi k t hD hl rfl ⟨rfl, hy⟩ N E1 hN _
        obtain ⟨bd, hbd, hyd⟩ := dats_at (by rw [bodDs_map] at hZ; exact hZ) hy
        have hm2 := List.mem_of_getElem? hbd
        have d3 := depBs_mem hm2
        cases n with
        | zero => omega
        | succ m =>
          refine ⟨rfl, tyes ⟨_, rfl, _, rfl, L, PP, y, bd, rt, rfl, hyd.tk t, wfBs_mem (wf_subs hws) hm2, nm, by omega, fun H4 s4 => hN _ _ (.of s4) (tk_same s4) ?_⟩⟩
          rw [take_snoc hbd, List.map_append]; rfl
      · rintro H3 acc k t hD _ rfl
        refine ⟨D, (((subs st).take zs.length).map fun b => ((plB rt b : Nat) : Int)), rfl, SqL.of (by rw [hD, List.map_map]; rfl), ?_⟩
        refine .inl ⟨_, _, rfl, rfl, _, _, rfl, rfl, ?_⟩
        refine ⟨s1.trans (s2.trans k.nil), _, _, _, congrArg (fun z => [some (V.ref a), some (V.int rt), some (V.int z), some (V.ref c), v4, v5]) ?_⟩
        have e9 := sum_map_cast ((subs st).map (plB rt))
        rw [List.map_map] at e9
        dsimp only
        rw [e1, plS_subs rt st n1 n2, plBs_map, lz, List.take_length]
        have e10 : ((subs st).map fun b => ((plB rt b : Nat) : Int)).sum = (((subs st).map (plB rt)).sum : Nat) := e9
        rw [e10]
        omega
  · rintro σ H1 ⟨s1, v3, v4, v5, rfl⟩
    have e6 : b.length = xs.length := by rw [hX.length, stmDs_map, List.length_map]
    refine ⟨_, rfl, ?_⟩
    rw [← e6, List.take_length]
    exact q H1 s1
theorem all_places_in (T : Tp K mg) (F : Std K "places_in" "places_in" s_places_in (He.ga K "places_in")) (D_bodies_of : Dn P w K mg base 6 (He.ga K "bodies_of") ["statement"] (spInner K)) :
    ∀ n : Nat, Dn P w K mg base (7 + n) (He.ga K "places_in") ["body", "returned"] (spPl K n)
  | 0 => (dn_never F
    (fun _ _ _ _ _ _ us hl => match us, hl with | [_, _], _ => rfl)
    ).mono (by omega)
  | n + 1 => ok_places_in n T F D_bodies_of (all_places_in T F D_bodies_of n)
end
end PK

set_option linter.all false
set_option Elab.async false
set_option maxRecDepth 100000
set_option maxHeartbeats 4000000
/-! KZ: the program's layer. -/
namespace PK
open PySem PySem.Spec PyProof.Rows L2 RT
theorem lk_same {α : Type} {k : Str} {v : α} {r : List (Str × α)} : ((k, v) :: r).lookup k = some v := by simp [List.lookup]
theorem lk_ne {α : Type} {k x : Str} {v : α} {r : List (Str × α)} (h : (x == k) = false) : ((k, v) :: r).lookup x = r.lookup x := by simp [List.lookup, h]
def lyF (dl dn l : Addr) : List (Str × V) := [("letters", .ref dl), ("numbers", .ref dn), ("found", .ref l)]
theorem ly_letters (dl dn l : Addr) : (lyF dl dn l).lookup ("letters" : Str) = some (.ref dl) := lk_same
theorem ly_numbers (dl dn l : Addr) : (lyF dl dn l).lookup ("numbers" : Str) = some (.ref dn) := by unfold lyF; rw [lk_ne (by decide +kernel)]; exact lk_same
theorem ly_found (dl dn l : Addr) : (lyF dl dn l).lookup ("found" : Str) = some (.ref l) := by unfold lyF; rw [lk_ne (by decide +kernel), lk_ne (by decide +kernel)]; exact lk_same
theorem ly_no (dl dn l : Addr) {m : Str} (h1 : (m == "letters") = false) (h2 : (m == "numbers") = false) (h3 : (m == "found") = false) : (lyF dl dn l).lookup m = none := by
  unfold lyF; rw [lk_ne h1, lk_ne h2, lk_ne h3]; rfl
theorem ly_put (dl dn l : Addr) : putF "found" (.ref l) (putF "numbers" (.ref dn) (putF "letters" (.ref dl) [])) = lyF dl dn l := by
  have e1 : ¬ (("letters" : Str) = "numbers") := by decide +kernel
  have e2 : ¬ (("letters" : Str) = "found") := by decide +kernel
  have e3 : ¬ (("numbers" : Str) = "found") := by decide +kernel
  simp only [putF, if_neg e1, if_neg e2, if_neg e3, lyF]
structure LyAt (C me dx dl dn l : Addr) (I : Ix) (L P : List Str) (H : Hp) : Prop where
  ob : H me = some (.ins C dx (lyF dl dn l))
  lt : ∃ kl : List (Key × V), H dl = some (.dK kl) ∧ ∀ x ∈ L, valV kl (.inr x) = some (.int (I.l x))
  nb : ∃ kn : List (Key × V), H dn = some (.dK kn) ∧ ∀ x ∈ P, valV kn (.inr x) = some (.int (I.h x : Nat))
theorem LyAt.kp {C me dx dl dn l : Addr} {I : Ix} {L P : List Str} {H H' : Hp} {xs : List V} (h : LyAt C me dx dl dn l I L P H) (hl : H l = some (.lst xs)) (k : Kp [l] H H') : LyAt C me dx dl dn l I L P H' := by
  obtain ⟨o, ⟨kl, h1, h2⟩, ⟨kn, h3, h4⟩⟩ := h
  have n1 : me ≠ l := ne_of o hl nofun
  have n2 : dl ≠ l := ne_of h1 hl nofun
  have n3 : dn ≠ l := ne_of h3 hl nofun
  exact ⟨k _ _ o (by simpa using n1), ⟨kl, k _ _ h1 (by simpa using n2), h2⟩, ⟨kn, k _ _ h3 (by simpa using n3), h4⟩⟩
def spMake (C : Addr) : Sp := fun vs H Q _ => ∃ (me dx dl dn l : Addr) (v : V) (xs : List V) (n : Nat), vs = [.ref me, v] ∧ H me = some (.ins C dx (lyF dl dn l)) ∧ H l = some (.lst xs) ∧ xs.length < sizeLine ∧ xs.length = n ∧ Q (.int n) (upd H l (.lst (xs ++ [v])))
def meaB (n : Nat) (b : Bod) (S : List Bod) (L P : List Str) : Prop := S.length + depB b ≤ 1000 ∧ ((nrB b = true ∧ depB b < n) ∨ (depB b + 13 < n ∧ depB b ≤ 12 ∧ ∀ s ∈ S, wfB L P s = true ∧ nrB s = true ∧ depB s ≤ 12))
def meaS (n : Nat) (b : Stm) (S : List Bod) (L P : List Str) : Prop := S.length + depS b ≤ 1000 ∧ ((nrS b = true ∧ depS b < n) ∨ (depS b + 13 < n ∧ depS b ≤ 12 ∧ ∀ s ∈ S, wfB L P s = true ∧ nrB s = true ∧ depB s ≤ 12))
/-- where places are appended: what stands ahead, what is wanted behind -/
structure LyIn (K : Fg) (C me dx dl dn l : Addr) (I : Ix) (L P : List Str) (vS : V) (S : List Bod) (xs : List V) (ps : Pls) (H : Hp) : Prop where
  at_ : LyAt C me dx dl dn l I L P H
  l : H l = some (.lst xs)
  d : Dats K H xs (ps.map oplD)
  s : Dat K H vS (.tuple (bodDs S))
def LyOut (K : Fg) (l : Addr) (H : Hp) (r : Nat × Pls) (Q : VK) : Prop := ∀ H' xs', Kp [l] H H' → Tk H H' → H' l = some (.lst xs') → Dats K H' xs' (r.2.map oplD) → Q (.int (r.1 : Nat)) H'
def spLyB (K : Fg) (C : Addr) : Nat → Sp
  | 0 => fun _ _ _ _ => False
  | n + 1 => fun vs H Q _ => ∃ (me dx dl dn l : Addr) (I : Ix) (L P : List Str) (v vS : V) (b : Bod) (g : Nat) (S : List Bod) (xs : List V) (ps : Pls), vs = [.ref me, v, .int g, vS] ∧ LyIn K C me dx dl dn l I L P vS S xs ps H ∧ Dat K H v (bodD b) ∧
      wfB L P b = true ∧ meaB (n + 1) b S L P ∧ ps.length + plB (secN S) b ≤ 1000000 ∧ LyOut K l H (layB I b (secL I S) g ps) Q
def spLyS (K : Fg) (C : Addr) : Nat → Sp
  | 0 => fun _ _ _ _ => False
  | n + 1 => fun vs H Q _ => ∃ (me dx dl dn l : Addr) (I : Ix) (L P : List Str) (v vS : V) (b : Stm) (g : Nat) (S : List Bod) (xs : List V) (ps : Pls), vs = [.ref me, v, .int g, vS] ∧ LyIn K C me dx dl dn l I L P vS S xs ps H ∧ Dat K H v (stmD b) ∧
      wfS L P b = true ∧ meaS (n + 1) b S L P ∧ ps.length + plS (secN S) b ≤ 1000000 ∧ LyOut K l H (layS I b (secL I S) g ps) Q
theorem LyIn.kp {K : Fg} {C me dx dl dn l : Addr} {I : Ix} {L P : List Str} {vS : V} {S : List Bod} {xs xs' : List V} {ps ps' : Pls} {H H' : Hp} (h : LyIn K C me dx dl dn l I L P vS S xs ps H) (k : Kp [l] H H') (t : Tk H H') (e : H' l = some (.lst xs')) (d : Dats K H' xs' (ps'.map oplD)) :
    LyIn K C me dx dl dn l I L P vS S xs' ps' H' := ⟨h.at_.kp h.l k, e, d, h.s.tk t⟩
theorem LyIn.same {K : Fg} {C me dx dl dn l : Addr} {I : Ix} {L P : List Str} {vS : V} {S : List Bod} {xs : List V} {ps : Pls} {H H' : Hp} (h : LyIn K C me dx dl dn l I L P vS S xs ps H) (k : Same H H') : LyIn K C me dx dl dn l I L P vS S xs ps H' :=
  h.kp (.of k) (tk_same k) (k _ _ h.l) (h.d.tk (tk_same k))
theorem LyIn.sec {K : Fg} {C me dx dl dn l : Addr} {I : Ix} {L P : List Str} {vS vT : V} {S T : List Bod} {xs : List V} {ps : Pls} {H : Hp} (h : LyIn K C me dx dl dn l I L P vS S xs ps H) (t : Dat K H vT (.tuple (bodDs T))) : LyIn K C me dx dl dn l I L P vT T xs ps H := ⟨h.at_, h.l, h.d, t⟩
theorem Dats.len2 {K : Fg} {H : Hp} {xs : List V} {ps : Pls} (h : Dats K H xs (ps.map oplD)) : xs.length = ps.length := by rw [h.length, List.length_map]
theorem walk_revT {K : Fg} {a : Addr} {xs : List V} : Walk (ItvT K a xs.length) xs.length (fun H => SqT K H a xs) (fun i H x H' => H' = H ∧ xs[xs.length - 1 - i]? = some x) :=
  ⟨fun i _ hi q => ⟨hi, xs, xs[xs.length - 1 - i]'(by omega), q, by simp [show xs.length - 1 - i < xs.length by omega]⟩, fun _ _ => Nat.le_refl _, fun _ _ _ _ _ q y => ⟨y.1, y.2 xs q⟩⟩
theorem nrB_mem {b : Bod} {s : Stm} (h : nrB b = true) (m : s ∈ b) : nrS s = true := by
  induction b with
  | nil => cases m
  | cons t r ih =>
    simp only [nrB, Bool.and_eq_true] at h
    rcases List.mem_cons.mp m with rfl | m
    · exact h.1
    · exact ih h.2 m
theorem nrBs_mem {b : List Bod} {s : Bod} (h : nrBs b = true) (m : s ∈ b) : nrB s = true := by
  induction b with
  | nil => cases m
  | cons t r ih =>
    simp only [nrBs, Bool.and_eq_true] at h
    rcases List.mem_cons.mp m with rfl | m
    · exact h.1
    · exact ih h.2 m
theorem Dats.set {K : Fg} {H : Hp} {v : V} {d : PyData} : ∀ {vs : List V} {ds : List PyData} (i : Nat), Dats K H vs ds → Dat K H v d → Dats K H (vs.set i v) (ds.set i d)
  | _, _, _, .nil, _ => .nil
  | _, _, 0, .cons _ t, h => .cons h t
  | _, _, i + 1, .cons a t, h => .cons a (Dats.set i t h)
section
variable {P : Program} {w : World} {K : Fg} {mg : Str → Option Value} {base : Heap}
theorem ok_make (T : Tp K mg) (F : Std K "make" "Layer.make" s_Layer_make (He.ma K (He.ga K "Layer") "make")) : Dn P w K mg base 1 (He.ma K (He.ga K "Layer") "make") ["self", "place"] (spMake (He.ga K "Layer")) := by
  refine dn_mk F sc_Layer_make
    (fun _ _ _ _ _ _ us hl => match us, hl with | [_, _], _ => rfl)
    (fun vs H Q E h => ?_) fun cdv A outer s H vs Q E hr h => ?_
  · obtain ⟨me, dx, dl, dn, l, v, xs, n, rfl, _⟩ := h; rfl
  obtain ⟨me, dx, dl, dn, l, v, xs, n, rfl, ho, hl, hz, hn, q⟩ := h
  refine ⟨_, (pss_cons (ps_expr (pe_bm PySem.F.plainAttrs_list PySem.F.slot_list_append PySem.F.type_list_append mt_append (fldK (K := K) rfl (pv 0) rfl) (pa_cons (pv 1) pa_nil)))
    (pss_one (ps_ret (pe_op op_sub (pe_callB (cLenK (K := K) rfl) (by rfl) T.b_len PySem.boot_len (pa_cons (fldK (K := K) rfl (pv 0) rfl) pa_nil)) pe_int)))), ?_⟩
  have n1 : me ≠ l := ne_of ho hl nofun
  refine ⟨_, rfl, me, _, dx, _, _, rfl, ho, T.cl_Layer, T.n_Layer_found, ly_found _ _ _, .inl ⟨rfl, _, SqL.of hl⟩, _, rfl, l, _, _, rfl, rfl, hl, hz, ?_⟩
  refine ⟨_, rfl, me, _, dx, _, _, rfl, (by rw [upd_ne n1]; exact ho), T.cl_Layer, T.n_Layer_found, ly_found _ _ _, _, _, rfl, .inl ⟨_, SqL.of upd_same, rfl⟩, _, _, rfl, rfl, ?_⟩
  exact qint (Q := Q) (by rw [List.length_append, List.length_singleton]; omega) q
theorem ok_lyB (n : Nat) (T : Tp K mg) (F : Std K "body" "Layer.body" s_Layer_body (He.ma K (He.ga K "Layer") "body"))
    (D_Layer_statement : Dn P w K mg base (2 + 2 * n) (He.ma K (He.ga K "Layer") "statement") ["self", "statement", "behind", "seconds"] (spLyS K (He.ga K "Layer") n)) :
    Dn P w K mg base (2 + 2 * n + 1) (He.ma K (He.ga K "Layer") "body") ["self", "statements", "behind", "seconds"] (spLyB K (He.ga K "Layer") n) := by
  rcases n with _ | n
  · refine (dn_never F ?_).mono (by omega)
    exact fun _ _ _ _ _ _ us hl => match us, hl with | [_, _, _, _], _ => rfl
  refine dn_mk F sc_Layer_body
    (fun _ _ _ _ _ _ us hl => match us, hl with | [_, _, _, _], _ => rfl)
    (fun vs H Q E h => ?_) fun cdv A outer s H vs Q E hr h => ?_
  · obtain ⟨me, dx, dl, dn, l, I, L, PP, v, vS, b, g, S, xs, ps, rfl, _⟩ := h; rfl
  obtain ⟨me, dx, dl, dn, l, I, L, PP, v, vS, b, g, S, xs, ps, rfl, hi, hd, hw, hm, hlen, q⟩ := h
  obtain ⟨a, zs, rfl, hA, hZ⟩ := hd.inv_tup
  have hZ : Dats K H zs (b.map stmD) := by rw [← stmDs_map]; exact hZ
  have lz : zs.length = b.length := by rw [hZ.length, List.length_map]
  refine ⟨_, (pss_cons (ps_set (i := 4) sc_Layer_body.nd rfl (Or.inl rfl) (pv 2))
    (pss_cons (ps_for PassesOwn.never rfl (pi_revA rfl T.b_reversed (pv 1)) (pg_name (i := 5) sc_Layer_body.nd rfl (Or.inl rfl)) (pss_one (ps_set (i := 4) sc_Layer_body.nd rfl (Or.inl rfl) (pe_m D_Layer_statement (hr.mono (by omega)) (pv 0) T.cl_Layer T.m_Layer_statement (pa_cons (pv 5) (pa_cons (pv 4) (pa_cons (pv 3) pa_nil)))))))
    (pss_one (ps_ret (pv 4))))), ?_⟩
  refine ⟨_, rfl, _, rfl, a, zs, rfl, .inr ⟨hA, for_it walk_revT (fun i σ H' => ∃ (r : Nat × Pls) (xs' : List V) (v5 : Option V), r = layB I (b.drop (b.length - i)) (secL I S) g ps ∧ σ = [some (.ref me), some (.ref a), some (.int g), some vS, some (.int r.1), v5] ∧ Kp [l] H H' ∧ Tk H H' ∧ H' l = some (.lst xs') ∧ Dats K H' xs' (r.2.map oplD))
    ⟨(g, ps), xs, none, by rw [Nat.sub_zero, List.drop_length]; rfl, rfl, .refl _ _, .refl _, hi.l, hi.d⟩ (fun i σ H' _ ⟨_, _, _, _, _, _, t, _⟩ => t.seq hA) ?_ ?_⟩⟩
  · rintro i x σ H1 H1' hlt ⟨⟨g1, ps1⟩, xs1, v5, er, rfl, k1, t1, e1, d1⟩ ⟨rfl, hx⟩
    obtain ⟨st, hst, hdx⟩ := dats_at hZ hx
    have hmm := List.mem_of_getElem? hst
    have hj : b.length - 1 - i < b.length := by omega
    rw [lz] at hst
    have ed : b.drop (b.length - (i + 1)) = st :: b.drop (b.length - i) := by
      have e : b.length - (i + 1) = b.length - 1 - i := by omega
      have e2 : b.length - i = b.length - 1 - i + 1 := by omega
      rw [e, e2, List.drop_eq_getElem_cons hj]
      rw [List.getElem?_eq_getElem hj] at hst
      rw [Option.some.inj hst]
    have dd := depB_mem hmm
    have mS : meaS (n + 1) st S L PP := by
      refine ⟨by have := hm.1; omega, ?_⟩
      rcases hm.2 with ⟨m1, m2⟩ | ⟨m1, m0, m2⟩
      · exact .inl ⟨nrB_mem m1 hmm, by omega⟩
      · exact .inr ⟨by omega, by omega, m2⟩
    have ll : ps1.length + plS (secN S) st ≤ 1000000 := by
      have f1 := lenB I (b.drop (b.length - i)) _ _ (lens_sec I S) g ps
      rw [← er] at f1
      have f2 : plB (secN S) b = plB (secN S) (b.take (b.length - (i + 1))) + plB (secN S) (b.drop (b.length - (i + 1))) := by rw [← plB_append, List.take_append_drop]
      rw [ed] at f2
      simp only [plB] at f2
      have f1 : ps1.length = ps.length + plB (secN S) (b.drop (b.length - i)) := f1
      omega
    refine ⟨_, rfl, me, _, _, rfl, (hi.at_.kp hi.l k1).ob, ly_no _ _ _ (by decide +kernel) (by decide +kernel) (by decide +kernel), _, rfl, _, rfl, _, rfl, ?_⟩
    refine ⟨me, dx, dl, dn, l, I, L, PP, x, vS, st, g1, S, xs1, ps1, rfl, hi.kp k1 t1 e1 d1, hdx.tk t1, wfB_mem hw hmm, mS, ll, fun H2 xs2 k2 t2 e2 d2 => ?_⟩
    refine ⟨_, xs2, some x, rfl, ?_, k1.trans k2, t1.trans t2, e2, ?_⟩
    · rw [ed]; simp only [layB, ← er]; rfl
    · rw [ed]; simp only [layB, ← er]; exact d2
  · rintro σ H1 ⟨r, xs1, v5, er, rfl, k1, t1, e1, d1⟩
    have ed : b.drop (b.length - zs.length) = b := by rw [lz, Nat.sub_self]; rfl
    rw [ed] at er
    refine ⟨_, rfl, ?_⟩
    rw [er]
    exact q H1 xs1 k1 t1 e1 (by rw [← er]; exact d1)
/-- behind make of a place -/
theorem made {K : Fg} {C me dx dl dn l : Addr} {I : Ix} {L P : List Str} {vS : V} {S : List Bod} {xs : List V} {ps : Pls} {H H1 : Hp} {v : V} {o : Option Pl} (h : LyIn K C me dx dl dn l I L P vS S xs ps H) (s : Same H H1) (d : Dat K H1 v (oplD o)) :
    Kp [l] H (upd H1 l (.lst (xs ++ [v]))) ∧ Tk H (upd H1 l (.lst (xs ++ [v]))) ∧ (upd H1 l (.lst (xs ++ [v]))) l = some (.lst (xs ++ [v])) ∧ Dats K (upd H1 l (.lst (xs ++ [v]))) (xs ++ [v]) ((ps ++ [o]).map oplD) := by
  have t : Tk H1 (upd H1 l (.lst (xs ++ [v]))) := tk_lst (s _ _ h.l)
  refine ⟨(Kp.of s).trans (kp_upd (by simp) _), (tk_same s).trans t, upd_same, ?_⟩
  rw [List.map_append]
  exact ((h.d.tk (tk_same s)).tk t).append (.cons (d.tk t) .nil)
theorem dat_nat {K : Fg} {H : Hp} (n : Nat) : Dat K H (.int n) (natD n) := .int _
theorem dats_nats {K : Fg} {H : Hp} : ∀ ns : List Nat, Dats K H (ns.map fun n : Nat => V.int n) (ns.map natD)
  | [] => .nil
  | n :: r => .cons (dat_nat n) (dats_nats r)
theorem layBs_snoc (I : Ix) (SL : List Lay) (g : Nat) (b : Bod) : ∀ (bs : List Bod) (ps : Pls), layBs I (bs ++ [b]) SL g ps = ((layBs I bs SL g ps).1 ++ [(layB I b SL g (layBs I bs SL g ps).2).1], (layB I b SL g (layBs I bs SL g ps).2).2)
  | [], ps => by simp [layBs]
  | a :: r, ps => by simp only [List.cons_append, layBs]; rw [layBs_snoc I SL g b r]
theorem plBs_append (rt : Nat) (a b : List Bod) : plBs rt (a ++ b) = plBs rt a + plBs rt b := by
  induction a with
  | nil => simp [plBs]
  | cons s r ih => simp only [List.cons_append, plBs, ih]; omega
theorem plBs_take_le (rt : Nat) (a : List Bod) (i : Nat) : plBs rt (a.take i) ≤ plBs rt a := by
  have e := plBs_append rt (a.take i) (a.drop i)
  rw [List.take_append_drop] at e
  omega
theorem mea_pos {n : Nat} {st : Stm} {S : List Bod} {L P : List Str} (h : meaS (n + 1) st S L P) : 1 ≤ n := by
  have := depS_subs st
  rcases h.2 with ⟨_, h⟩ | ⟨h, _⟩ <;> omega
/-- a statement other than a return and an ensure -/
theorem mea_sub {n : Nat} {st : Stm} {S : List Bod} {L P : List Str} (h : meaS (n + 1) st S L P) (n2 : ∀ b c, st ≠ .ens b c) {b : Bod} (m : b ∈ subs st) : meaB n b S L P := by
  have d1 := depS_subs st
  have d2 := depBs_mem m
  refine ⟨by have := h.1; omega, ?_⟩
  rcases h.2 with ⟨h1, h2⟩ | ⟨h1, h0, h2⟩
  · refine .inl ⟨?_, by omega⟩
    cases st with
    | act u x => cases m
    | call x => cases m
    | cho bs => exact nrBs_mem (show nrBs bs = true from h1) m
    | loop c => rw [List.mem_singleton.mp m]; exact h1
    | ret => cases m
    | ens b c => exact absurd rfl (n2 b c)
  · exact .inr ⟨by omega, by omega, h2⟩
theorem secN_take_le (S : List Bod) (i : Nat) : secN (S.take i) ≤ secN S := by
  unfold secN
  conv => rhs; rw [← List.take_append_drop i S, List.map_append, List.sum_append]
  omega
theorem ok_lyS (n : Nat) (T : Tp K mg) (F : Std K "statement" "Layer.statement" s_Layer_statement (He.ma K (He.ga K "Layer") "statement"))
    (D_Layer_make : Dn P w K mg base 1 (He.ma K (He.ga K "Layer") "make") ["self", "place"] (spMake (He.ga K "Layer")))
    (D_Layer_body : Dn P w K mg base (2 + 2 * n + 1) (He.ma K (He.ga K "Layer") "body") ["self", "statements", "behind", "seconds"] (spLyB K (He.ga K "Layer") n)) :
    Dn P w K mg base (2 + 2 * n + 1 + 1) (He.ma K (He.ga K "Layer") "statement") ["self", "statement", "behind", "seconds"] (spLyS K (He.ga K "Layer") (n + 1)) := by
  refine dn_mk F sc_Layer_statement
    (fun _ _ _ _ _ _ us hl => match us, hl with | [_, _, _, _], _ => rfl)
    (fun vs H Q E h => ?_) fun cdv A outer s H vs Q E hr h => ?_
  · obtain ⟨me, dx, dl, dn, l, I, L, PP, v, vS, b, g, S, xs, ps, rfl, _⟩ := h; rfl
  obtain ⟨me, dx, dl, dn, l, I, L, PP, v, vS, st, g, S, xs, ps, rfl, hi, hd, hw, hm, hlen, q⟩ := h
  have hu := hu_of hr
  have n1 := mea_pos hm
  obtain ⟨a, w0, ys, rfl, ew, hA, hY⟩ := stm_get hd
  have lx := hi.d.len2
  have ob := hi.at_.ob
  have lno : ∀ {m : Str}, (m == "letters") = false → (m == "numbers") = false → (m == "found") = false → (lyF dl dn l).lookup m = none  := fun h1 h2 h3 => ly_no dl dn l h1 h2 h3
  have nmk : (lyF dl dn l).lookup ("make" : Str) = none := lno (by decide +kernel) (by decide +kernel) (by decide +kernel)
  have nbd : (lyF dl dn l).lookup ("body" : Str) = none := lno (by decide +kernel) (by decide +kernel) (by decide +kernel)
  have zl : ∀ {k : Nat}, k ≤ 1000000 → k < sizeLine := fun h => Nat.lt_of_le_of_lt h (by decide)
  refine ⟨_, (pss_cons (ps_set (i := 4) sc_Layer_statement.nd rfl (Or.inl rfl) (pe_ix (ixK (K := K) rfl) (pv 1) pe_int (fun _ _ => rfl)))
    (pss_cons (ps_if (PW.pt (pw_or (pt_cmpR (oEqK (K := K) rfl (hu64 hr)) (pv 4) pe_str (nomark _)) (pw_or1 (pt_cmpR (oEqK (K := K) rfl (hu64 hr)) (pv 4) pe_str (nomark _))))) (pss_cons (ps_set (i := 5) sc_Layer_statement.nd rfl (Or.inl rfl) (pe_dget hu (fldK (K := K) rfl (pv 0) rfl) (pe_ix (ixK (K := K) rfl) (pv 1) pe_int (fun _ _ => rfl)) (fun _ _ => rfl)))
    (pss_one (ps_ret (pe_m D_Layer_make (hr.mono (by omega)) (pv 0) T.cl_Layer T.m_Layer_make (pa_cons (pe_tup (pa_cons pe_str (pa_cons (pe_ifExp (pt_cmpR (oEqK (K := K) rfl (hu64 hr)) (pv 4) pe_str (nomark _)) (pv 5) (pe_un un_neg (pv 5))) (pa_cons (pv 2) pa_nil)))) pa_nil))))) pss_nil)
    (pss_cons (ps_if (pt_cmpR (oEqK (K := K) rfl (hu64 hr)) (pv 4) pe_str (nomark _)) (pss_one (ps_ret (pe_m D_Layer_make (hr.mono (by omega)) (pv 0) T.cl_Layer T.m_Layer_make (pa_cons (pe_tup (pa_cons pe_str (pa_cons (pe_dget hu (fldK (K := K) rfl (pv 0) rfl) (pe_ix (ixK (K := K) rfl) (pv 1) pe_int (fun _ _ => rfl)) (fun _ _ => rfl)) (pa_cons (pv 2) pa_nil)))) pa_nil)))) pss_nil)
    (pss_cons (ps_if (pt_cmpR (oEqK (K := K) rfl (hu64 hr)) (pv 4) pe_str (nomark _)) (pss_cons (ps_setLc (i := 7) (own := [("one", 6)]) (tt := tYes) rfl sc_Layer_statement.nd rfl rfl (sw_true rfl rfl rfl (by decide +kernel)) (iTupK (K := K) rfl (pe_ix (ixK (K := K) rfl) (pv 1) pe_int (fun _ _ => rfl))) (blkOk_by (N := N_Layer_statement) (sc := defScope s_Layer_statement) (own := [("one", 6)]) (by decide +kernel)) (fun _ _ _ _ _ => (pg_name (i := 6) sc_Layer_statement.nd rfl (Or.inl rfl))) (fun _ _ _ _ _ => pts_nil) (fun _ _ _ _ _ => (pe_m D_Layer_body (hr.mono (by omega)) (pv 0) T.cl_Layer T.m_Layer_body (pa_cons (pv 6) (pa_cons (pv 2) (pa_cons (pv 3) pa_nil))))))
    (pss_one (ps_ret (pe_m D_Layer_make (hr.mono (by omega)) (pv 0) T.cl_Layer T.m_Layer_make (pa_cons (pe_tup (pa_cons pe_str (pa_cons (pe_callTy (tupK (K := K) rfl) (by rfl) T.b_tuple (by decide +kernel) (pa_cons (pv 7) pa_nil)) pa_nil))) pa_nil))))) pss_nil)
    (pss_cons (ps_if (pt_cmpR (oEqK (K := K) rfl (hu64 hr)) (pv 4) pe_str (nomark _)) (pss_cons (ps_set (i := 8) sc_Layer_statement.nd rfl (Or.inl rfl) (pe_m D_Layer_make (hr.mono (by omega)) (pv 0) T.cl_Layer T.m_Layer_make (pa_cons pe_non pa_nil)))
    (pss_cons (ps_asg (pe_tup (pa_cons pe_str (pa_cons (pe_tup (pa_cons (pe_m D_Layer_body (hr.mono (by omega)) (pv 0) T.cl_Layer T.m_Layer_body (pa_cons (pe_ix (ixK (K := K) rfl) (pv 1) pe_int (fun _ _ => rfl)) (pa_cons (pv 8) (pa_cons (pv 3) pa_nil)))) (pa_cons (pv 2) pa_nil))) pa_nil))) (pg_sub (fldK (K := K) rfl (pv 0) rfl) (pv 8) set_list))
    (pss_one (ps_ret (pv 8))))) pss_nil)
    (pss_cons (ps_if (pt_cmpR (oEqK (K := K) rfl (hu64 hr)) (pv 4) pe_str (nomark _)) (pss_cons (ps_set (i := 9) sc_Layer_statement.nd rfl (Or.inl rfl) pe_int)
    (pss_cons (ps_for PassesOwn.never rfl (iTupK (K := K) rfl (pv 3)) (pg_name (i := 10) sc_Layer_statement.nd rfl (Or.inl rfl)) (pss_one (ps_set (i := 9) sc_Layer_statement.nd rfl (Or.inl rfl) (pe_m D_Layer_body (hr.mono (by omega)) (pv 0) T.cl_Layer T.m_Layer_body (pa_cons (pv 10) (pa_cons (pv 9) (pa_cons (pe_tup pa_nil) pa_nil)))))))
    (pss_one (ps_ret (pv 9))))) pss_nil)
    (pss_cons (ps_set (i := 10) sc_Layer_statement.nd rfl (Or.inl rfl) (pe_m D_Layer_body (hr.mono (by omega)) (pv 0) T.cl_Layer T.m_Layer_body (pa_cons (pe_ix (ixK (K := K) rfl) (pv 1) pe_int (fun _ _ => rfl)) (pa_cons (pv 2) (pa_cons (pe_tup pa_nil) pa_nil)))))
    (pss_one (ps_ret (pe_m D_Layer_body (hr.mono (by omega)) (pv 0) T.cl_Layer T.m_Layer_body (pa_cons (pe_ix (ixK (K := K) rfl) (pv 1) pe_int (fun _ _ => rfl)) (pa_cons (pv 10) (pa_cons (pe_op (oAddK (K := K) rfl) (pv 3) (pe_tup (pa_cons (pe_ix (ixK (K := K) rfl) (pv 1) pe_int (fun _ _ => rfl)) pa_nil))) pa_nil))))))))))))), ?_⟩
  refine ⟨_, rfl, .inr (.inl ⟨a, _, 0, _, rfl, rfl, hA, atI_nat (j := 0) rfl, ?_⟩)⟩
  cases st with
  | act u x =>
    have ew : w0 = actW u := ew
    obtain ⟨y, _, rfl, h1, h2⟩ := hY.inv_cons
    cases h2.inv_nil
    rw [h1.inv_str] at hA
    obtain ⟨kl, e1, e2⟩ := hi.at_.lt
    have hx := e2 x (of_decide_eq_true (show decide (x ∈ L) = true from hw))
    have hget : DGet H dl (.str x) (some (.int (I.l x))) := by
      have z := DGet.k (k := Sum.inr x) e1
      rw [hx] at z; exact z
    have hl1 : ps.length + 1 ≤ 1000000 := hlen
    have fin : ∀ p, H p = none → Q (.int (ps.length : Nat)) (upd (upd H p (.tup [.str "letter", .int (actX I u x), .int g])) l (.lst (xs ++ [.ref p]))) := fun p hp => by
      obtain ⟨m1, m2, m3, m4⟩ := made (o := some (.ltr (actX I u x) g)) hi (same_new hp (.tup [.str "letter", .int (actX I u x), .int g])) (.tup (SqT.of upd_same) (.cons (.str _) (.cons (.int _) (.cons (dat_nat g) .nil))))
      exact q _ _ m1 m2 m3 m4
    have obp : ∀ {p o}, H p = none → (upd H p o) me = some (.ins (He.ga K "Layer") dx (lyF dl dn l)) := fun hp => same_new hp _ _ _ ob
    have hlp : ∀ {p o}, H p = none → (upd H p o) l = some (.lst xs) := fun hp => same_new hp _ _ _ hi.l
    cases u with
    | true =>
      have ew : w0 = "undo" := ew
      subst ew
      refine ⟨_, rfl, .inl ⟨rfl, _, rfl, iff' (by decide +kernel) ⟨_, rfl, .inl ⟨rfl, _, rfl, ift (by decide +kernel) ?_⟩⟩⟩⟩
      refine ⟨_, rfl, me, _, dx, _, _, rfl, ob, T.cl_Layer, T.n_Layer_letters, ly_letters _ _ _, _, rfl, .inr (.inl ⟨a, _, 1, _, rfl, rfl, hA, atI_nat (j := 1) rfl, dl, _, rfl, hget, ?_⟩)⟩
      refine ⟨_, rfl, me, dx, _, rfl, ob, nmk, _, rfl, .inl ⟨rfl, _, rfl, iff' (by decide +kernel) ⟨_, rfl, _, rfl, _, rfl, (by show 3 ≤ sizeLine; decide), fun p hp => ?_⟩⟩⟩
      exact ⟨me, dx, dl, dn, l, .ref p, xs, ps.length, rfl, obp hp, hlp hp, zl (by omega), lx, fin p hp⟩
    | false =>
      have ew : w0 = "do" := ew
      subst ew
      refine ⟨_, rfl, .inl ⟨rfl, _, rfl, ift (by decide +kernel) ?_⟩⟩
      refine ⟨_, rfl, me, _, dx, _, _, rfl, ob, T.cl_Layer, T.n_Layer_letters, ly_letters _ _ _, _, rfl, .inr (.inl ⟨a, _, 1, _, rfl, rfl, hA, atI_nat (j := 1) rfl, dl, _, rfl, hget, ?_⟩)⟩
      refine ⟨_, rfl, me, dx, _, rfl, ob, nmk, _, rfl, .inl ⟨rfl, _, rfl, ift (by decide +kernel) ⟨_, rfl, _, rfl, (by show 3 ≤ sizeLine; decide), fun p hp => ?_⟩⟩⟩
      exact ⟨me, dx, dl, dn, l, .ref p, xs, ps.length, rfl, obp hp, hlp hp, zl (by omega), lx, fin p hp⟩
  | call x =>
    have ew : w0 = "call" := ew
    subst ew
    obtain ⟨y, _, rfl, h1, h2⟩ := hY.inv_cons
    cases h2.inv_nil
    rw [h1.inv_str] at hA
    obtain ⟨kn, e1, e2⟩ := hi.at_.nb
    have hx := e2 x (of_decide_eq_true (show decide (x ∈ PP) = true from hw))
    have hget : DGet H dn (.str x) (some (.int (I.h x : Nat))) := by
      have z := DGet.k (k := Sum.inr x) e1
      rw [hx] at z; exact z
    have hl1 : ps.length + 1 ≤ 1000000 := hlen
    refine ⟨_, rfl, .inl ⟨rfl, _, rfl, iff' (by decide +kernel) ⟨_, rfl, .inl ⟨rfl, _, rfl, iff' (by decide +kernel) ?_⟩⟩⟩⟩
    refine ⟨_, rfl, .inl ⟨rfl, _, rfl, ift (by decide +kernel) ?_⟩⟩
    refine ⟨_, rfl, me, dx, _, rfl, ob, nmk, _, rfl, me, _, dx, _, _, rfl, ob, T.cl_Layer, T.n_Layer_numbers, ly_numbers _ _ _, _, rfl, .inr (.inl ⟨a, _, 1, _, rfl, rfl, hA, atI_nat (j := 1) rfl, dn, _, rfl, hget, _, rfl, (by show 3 ≤ sizeLine; decide), fun p hp => ?_⟩)⟩
    obtain ⟨m1, m2, m3, m4⟩ := made (o := some (.call (I.h x) g)) hi (same_new hp (.tup [.str "call", .int (I.h x : Nat), .int g])) (.tup (SqT.of upd_same) (.cons (.str _) (.cons (dat_nat _) (.cons (dat_nat g) .nil))))
    exact ⟨me, dx, dl, dn, l, .ref p, xs, ps.length, rfl, same_new hp _ _ _ ob, same_new hp _ _ _ hi.l, zl (by omega), lx, q _ _ m1 m2 m3 m4⟩
  | cho bs =>
    have ew : w0 = "choose" := ew
    subst ew
    obtain ⟨y, _, rfl, h1, h2⟩ := hY.inv_cons
    cases h2.inv_nil
    obtain ⟨c, zs, rfl, hC, hZ⟩ := h1.inv_tup
    have hZ : Dats K H zs (bs.map bodD) := by rw [← bodDs_map]; exact hZ
    have lz : zs.length = bs.length := by rw [hZ.length, List.length_map]
    have hws := hw
    simp only [wfS, Bool.and_eq_true, decide_eq_true_eq] at hws
    have hlen : ps.length + (1 + plBs (secN S) bs) ≤ 1000000 := hlen
    refine ⟨_, rfl, .inl ⟨rfl, _, rfl, iff' (by decide +kernel) ⟨_, rfl, .inl ⟨rfl, _, rfl, iff' (by decide +kernel) ?_⟩⟩⟩⟩
    refine ⟨_, rfl, .inl ⟨rfl, _, rfl, iff' (by decide +kernel) ?_⟩⟩
    refine ⟨_, rfl, .inl ⟨rfl, _, rfl, ift (by decide +kernel) ?_⟩⟩
    refine ⟨_, rfl, .inr (.inl ⟨a, _, 1, _, rfl, rfl, hA, atI_nat (j := 1) rfl, c, rfl, ⟨_, hC⟩, fun D nD => lc_acc walk_tup [l] (fun i acc H' => ∃ xs' : List V, acc = (layBs I (bs.take i) (secL I S) g ps).1.map (fun n : Nat => V.int n) ∧ H' l = some (.lst xs') ∧ Dats K H' xs' ((layBs I (bs.take i) (secL I S) g ps).2.map oplD)) nD
      (fun _ _ H1 _ t _ => t.seq hC) (fun i acc H1 zs1 o k e ⟨xs', p1, p2, p3⟩ => ?_) ⟨xs, rfl, same_new nD _ _ _ hi.l, hi.d.tk (tk_same (same_new nD _))⟩ ?_ ?_ ?_ ?_⟩)⟩
    · have nlD : l ≠ D := ne_of_none hi.l nD
      exact ⟨xs', p1, by rw [upd_ne nlD]; exact p2, p3.tk (tk_lst e)⟩
    · rw [lz]; exact Nat.lt_of_le_of_lt hws.2.1 (by decide)
    · simpa using (ne_of_none hi.l nD).symm
    · rintro i y acc H3 H3' hlt k t hD hl ⟨xs3, rfl, p2, p3⟩ ⟨rfl, hy⟩ N E1 hN _
      obtain ⟨bd, hbd, hyd⟩ := dats_at hZ hy
      have hm2 := List.mem_of_getElem? hbd
      have e1 := lenBs I (bs.take i) _ _ (lens_sec I S) g ps
      have e2 := plBs_take_le (secN S) bs (i + 1)
      rw [take_snoc hbd, plBs_append] at e2
      simp only [plBs] at e2
      have mb := mea_sub hm (fun _ _ => nofun) (b := bd) hm2
      obtain ⟨m, rfl⟩ : ∃ m, n = m + 1 := ⟨n - 1, by omega⟩
      have hi3 := hi.kp k t p2 p3
      refine ⟨rfl, tyes ⟨_, rfl, me, dx, _, rfl, hi3.at_.ob, nbd, _, rfl, _, rfl, _, rfl, me, dx, dl, dn, l, I, L, PP, y, vS, bd, g, S, xs3, _, rfl, hi3, hyd.tk t, wfBs_mem hws.2.2 hm2, mb, by omega, fun H4 xs4 k4 t4 e4 d4 => hN _ _ k4 t4 ⟨xs4, ?_, e4, ?_⟩⟩⟩
      · rw [take_snoc hbd, layBs_snoc]; simp
      · rw [take_snoc hbd, layBs_snoc]; exact d4
    · rintro H3 acc k t hD _ ⟨xs3, rfl, p2, p3⟩
      have et : bs.take zs.length = bs := by rw [lz, List.take_length]
      rw [et] at p3
      rw [et] at hD
      have e1 := lenBs I bs _ _ (lens_sec I S) g ps
      have hi3 := hi.kp k t p2 p3
      have l3 := hi3.d.len2
      have obs := hi3.at_.ob
      have lns : (layBs I bs (secL I S) g ps).1.length ≤ sizeLine := by
        have go : ∀ (b : List Bod) (q : Pls), (layBs I b (secL I S) g q).1.length = b.length := by
          intro b
          induction b with
          | nil => intro q; rfl
          | cons x r ih => intro q; simp only [layBs, List.length_cons, ih]
        rw [go]
        exact Nat.le_trans hws.2.1 (by decide)
      refine ⟨_, rfl, me, dx, _, rfl, obs, nmk, _, rfl, D, _, rfl, .inl ⟨SqL.of hD, fun r hr => ⟨(by show 2 ≤ sizeLine; decide), fun p hp => ?_⟩⟩⟩
      have s1 := same_new hr (.tup ((layBs I bs (secL I S) g ps).1.map (fun n : Nat => V.int n)))
      have s2 := same_new hp (.tup [.str "fork", .ref r])
      have s12 := s1.trans s2
      obtain ⟨m1, m2, m3, m4⟩ := made (o := some (.fork (layBs I bs (secL I S) g ps).1)) hi3 s12 (.tup (SqT.of upd_same) (.cons (.str _) (.cons (.tup (SqT.of (s2 _ _ upd_same)) (dats_nats _)) .nil)))
      refine ⟨me, dx, dl, dn, l, .ref p, xs3, (layBs I bs (secL I S) g ps).2.length, rfl, s12 _ _ obs, s12 _ _ p2, zl (by omega), l3, q _ _ (k.trans m1) (t.trans m2) m3 m4⟩
  | loop b =>
    have ew : w0 = "loop" := ew
    subst ew
    obtain ⟨y, _, rfl, h1, h2⟩ := hY.inv_cons
    cases h2.inv_nil
    have hlen : ps.length + (1 + plB (secN S) b) ≤ 1000000 := hlen
    refine ⟨_, rfl, .inl ⟨rfl, _, rfl, iff' (by decide +kernel) ⟨_, rfl, .inl ⟨rfl, _, rfl, iff' (by decide +kernel) ?_⟩⟩⟩⟩
    refine ⟨_, rfl, .inl ⟨rfl, _, rfl, iff' (by decide +kernel) ?_⟩⟩
    refine ⟨_, rfl, .inl ⟨rfl, _, rfl, iff' (by decide +kernel) ?_⟩⟩
    refine ⟨_, rfl, .inl ⟨rfl, _, rfl, ift (by decide +kernel) ?_⟩⟩
    obtain ⟨m1, m2, m3, m4⟩ := made (o := none) hi (.refl H) .non
    have hi1 := hi.kp m1 m2 m3 m4
    have mb := mea_sub hm (fun _ _ => nofun) (b := b) (List.mem_singleton.mpr rfl)
    have el : (ps ++ [none]).length = ps.length + 1 := by simp
    obtain ⟨m, rfl⟩ : ∃ m, n = m + 1 := ⟨n - 1, by omega⟩
    refine ⟨_, rfl, me, dx, _, rfl, ob, nmk, me, dx, dl, dn, l, .non, xs, ps.length, rfl, ob, hi.l, zl (by omega), lx, ?_⟩
    refine ⟨_, rfl, me, dx, _, rfl, hi1.at_.ob, nbd, _, rfl, .inr (.inl ⟨a, _, 1, _, rfl, rfl, m2.seq hA, atI_nat (j := 1) rfl, _, rfl, _, rfl, ?_⟩)⟩
    refine ⟨me, dx, dl, dn, l, I, L, PP, y, vS, b, ps.length, S, _, ps ++ [none], rfl, hi1, h1.tk m2, hw, mb, by rw [el]; omega, fun H2 xs2 k2 t2 e2 d2 => ?_⟩
    have hi2 := hi1.kp k2 t2 e2 d2
    refine ⟨_, rfl, (by show 2 ≤ sizeLine; decide), fun p hp => ⟨(by show 2 ≤ sizeLine; decide), fun r hr => ?_⟩⟩
    have s1 := same_new hp (.tup [.int (layB I b (secL I S) ps.length (ps ++ [none])).1, .int g])
    have s2 := same_new hr (.tup [.str "fork", .ref p])
    have s12 := s1.trans s2
    have dr : Dat K (upd (upd H2 p (.tup [.int (layB I b (secL I S) ps.length (ps ++ [none])).1, .int g])) r (.tup [.str "fork", .ref p])) (.ref r) (plD (.fork [(layB I b (secL I S) ps.length (ps ++ [none])).1, g])) :=
      .tup (SqT.of upd_same) (.cons (.str _) (.cons (.tup (SqT.of (s2 _ _ upd_same)) (dats_nats [_, g])) .nil))
    have l2 := hi2.d.len2
    have l3 := lenB I b _ _ (lens_sec I S) ps.length (ps ++ [none])
    have lj : ps.length < xs2.length := by omega
    have hx2 := s12 _ _ e2
    refine ⟨_, rfl, me, _, dx, _, _, rfl, s12 _ _ hi2.at_.ob, T.cl_Layer, T.n_Layer_found, ly_found _ _ _, _, rfl, l, xs2, (ps.length : Nat), ps.length, rfl, rfl, hx2, ?_, ?_⟩
    · unfold ixN
      rw [if_pos (by omega), if_pos (by omega)]; simp
    · refine ⟨_, rfl, ?_⟩
      have t3 := tk_lst (o' := .lst (xs2.set ps.length (.ref r))) hx2
      refine q _ _ (m1.trans (k2.trans ((Kp.of s12).trans (kp_upd (by simp) _)))) (m2.trans (t2.trans ((tk_same s12).trans t3))) upd_same ?_
      have d3 := (d2.tk ((tk_same s12).trans t3)).set ps.length (dr.tk t3)
      show Dats K _ _ (List.map oplD (List.set _ _ _))
      rw [List.map_set]
      exact d3
  | ret =>
    have ew : w0 = "return" := ew
    subst ew
    obtain ⟨vt, zs, rfl, hC, hZ⟩ := hi.s.inv_tup
    have hZ : Dats K H zs (S.map bodD) := by rw [← bodDs_map]; exact hZ
    have lz : zs.length = S.length := by rw [hZ.length, List.length_map]
    have hlen : ps.length + secN S ≤ 1000000 := hlen
    have hm2 : 14 < n + 1 ∧ ∀ s ∈ S, wfB L PP s = true ∧ nrB s = true ∧ depB s ≤ 12 := by
      rcases hm.2 with ⟨h1, _⟩ | ⟨h1, _, h2⟩
      · cases h1
      · exact ⟨by simpa [depS] using h1, h2⟩
    refine ⟨_, rfl, .inl ⟨rfl, _, rfl, iff' (by decide +kernel) ⟨_, rfl, .inl ⟨rfl, _, rfl, iff' (by decide +kernel) ?_⟩⟩⟩⟩
    refine ⟨_, rfl, .inl ⟨rfl, _, rfl, iff' (by decide +kernel) ?_⟩⟩
    refine ⟨_, rfl, .inl ⟨rfl, _, rfl, iff' (by decide +kernel) ?_⟩⟩
    refine ⟨_, rfl, .inl ⟨rfl, _, rfl, iff' (by decide +kernel) ?_⟩⟩
    refine ⟨_, rfl, .inl ⟨rfl, _, rfl, ift (by decide +kernel) ?_⟩⟩
    refine ⟨_, rfl, vt, rfl, ⟨_, hC⟩, for_it walk_tup (fun i σ H' => ∃ (r : Nat × Pls) (xs' : List V) (v10 : Option V), r = goAll (secL I (S.take i)) 0 ps ∧ σ = [some (.ref me), some (.ref a), some (.int g), some (.ref vt), some (.str "return"), none, none, none, none, some (.int r.1), v10] ∧ Kp [l] H H' ∧ Tk H H' ∧ H' l = some (.lst xs') ∧ Dats K H' xs' (r.2.map oplD))
      ⟨(0, ps), xs, none, rfl, rfl, .refl _ _, .refl _, hi.l, hi.d⟩ (fun i σ H' _ ⟨_, _, _, _, _, _, t, _⟩ => t.seq hC) ?_ ?_⟩
    · rintro i x σ H1 H1' hlt ⟨⟨g1, ps1⟩, xs1, v10, er, rfl, k1, t1, e1, d1⟩ ⟨rfl, hx⟩
      obtain ⟨s2, hs2, hsd⟩ := dats_at hZ hx
      obtain ⟨w1, w2, w3⟩ := hm2.2 s2 (List.mem_of_getElem? hs2)
      have f1 := (lens_sec I (S.take i)).all 0 ps
      rw [← er] at f1
      have f1 : ps1.length = ps.length + secN (S.take i) := f1
      have f2 := secN_take_le S (i + 1)
      rw [take_snoc hs2, secN_snoc] at f2
      obtain ⟨m, rfl⟩ : ∃ m, n = m + 1 := ⟨n - 1, by omega⟩
      have hi1 := hi.kp k1 t1 e1 d1
      refine ⟨_, rfl, me, dx, _, rfl, hi1.at_.ob, nbd, _, rfl, _, rfl, Nat.zero_le _, fun p hp => ?_⟩
      have s3 := same_new hp (.tup [])
      have hi3 := (hi1.same s3).sec (vT := .ref p) (T := []) (.tup (SqT.of upd_same) .nil)
      refine ⟨me, dx, dl, dn, l, I, L, PP, x, .ref p, s2, g1, [], xs1, ps1, rfl, hi3, (hsd.tk t1).tk (tk_same s3), w1, ⟨by simp only [List.length_nil]; omega, .inl ⟨w2, by omega⟩⟩, by show ps1.length + plB 0 s2 ≤ 1000000; omega, fun H2 xs2 k2 t2 e2 d2 => ?_⟩
      refine ⟨_, xs2, some x, rfl, ?_, k1.trans ((Kp.of s3).trans k2), t1.trans ((tk_same s3).trans t2), e2, ?_⟩
      · rw [take_snoc hs2, secL_snoc, goAll_snoc, ← er]; rfl
      · rw [take_snoc hs2, secL_snoc, goAll_snoc, ← er]; exact d2
    · rintro σ H1 ⟨r, xs1, v10, er, rfl, k1, t1, e1, d1⟩
      rw [lz, List.take_length] at er
      refine ⟨_, rfl, ?_⟩
      rw [er]
      rw [er] at d1
      exact q H1 xs1 k1 t1 e1 d1
  | ens b s =>
    have ew : w0 = "ensure" := ew
    subst ew
    obtain ⟨y, _, rfl, h1, h2⟩ := hY.inv_cons
    obtain ⟨z, _, rfl, h3, h4⟩ := h2.inv_cons
    cases h4.inv_nil
    have hws := hw
    simp only [wfS, Bool.and_eq_true] at hws
    have hlen : ps.length + (plB 0 s + plB (secN S + plB 0 s) b) ≤ 1000000 := hlen
    have dd : depS (.ens b s) = 1 + max (depB b) (depB s) := by simp only [depS]
    have hm1 := hm.1
    have mS : meaB n s [] L PP := ⟨by simp only [List.length_nil]; omega, .inl ⟨hws.2.2, by rcases hm.2 with ⟨_, h⟩ | ⟨h, _⟩ <;> omega⟩⟩
    have mB : meaB n b (S ++ [s]) L PP := by
      refine ⟨by rw [List.length_append, List.length_singleton]; omega, ?_⟩
      rcases hm.2 with ⟨h1, h2⟩ | ⟨h1, h0, h2⟩
      · simp only [nrS, Bool.and_eq_true] at h1
        exact .inl ⟨h1.1, by omega⟩
      · refine .inr ⟨by omega, by omega, fun t ht => ?_⟩
        rcases List.mem_append.mp ht with ht | ht
        · exact h2 t ht
        · rw [List.mem_singleton.mp ht]
          exact ⟨hws.2.1, hws.2.2, by omega⟩
    obtain ⟨m, rfl⟩ : ∃ m, n = m + 1 := ⟨n - 1, by omega⟩
    refine ⟨_, rfl, .inl ⟨rfl, _, rfl, iff' (by decide +kernel) ⟨_, rfl, .inl ⟨rfl, _, rfl, iff' (by decide +kernel) ?_⟩⟩⟩⟩
    refine ⟨_, rfl, .inl ⟨rfl, _, rfl, iff' (by decide +kernel) ?_⟩⟩
    refine ⟨_, rfl, .inl ⟨rfl, _, rfl, iff' (by decide +kernel) ?_⟩⟩
    refine ⟨_, rfl, .inl ⟨rfl, _, rfl, iff' (by decide +kernel) ?_⟩⟩
    refine ⟨_, rfl, .inl ⟨rfl, _, rfl, iff' (by decide +kernel) ?_⟩⟩
    refine ⟨_, rfl, me, dx, _, rfl, ob, nbd, _, rfl, .inr (.inl ⟨a, _, 2, _, rfl, rfl, hA, atI_nat (j := 2) rfl, _, rfl, Nat.zero_le _, fun p hp => ?_⟩)⟩
    have s1 := same_new hp (.tup [])
    have hi1 := (hi.same s1).sec (vT := .ref p) (T := []) (.tup (SqT.of upd_same) .nil)
    refine ⟨me, dx, dl, dn, l, I, L, PP, z, .ref p, s, g, [], xs, ps, rfl, hi1, h3.tk (tk_same s1), hws.2.1, mS, by show ps.length + plB 0 s ≤ 1000000; omega, fun H2 xs2 k2 t2 e2 d2 => ?_⟩
    have k12 := (Kp.of s1).trans k2
    have t12 := (tk_same s1).trans t2
    have hi2 := hi.kp k12 t12 e2 d2
    have l2 := lenB I s _ _ .nil g ps
    have fin : ∀ r H3, Same H2 H3 → Dat K H3 r (.tuple (bodDs (S ++ [s]))) → spLyB K (He.ga K "Layer") (m + 1) [.ref me, y, .int (layB I s [] g ps).1, r] H3 Q E0 := fun r H3 s3 d3 =>
      ⟨me, dx, dl, dn, l, I, L, PP, y, r, b, (layB I s [] g ps).1, S ++ [s], xs2, (layB I s [] g ps).2, rfl, (hi2.same s3).sec d3, (h1.tk t12).tk (tk_same s3), hws.1, mB, by rw [secN_snoc]; omega, fun H4 xs4 k4 t4 e4 d4 =>
        q H4 xs4 (k12.trans ((Kp.of s3).trans k4)) (t12.trans ((tk_same s3).trans t4)) e4 (by
          have e : layS I (.ens b s) (secL I S) g ps = layB I b (secL I (S ++ [s])) (layB I s [] g ps).1 (layB I s [] g ps).2 := by rw [secL_snoc]; simp only [layS]
          rw [e]; exact d4) |> fun z => by
          have e : layS I (.ens b s) (secL I S) g ps = layB I b (secL I (S ++ [s])) (layB I s [] g ps).1 (layB I s [] g ps).2 := by rw [secL_snoc]; simp only [layS]
          rw [e] at z; exact z⟩
    refine ⟨_, rfl, me, dx, _, rfl, hi2.at_.ob, nbd, _, rfl, .inr (.inl ⟨a, _, 1, _, rfl, rfl, t12.seq hA, atI_nat (j := 1) rfl, _, rfl, _, rfl, _, rfl, .inr (.inl ⟨a, _, 2, _, rfl, rfl, t12.seq hA, atI_nat (j := 2) rfl, (by show 1 ≤ sizeLine; decide), fun r hr => ?_⟩)⟩)⟩
    obtain ⟨vt, zs, rfl, hC, hZ⟩ := hi2.s.inv_tup
    have s3 := same_new hr (.tup [z])
    have lz : zs.length = S.length := by rw [hZ.length, bodDs_map, List.length_map]
    have eb : bodDs (S ++ [s]) = bodDs S ++ [bodD s] := by rw [bodDs_map, bodDs_map, List.map_append]; rfl
    have t3 := tk_same s3
    refine .inr (.inr (.inr ⟨vt, r, zs, [z], rfl, rfl, t3.seq hC, SqT.of upd_same, ?_, ?_, nofun, fun _ _ t ht => ?_⟩))
    · refine Nat.le_trans (?_ : _ ≤ 2000) (by decide)
      simp only [List.length_singleton]
      omega
    · intro e
      subst e
      have eS : S = [] := List.length_eq_zero_iff.mp (by rw [← lz]; rfl)
      refine fin _ _ s3 ?_
      rw [eb, eS]
      exact .tup (SqT.of upd_same) (.cons ((h3.tk t12).tk t3) .nil)
    · have s4 := same_new ht (.tup (zs ++ [z]))
      refine fin _ _ (s3.trans s4) ?_
      rw [eb]
      exact .tup (SqT.of upd_same) (((hZ.tk t3).tk (tk_same s4)).append (.cons (((h3.tk t12).tk t3).tk (tk_same s4)) .nil))
/-- body and statement of every depth -/
theorem all_ly (T : Tp K mg) (FB : Std K "body" "Layer.body" s_Layer_body (He.ma K (He.ga K "Layer") "body")) (FS : Std K "statement" "Layer.statement" s_Layer_statement (He.ma K (He.ga K "Layer") "statement"))
    (D_Layer_make : Dn P w K mg base 1 (He.ma K (He.ga K "Layer") "make") ["self", "place"] (spMake (He.ga K "Layer"))) :
    ∀ n : Nat, Dn P w K mg base (2 + 2 * n) (He.ma K (He.ga K "Layer") "statement") ["self", "statement", "behind", "seconds"] (spLyS K (He.ga K "Layer") n)
  | 0 => (dn_never FS
    (fun _ _ _ _ _ _ us hl => match us, hl with | [_, _, _, _], _ => rfl)
    ).mono (by omega)
  | n + 1 => ok_lyS n T FS D_Layer_make (ok_lyB n T FB (all_ly T FB FS D_Layer_make n))
end
end PK

set_option linter.all false
set_option Elab.async false
set_option maxRecDepth 100000
set_option maxHeartbeats 4000000
/-! KE: enumerate of a tuple or a list. -/
namespace PK
open PySem PySem.Spec PyProof.Rows L2
section
variable {prog : Program} {w : World} {A : Around} {E : Value → Shared → Prop} {s : Shared}
set_option maxHeartbeats 4000000 in
/-- a tuple's iterator gives its next item -/
theorem next_tup_item {it t : Addr} {i : Nat} {its : Array Value} {x : Value} {Q : Value → Shared → Prop} (hit : s.heap.IsTupleIter it t i) (ht : s.heap.IsTuple t its) (hx : its[i]? = some x)
    (hQ : ∀ h', h'.IsTupleIter it t (i + 1) → Heap.SameBut it s.heap h' → Q x { s with heap := h' }) : wpAny (model prog w) A (Builtin.SmallTypes.nextOf (.ref it)) Q E s := by
  obtain ⟨oi, hoi, hci, hdi⟩ := id hit
  obtain ⟨ot, hot, _, nt, hdt⟩ := ht
  unfold Builtin.SmallTypes.nextOf
  refine wpAny_bind (wpAny_callSpecial?_slot (name := Str.ofString "__next__") hit.typeIs F.slot_tuple_iterator_next (wpAny_call_entry F.slot_tuple_iterator_next hit.typeIs F.entry_tuple_iterator_next ?_ (F.args_tuple_iterator_next_1 _)))
  show wpAny (model prog w) _ (field (.ref it) 0 >>= _) _ _ s
  refine wpAny_bind (wpAny_field hoi hdi (x := .ref t) rfl ?_)
  show wpAny (model prog w) _ (if (Value.ref t == Value.none) = true then _ else _) _ _ s
  rw [if_neg (show ¬ ((Value.ref t == Value.none) = true) by exact Bool.false_ne_true)]
  show wpAny (model prog w) _ (field (.ref it) 1 >>= _) _ _ s
  refine wpAny_bind (wpAny_field hoi hdi (x := .int i 0) rfl ?_)
  show wpAny (model prog w) _ (seqItems? (.ref t) >>= _) _ _ s
  refine wpAny_bind (wpAny_seqItems hot hdt ?_)
  simp only [Int.toNat_natCast, hx]
  refine wpAny_bind (wpAny_setField hoi hdi (by simp) (wpAny_pure ⟨x, rfl, wpAny_pure (hQ _ ?_ (Heap.SameBut.update ..))⟩))
  refine ⟨_, Heap.get?_update_self _ hoi (Obj.isFreed_of_fields (Obj.data_mapFields hdi _)), (Obj.cls_mapFields ..).trans hci, ?_⟩
  rw [Obj.data_mapFields hdi]; simp [rawInt]
set_option maxHeartbeats 4000000 in
theorem next_tup_end {it t : Addr} {i : Nat} {its : Array Value} {Q : Value → Shared → Prop} (hh : A.handled = none) (hit : s.heap.IsTupleIter it t i) (ht : s.heap.IsTuple t its) (hx : its[i]? = none)
    (hE : ∀ h' e, Heap.ExtBut it s.heap h' → (∃ o, h'.get? e = some o ∧ o.cls = .type "StopIteration") → E (.ref e) { s with heap := h' }) : wpAny (model prog w) A (Builtin.SmallTypes.nextOf (.ref it)) Q E s := by
  obtain ⟨oi, hoi, hci, hdi⟩ := id hit
  obtain ⟨ot, hot, _, nt, hdt⟩ := ht
  unfold Builtin.SmallTypes.nextOf
  refine wpAny_bind (wpAny_callSpecial?_slot (name := Str.ofString "__next__") hit.typeIs F.slot_tuple_iterator_next (wpAny_call_entry F.slot_tuple_iterator_next hit.typeIs F.entry_tuple_iterator_next ?_ (F.args_tuple_iterator_next_1 _)))
  show wpAny (model prog w) _ (field (.ref it) 0 >>= _) _ _ s
  refine wpAny_bind (wpAny_field hoi hdi (x := .ref t) rfl ?_)
  show wpAny (model prog w) _ (if (Value.ref t == Value.none) = true then _ else _) _ _ s
  rw [if_neg (show ¬ ((Value.ref t == Value.none) = true) by exact Bool.false_ne_true)]
  show wpAny (model prog w) _ (field (.ref it) 1 >>= _) _ _ s
  refine wpAny_bind (wpAny_field hoi hdi (x := .int i 0) rfl ?_)
  show wpAny (model prog w) _ (seqItems? (.ref t) >>= _) _ _ s
  refine wpAny_bind (wpAny_seqItems hot hdt ?_)
  simp only [Int.toNat_natCast, hx]
  refine wpAny_bind (wpAny_rule (wpAny_bind (wpAny_setField hoi hdi (by simp) ?_)))
  show wpAny (model prog w) _ (newExc (.type "StopIteration") [] >>= _) _ _ _
  refine wpAny_bind ?_
  simp only [newExc, newTuple]
  refine wpAny_bind (wpAny_newObj_type ?_ (by size_fits))
  refine wpAny_bind (m := firstArgMember _ _) (wpAny_of_eq (a := Value.none) (by first | exact rfl | (simp only [firstArgMember]; rfl)) ?_)
  refine wpAny_newObj_type ?_ (by size_fits)
  simp only [raiseNew]
  refine wpAny_bind (wpAny_handled ?_)
  first | rw [show A.in1.handled = none by exact hh] | rw [hh]
  refine wpAny_bind (wpAny_pure (wpAny_throw ?_))
  exact hE _ _ (((Heap.SameBut.update ..).extBut.push _).push _) ⟨_, Heap.get?_push_size _ rfl, rfl⟩
end
theorem draws_tup {prog : Program} {w : World} {A : Around} (hh : A.handled = none) (it t : Addr) (hne : t ≠ it) (its : Array Value) :
    Draws prog w A it [it, t] its.size (fun i v => its[i]? = some v) (fun i h => h.IsTupleIter it t i ∧ h.IsTuple t its) where
  live := fun _ _ z => let ⟨o, ho, _⟩ := z.1; ⟨o, ho⟩
  frame := fun _ _ _ z hk => ⟨let ⟨o, ho, r⟩ := z.1; ⟨o, hk it (by simp) o ho, r⟩, let ⟨o, ho, r⟩ := z.2; ⟨o, hk t (by simp) o ho, r⟩⟩
  item := fun i s Q E hi z hQ => next_tup_item z.1 z.2 (x := its[i]) (by simp [hi]) fun h' a b => hQ _ h' s.toks (by simp [hi]) ⟨a, z.2.extBut b.extBut hne⟩ b
  done := fun s Q E z hE => next_tup_end hh z.1 z.2 (by simp) hE
theorem meets_enum_tup (l : Addr) (its : Array Value) (n : Nat) (dct : Option Addr) (sl : Array (Option Value)) :
    Meets (Builtin.«enumerate.__new__» ⟨[.type "enumerate", .ref l], []⟩) (fun _ R s => s.heap.get? l = some { cls := .type "tuple", dict := dct, data := .seq its n, slots := sl } ∧
      R (.ok (.ret (.ref (s.heap.push { cls := .type "tuple_iterator", data := .fields #[.ref l, .int 0 0] }).objs.size)))
        { s with heap := (s.heap.push { cls := .type "tuple_iterator", data := .fields #[.ref l, .int 0 0] }).push { cls := .type "enumerate", data := .fields #[.none, .bool false, .ref s.heap.objs.size, rawInt 0, .none, .none] } }) :=
  .of_wp fun prog w A R s h => by
    obtain ⟨hp, g, d, tk, os⟩ := s; obtain ⟨hl, h⟩ := h
    have hsub := sub_enumerate
    have hL : Heap.IsTuple (Shared.heap ⟨hp, g, d, tk, os⟩) l its := ⟨_, hl, rfl, n, rfl⟩
    wp_walk using AutoSeq1.wpAny_loadPart' hl
    refine wpAny_stack_any fun st => wpAny_pure ?_
    split
    · rename_i c _ _ _ _ _
      cases (c == Value.type "enumerate")
      · wp_walk using AutoSeq1.wpAny_loadPart' hl, wpAny_pyIter_tuple hL
        exact ⟨_, rfl, h⟩
      · wp_walk using AutoSeq1.wpAny_loadPart' hl, wpAny_pyIter_tuple hL
        exact ⟨_, rfl, h⟩
    · wp_walk using AutoSeq1.wpAny_loadPart' hl, wpAny_pyIter_tuple hL
      exact ⟨_, rfl, h⟩
section
variable {prog : Program} {w : World} {A : Around} {E : Value → Shared → Prop} {s : Shared}
theorem call_enum_tup {l : Addr} {its : Array Value} {Q : Value → Shared → Prop} (hL : s.heap.IsTuple l its)
    (h : ∀ h', IsEnum h' (s.heap.objs.size + 1) s.heap.objs.size 0 .none → h'.IsTupleIter s.heap.objs.size l 0 → h'.objs.size = s.heap.objs.size + 2 → (∀ b o, s.heap.get? b = some o → h'.get? b = some o) → Q (.ref (s.heap.objs.size + 1)) { s with heap := h' }) :
    wpAny (model prog w) A (call (.type "enumerate") [.ref l]) Q E s := by
  obtain ⟨⟨cl, dct, dt, sl⟩, hl, hc, n, hd⟩ := hL
  replace hc : cl = .type "tuple" := hc
  replace hd : dt = .seq its n := hd
  subst hc hd
  refine callType_new F.called_enumerate (by decide) (F.typeCall_enumerate_1 _) (F.newCall_enumerate_1 _) (fun obj => F.args_object_init_2 obj _) F.entry_enumerate_new (meets_enum_tup l its n dct sl) ⟨hl, ?_⟩
  have hz : (s.heap.push { cls := .type "tuple_iterator", data := .fields #[.ref l, .int 0 0] }).objs.size = s.heap.objs.size + 1 := Heap.size_push ..
  show _ ∧ _
  rw [hz]
  have he : IsEnum ((s.heap.push { cls := .type "tuple_iterator", data := .fields #[.ref l, .int 0 0] }).push { cls := .type "enumerate", data := .fields #[.none, .bool false, .ref s.heap.objs.size, rawInt 0, .none, .none] }) (s.heap.objs.size + 1) s.heap.objs.size 0 .none := by
    have z := Heap.get?_push_size (s.heap.push { cls := .type "tuple_iterator", data := .fields #[.ref l, .int 0 0] }) (o := { cls := .type "enumerate", data := .fields #[.none, .bool false, .ref s.heap.objs.size, rawInt 0, .none, .none] }) rfl
    rw [hz] at z; exact z
  exact ⟨⟨_, he, rfl⟩, h _ he ⟨_, Heap.get?_push_of_some _ (Heap.get?_push_size _ rfl), rfl, rfl⟩ (by rw [Heap.size_push, hz]) fun b o x => Heap.get?_push_of_some _ (Heap.get?_push_of_some _ x)⟩
end
theorem enum_tup_end {prog : Program} {w : World} {A : Around} {E : Value → Shared → Prop} {s : Shared} {e it l : Addr} {i : Nat} {its : Array Value} {old : Value} {Q : Option Value → Shared → Prop} (hh : A.handled = none) (he : IsEnum s.heap e it i old) (hit : s.heap.IsTupleIter it l i) (ht : s.heap.IsTuple l its) (hx : its[i]? = none)
    (hQ : ∀ h', Heap.ExtBut it s.heap h' → Q none { s with heap := h' }) : wpAny (model prog w) A (pyNext (.ref e)) Q E s := by
  have hT : s.TypeIs (.ref e) "enumerate" := ⟨_, he, rfl⟩
  unfold pyNext
  refine wpAny_bind (wpAny_attempt (wpAny_callSpecial?_slot (name := Str.ofString "__next__") hT F.slot_enumerate_next (wpAny_call_entry F.slot_enumerate_next hT F.entry_enumerate_next ?_ (F.args_enumerate_next_1 _))))
  show wpAny (model prog w) _ (field (.ref e) 2 >>= _) _ _ _
  refine wpAny_bind (wpAny_field he rfl (x := .ref it) rfl ?_)
  refine wpAny_bind (next_tup_end (A := A.in1) hh hit ht hx fun h' x he' hx' => ?_)
  obtain ⟨o, ho, hc⟩ := hx'
  exact wpAny_bind (wpAny_isInstance (T := "StopIteration") (b := true) ⟨o, ho, hc⟩ isSubtype_stop (wpAny_pure (hQ _ he')))
/-- the tuple at a, each item in a new pair -/
def IteT (K : Fg) (a : Addr) : It :=
  ⟨fun i H => ∃ (xs : List V) (x : V), SqT K H a xs ∧ xs[i]? = some x, fun i H v H' => ∃ T x, v = .ref T ∧ H T = none ∧ H' = upd H T (.tup [.int (i : Nat), x]) ∧ ∀ xs, SqT K H a xs → xs[i]? = some x, fun i H => ∃ xs : List V, SqT K H a xs ∧ xs.length ≤ i⟩
theorem turn_enumT {P : Program} {w : World} {K : Fg} {elts : List Expr} {kk : Nat} {tpos : Pos} (a e it : Addr) (ha : a ≠ it) (hea : e ≠ a) :
    Turn P w K (.Tuple elts kk tpos) (IteT K a) [e, it] e (fun i h => (∃ old, IsEnum h e it ((i : Nat) : Int) old) ∧ h.IsTupleIter it a i ∧ e ≠ it) where
  mem := by simp
  obj := fun i h st b hb => by
    obtain ⟨⟨old, he⟩, ⟨o, ho, hc, hd⟩, _⟩ := st
    have e' : b = e ∨ b = it := by simpa using hb
    rcases e' with z | z
    · subst z; exact ⟨_, he, fun v q => nomatch q⟩
    · subst z; exact ⟨o, ho, fun v q => by rw [hd] at q; cases q⟩
  keep := fun i h h' st k => let ⟨⟨old, he⟩, ⟨o, ho, r⟩, hne⟩ := st; ⟨⟨old, k e (by simp) _ he⟩, ⟨o, k it (by simp) o ho, r⟩, hne⟩
  item := by
    intro X hP hw hK hc i pins s σ H E I hf st hg
    subst hP hw hK
    obtain ⟨⟨old, he⟩, hit, hne⟩ := st
    obtain ⟨xs, x, hq, hx⟩ := hg
    obtain ⟨its, rv, p, hz⟩ := I.tuple hq
    obtain ⟨u, hu, ru⟩ := rv.get hx
    have hel : e < s.heap.objs.size := Heap.lt_size he
    have hil : it < s.heap.objs.size := by obtain ⟨_, q, _⟩ := hit; exact Heap.lt_size q
    have pT : s.heap.IsTuple a its.toArray := p
    have hui : its.toArray[i]? = some u := by simpa using hu
    have hlt : i < its.toArray.size := (Array.getElem?_eq_some_iff.mp hui).1
    refine wpAny_pyNext_enum_itemD (draws_tup (A := X.A.in1) (show X.A.in1.handled = none from I.ok.hd hc) it a ha its.toArray) he ⟨hit, pT⟩ hlt hne (by simp [hne, hea]) fun y h' tk hPy ho hst' hT hsz hk => ?_
    obtain rfl : y = u := by rw [hui] at hPy; exact (Option.some.inj hPy).symm
    refine ⟨_, rfl, wpAny_letOwnedTupleGo_enum (s := { s with heap := h', toks := tk + 1 }) ho fun h'' he' sb => ?_⟩
    have hT2 : h''.get? s.heap.objs.size = some { cls := .type "tuple", data := .seq #[.int i tk, y] } := (sb.2 _ (Nat.ne_of_gt hel)).trans hT
    have new : ObjOk X.prog X.w (upd H s.heap.objs.size (.tup [.int (i : Nat), x])) h'' s.heap.objs.size (.tup [.int (i : Nat), x]) :=
      ⟨by show 2 ≤ sizeLine; decide, [.int i tk, y], .cons ⟨_, rfl⟩ (.cons ru .nil), ⟨_, hT2, rfl, _, rfl⟩⟩
    have I1 : Inv X pins σ (upd H s.heap.objs.size (.tup [.int (i : Nat), x])) { s with heap := h'', toks := tk + 1 } :=
      I.turnedNew (ch := [e, it]) (fun b ob hb q => (sb.2 b (fun z => hb (by simp [z]))).trans (hk b ob (fun z => hb (by simp [z])) (fun z => hb (by simp [z])) q)) hf (Nat.le_refl _) new
    refine ⟨.ref s.heap.objs.size, _, I1, rfl, ⟨_, x, rfl, I.hok.fresh (Nat.le_refl _), rfl, fun ys hy => by rw [I.tuple_inj hy hq]; exact hx⟩, ⟨⟨y, ?_⟩, ?_, hne⟩, fun b hb => ?_⟩
    · have e1 : ((i + 1 : Nat) : Int) = (i : Int) + 1 := by omega
      rw [e1]; exact he'
    · obtain ⟨o, q, r⟩ := hst'.1
      exact ⟨o, (sb.2 it (Ne.symm hne)).trans q, r⟩
    · have hb' : b < s.heap.objs.size := by
        have e' : b = e ∨ b = it := by simpa using hb
        rcases e' with z | z
        · subst z; exact hel
        · subst z; exact hil
      rw [upd_ne (Nat.ne_of_lt hb')]
      exact (hf b hb).1
  done := by
    intro X hP hw hK hc i pins s σ H E I hf st hg
    subst hP hw hK
    obtain ⟨⟨old, he⟩, hit, hne⟩ := st
    obtain ⟨xs, hq, hx⟩ := hg
    obtain ⟨its, rv, p, hz⟩ := I.tuple hq
    have pT : s.heap.IsTuple a its.toArray := p
    obtain ⟨f0, f1, f2, f3, f4, f5⟩ := hf it (by simp)
    have hl := rv.length
    exact enum_tup_end (I.ok.hd hc) he hit pT (by simp; omega) fun h' eb => ⟨rfl, I.turned (t' := s.toks) (fun b o hb q => eb b o hb q) f0 f1 f3 f4 f5⟩
  self := fun A i s Q E st h => let ⟨⟨_, he⟩, _⟩ := st; wpAny_pyIter_enum he h
/-- enumerate of a list or of a tuple -/
def iEnumA (K : Fg) (ta : TA) : TI := fun σ H R => ta σ H fun vs H1 => ∃ a xs, vs = [.ref a] ∧ ((SqL K H1 a xs ∧ R (Ite K a) H1) ∨ (SqT K H1 a xs ∧ R (IteT K a) H1))
theorem pi_enumA {X : Cx} {e : Expr} {ta : TA} {p pos tpos : Pos} {elts : List Expr} {kk : Nat} (hg : Gl X "enumerate") (hm : X.mg "enumerate" = none) (ha : PA X [e] ta) (hs : starEach [e] X.env = [(false, eval e X.env)] := by rfl) :
    PI X (.Tuple elts kk tpos) (.Call (.Name "enumerate" p) [e] [] pos) (iEnumA X.K ta) := by
  refine ⟨fun pins s σ H R I h => ?_⟩
  refine Call_ (ld_blt I hg hm boot_enumerate (PyProof.Rows.callWith_type1 (thn (ha.run pos pins s σ H _ I h) fun us s1 ⟨vs, H1, I1, r1, q1⟩ => ?_) hs rfl))
  obtain ⟨a, xs, ex, q⟩ := q1
  subst ex
  have hf : ∀ b ∈ [s1.heap.objs.size + 1, s1.heap.objs.size], s1.heap.objs.size ≤ b := fun b hb => by
    have e' : b = s1.heap.objs.size + 1 ∨ b = s1.heap.objs.size := by simpa using hb
    omega
  cases r1 with
  | cons r rr =>
    cases rr
    cases r
    rcases q with ⟨hq, q⟩ | ⟨hq, q⟩
    · obtain ⟨its, rv, p', hz⟩ := I1.list hq
      refine call_enumerate_list p'.isList fun h' he hit hsz hk => wpAny_pyIter_enum he ?_
      exact ⟨s1.heap.objs.size + 1, [s1.heap.objs.size + 1, s1.heap.objs.size], _, _, H1, rfl, I1.kept (t' := s1.toks) hk, turn_enum a _ _, ⟨⟨.none, he⟩, hit, Nat.succ_ne_self _⟩, fun b hb => I1.fpOk (hf b hb) (I1.hok.fresh (hf b hb)), q⟩
    · obtain ⟨its, rv, p', hz⟩ := I1.tuple hq
      have pT : s1.heap.IsTuple a its.toArray := p'
      have la : a < s1.heap.objs.size := by obtain ⟨o, e, _⟩ := pT; exact Heap.lt_size e
      refine call_enum_tup pT fun h' he hit hsz hk => wpAny_pyIter_enum he ?_
      exact ⟨s1.heap.objs.size + 1, [s1.heap.objs.size + 1, s1.heap.objs.size], _, _, H1, rfl, I1.kept (t' := s1.toks) hk, turn_enumT a (s1.heap.objs.size + 1) s1.heap.objs.size (Nat.ne_of_lt la) (Nat.ne_of_gt (Nat.lt_succ_of_lt la)), ⟨⟨.none, he⟩, hit, Nat.succ_ne_self _⟩, fun b hb => I1.fpOk (hf b hb) (I1.hok.fresh (hf b hb)), q⟩
theorem walk_enumT {K : Fg} {a : Addr} {xs : List V} : Walk (IteT K a) xs.length (fun H => SqT K H a xs) (YPair (fun i => some (.int (i : Nat))) (fun i => xs[i]?)) := by
  refine ⟨fun i _ hi q => ⟨xs, xs[i], q, by simp [hi]⟩, fun _ q => ⟨xs, q, Nat.le_refl _⟩, fun i H v H' _ q y => ?_⟩
  obtain ⟨T, x, h1, h2, h3, h4⟩ := y
  exact ⟨T, .int (i : Nat), x, h1, h2, h3, rfl, h4 xs q⟩
/-! ### name = {k: v for ..} -/
theorem sw_dict {kx vx : Expr} {gs : List Comprehension} {scope : Scope} {pos py : Pos} {y : Str} {l : Nat} {env : Env} (hk : env.scope.kind = .function) (hy : env.scope.names.lookup y = some .local) (hl : (py.line == pos.line) = true)
    (ha : (scope.names.any fun z => z.1 == y && (z.2 == .local || z.2 == .cell)) = false) : swapsWith (.DictComp kx vx gs scope pos) (some (.Name y py)) l env = pure true := by
  have ky : env.kindOf y = some .local := hy
  have hb : env.blockKind = .function := by unfold Env.blockKind; rw [hk]; rfl
  have ha' : (scope.names.any fun (n, k) => n == y && (k == .local || k == .cell)) = false := ha
  unfold swapsWith
  simp only [hb, ky, ha', Expr.pos, hl]
  rfl
section
variable {X : Cx}
theorem ps_setDc {i : Nat} {y : Str} {py : Pos} {kx vx tg iter : Expr} {ifs : List Expr} {scope : Scope} {own : List (Str × Nat)} {pos spos : Pos} {wi : TI} {g : TG} {tt : TT} {tk tv : TE} (hc : X.calm = true) (hN : X.N.Nodup) (hy : X.N[i]? = some y)
    (hyl : X.env.scope.names.lookup y = some .local) (hsw : swapsWith (.DictComp kx vx [⟨tg, iter, ifs, 0⟩] scope pos) (some (.Name y py)) spos.line X.env = pure true) (hi : PI X tg iter wi) (ok : BlkOk X.N X.env.scope scope own)
    (hg : ∀ (s : Shared) (H : Hp) (C : Addr) (cl : List (Str × Addr)) (fp : List Addr), PG (X.blk s H scope (compEnvC scope cl C X.env) fp) tg g)
    (ht : ∀ (s : Shared) (H : Hp) (C : Addr) (cl : List (Str × Addr)) (fp : List Addr), PTs (X.blk s H scope (compEnvC scope cl C X.env) fp) ifs tt)
    (hk : ∀ (s : Shared) (H : Hp) (C : Addr) (cl : List (Str × Addr)) (fp : List Addr), PE (X.blk s H scope (compEnvC scope cl C X.env) fp) kx tk)
    (he : ∀ (s : Shared) (H : Hp) (C : Addr) (cl : List (Str × Addr)) (fp : List Addr), PE (X.blk s H scope (compEnvC scope cl C X.env) fp) vx tv)
    (hs : ∀ x, foldedSetIterable iter X.env x = pure x := by intro _; rfl) :
    PS X (.Assign [.Name y py] (.DictComp kx vx [⟨tg, iter, ifs, 0⟩] scope pos) spos) (tAsg (tDc wi g tt tk tv (own.map (·.2))) (gName i)) := by
  refine ⟨fun pins s σ H D I h => ?_⟩
  rw [exec_Assign_Name_used _ _ _ _ hsw]
  refine wpAny_bind (wpAny_standAt (wpAny_bind ?_))
  show wpAny _ X.A (do let _ ← comprehension (.DictComp kx vx [⟨tg, iter, ifs, 0⟩] scope pos) scope X.env (firstIterPos [⟨tg, iter, ifs, 0⟩] pos) newDict false (eval iter X.env) (some (assign (.Name y py) X.env))) _ _ s
  have h' : tDc wi g tt tk tv (own.map (·.2)) σ H (fun x H1 => gName i x σ H1 D.nx) := h
  refine wpAny_bind (thn (dc_core (Qf := fun _ s' => SP X pins D .next s') hc hN I hi ok hg ht hk he hs h' fun L C s' m H' I' q hn f => ?_) fun _ s' hq => wpAny_pure (wpAny_pure hq))
  show wpAny _ _ (assign (.Name y py) X.env (.ref L)) _ _ _
  obtain ⟨f0, f1, f2, f3, f4, f5⟩ := f
  refine wpAny_assign_Name (store_ok2 (v := V.ref L) I' hN hy (.inl hyl) rfl (fun s2 I2 ⟨a, sb, ha⟩ => ?_) (.inr hyl))
  have haC : C ≠ a := ha.elim (fun z => by rw [z]; exact f1) fun z e => f4 y a z e.symm
  exact ⟨m, hn.sameBut sb haC, fun h3 sb3 => ⟨_, H', I2.turned (t' := s2.toks) (fun b o hb e => (sb3.2 b hb).trans e) f0 f1 f3 f4 f5, q⟩⟩
end
end PK

set_option linter.all false
set_option Elab.async false
set_option maxRecDepth 100000
set_option maxHeartbeats 4000000
/-! KD: the program laid. -/
namespace PK
open PySem PySem.Spec PyProof.Rows L2
/-- {k: v for x in it}: P tells what the new dict holds -/
theorem dc_acc {J : It} {n : Nat} {G : Hp → Prop} {Y : Nat → Hp → V → Hp → Prop} (w : Walk J n G Y) (P : Nat → List (Key × V) → Prop) {g : TG} {tk tv : TE} {vs : List Nat} {σ : L2.St} {H1 : Hp} {D : Addr} {Qd : Hp → Prop} (nD : H1 D = none)
    (hG : ∀ H, Same H1 H → G H) (h0 : P 0 []) (hn : n < sizeLine) (hl : ∀ i kvs, P i kvs → kvs.length ≤ i)
    (hs : ∀ i x kvs H H', i < n → Same H1 H → P i kvs → Y i H x H' → ∀ (N : V → V → Hp → Prop) (E : Hp → Prop),
      (∀ k z H5, Same H H5 → P (i + 1) (putK kvs k z) → N (kV k) z H5) →
      g x (wipe σ vs) H' fun σ2 H2 => wipe σ2 vs = wipe σ vs ∧ tYes σ2 H2 fun b H3 => if b = true then tk σ2 H3 fun y H4 => tv σ2 H4 fun z H5 => N y z H5 else E H3)
    (hd : ∀ H kvs, Same H1 H → H D = some (.dK kvs) → P n kvs → Qd H) :
    ∃ W : Nat → Nat → Hp → Prop, (∃ m, W 0 m (upd H1 D (.dK []))) ∧ ∀ i m H, W i m H →
      (J.stop i H ∧ Qd H) ∨ (J.go i H ∧ ∃ Nx : Hp → Prop, (∀ H', Nx H' → ∃ m', m' < m ∧ W (i + 1) m' H') ∧ ∀ x H', J.yld i H x H' → g x (wipe σ vs) H' fun σ2 H2 => wipe σ2 vs = wipe σ vs ∧ tYes σ2 H2 fun b H3 =>
        if b = true then tk σ2 H3 fun y H4 => tv σ2 H4 fun z H5 => ∃ kvs k, y = kV k ∧ H5 D = some (.dK kvs) ∧ kvs.length < sizeLine ∧ Nx (upd H5 D (.dK (putK kvs k z))) else Nx H3) := by
  refine ⟨fun i m H => m = n - i ∧ i ≤ n ∧ Same H1 H ∧ ∃ kvs, H D = some (.dK kvs) ∧ P i kvs, ⟨n, by simp, Nat.zero_le _, same_new nD _, [], upd_same, h0⟩, ?_⟩
  rintro i m H ⟨rfl, hi, s, kvs, e, p⟩
  by_cases hlt : i < n
  · refine .inr ⟨w.goes i H hlt (hG H s), fun H' => Same H1 H' ∧ ∃ kvs, H' D = some (.dK kvs) ∧ P (i + 1) kvs, fun H' ⟨a, kv, b, c⟩ => ⟨n - (i + 1), by omega, rfl, hlt, a, kv, b, c⟩, fun x H' y => ?_⟩
    refine hs i x kvs H H' hlt s p (w.yields i H x H' hlt (hG H s) y) (fun y z H5 => ∃ kvs k, y = kV k ∧ H5 D = some (.dK kvs) ∧ kvs.length < sizeLine ∧ Same H1 (upd H5 D (.dK (putK kvs k z))) ∧ ∃ kv, (upd H5 D (.dK (putK kvs k z))) D = some (.dK kv) ∧ P (i + 1) kv) _ fun k z H5 s5 p5 => ?_
    have := hl i kvs p
    refine ⟨kvs, k, rfl, s5 _ _ e, by omega, fun b o q => ?_, _, upd_same, p5⟩
    rw [upd_ne (ne_of_none q nD)]
    exact s5 _ _ (s _ _ q)
  · have e' : i = n := by omega
    subst e'
    exact .inl ⟨w.stops H (hG H s), hd H kvs s e p⟩
def ixOf (L P : List Str) : Ix := ⟨fun x => ((L.idxOf x : Nat) : Int) + 1, fun x => P.idxOf x⟩
def procLD (r : Nat × Pls) : PyData := .tuple [natD r.1, .tuple (r.2.map oplD)]
def laidOf (p : Prog) : List (Nat × Pls) := p.ps.map fun q => layP (ixOf p.ls p.heads) q.2
def laidD (l : List (Nat × Pls)) : PyData := .tuple (l.map procLD)
def spLyInit (K : Fg) (C : Addr) : Sp := fun vs H Q _ => ∃ (me dx dl dn : Addr), vs = [.ref me, .ref dl, .ref dn] ∧ H me = some (.ins C dx []) ∧
  ∀ H' l t, H l = none → Kp [me] H H' → Tk H H' → H' me = some (.ins C dx (lyF dl dn l)) → H' l = some (.lst [.ref t]) → Dat K H' (.ref t) (plD .fin) → Q .non H'
def spLaid (K : Fg) : Sp := fun vs H Q _ => ∃ (v : V) (p : Prog), vs = [v] ∧ Dat K H v (progD p) ∧ Valid p ∧ ∀ r H', Same H H' → Dat K H' r (laidD (laidOf p)) → Q r H'
section
variable {P : Program} {w : World} {K : Fg} {mg : Str → Option Value} {base : Heap}
theorem ok_lyInit (T : Tp K mg) (F : Std K "__init__" "Layer.__init__" s_Layer_init (He.ma K (He.ga K "Layer") "__init__")) : Dn P w K mg base 1 (He.ma K (He.ga K "Layer") "__init__") ["self", "letters", "numbers"] (spLyInit K (He.ga K "Layer")) := by
  refine dn_mk F sc_Layer_init
    (fun _ _ _ _ _ _ us hl => match us, hl with | [_, _, _], _ => rfl)
    (fun vs H Q E h => ?_) fun cdv A outer s H vs Q E hr h => ?_
  · obtain ⟨me, dx, dl, dn, rfl, _⟩ := h; rfl
  obtain ⟨me, dx, dl, dn, rfl, ho, q⟩ := h
  refine ⟨_, (pss_cons (ps_fld (pv 0) (pv 1) rfl)
    (pss_cons (ps_fld (pv 0) (pv 2) rfl)
    (pss_one (ps_fld (pv 0) (pe_lst (pa_cons (pe_tup (pa_cons pe_str pa_nil)) pa_nil)) rfl)))), ?_⟩
  refine ⟨_, rfl, _, rfl, me, _, dx, [], rfl, ho, T.cl_Layer, T.n_Layer_letters, (by show 0 < 1000; decide), ?_⟩
  refine ⟨_, rfl, _, rfl, me, _, dx, _, rfl, upd_same, T.cl_Layer, T.n_Layer_numbers, (by show 1 < 1000; decide), ?_⟩
  rw [upd_upd]
  refine ⟨(by show 1 ≤ sizeLine; decide), fun t ht => ⟨(by show 1 ≤ sizeLine; decide), fun l hl => ?_⟩⟩
  have t1 := tk_ins (o' := .ins (He.ga K "Layer") dx (putF "numbers" (.ref dn) (putF "letters" (.ref dl) []))) ho
  generalize hH1 : upd H me (.ins (He.ga K "Layer") dx (putF "numbers" (.ref dn) (putF "letters" (.ref dl) []))) = H1 at ht hl t1
  have e1 : H1 me = some (.ins (He.ga K "Layer") dx (putF "numbers" (.ref dn) (putF "letters" (.ref dl) []))) := by rw [← hH1]; exact upd_same
  have k1 : Kp [me] H H1 := by rw [← hH1]; exact kp_upd (by simp) _
  have s2 := same_new ht (.tup [.str "end"])
  have s3 := same_new hl (.lst [.ref t])
  have s23 := s2.trans s3
  refine ⟨_, rfl, me, _, dx, _, rfl, s23 _ _ e1, T.cl_Layer, T.n_Layer_found, (by
    show (putF "numbers" (.ref dn) (putF "letters" (.ref dl) [])).length < 1000
    have e : (putF "numbers" (.ref dn) (putF "letters" (.ref dl) [])).length ≤ 2 := by
      simp only [putF]; split <;> simp
    omega), ?_⟩
  rw [ly_put]
  have hl1 := s2.free hl
  have nl : l ≠ me := (ne_of_none e1 hl1).symm
  have nlH : H l = none := by rw [← hH1, upd_ne nl] at hl1; exact hl1
  have t4 := tk_ins (o' := .ins (He.ga K "Layer") dx (lyF dl dn l)) (s23 _ _ e1)
  refine q _ l t nlH (k1.trans ((Kp.of s23).trans (kp_upd (by simp) _))) (t1.trans ((tk_same s23).trans t4)) upd_same (by rw [upd_ne nl]; exact upd_same) ?_
  exact Dat.tk t4 (.tup (SqT.of (s3 _ _ upd_same)) (.cons (.str _) .nil))
theorem ok_laid (T : Tp K mg) (F : Std K "laid" "laid" s_laid (He.ga K "laid"))
    (D_Layer_init : Dn P w K mg base 1 (He.ma K (He.ga K "Layer") "__init__") ["self", "letters", "numbers"] (spLyInit K (He.ga K "Layer")))
    (D_Layer_body : Dn P w K mg base 59 (He.ma K (He.ga K "Layer") "body") ["self", "statements", "behind", "seconds"] (spLyB K (He.ga K "Layer") 28)) :
    Dn P w K mg base 60 (He.ga K "laid") ["program"] (spLaid K) := by
  refine dn_mk F sc_laid
    (fun _ _ _ _ _ _ us hl => match us, hl with | [_], _ => rfl)
    (fun vs H Q E h => ?_) fun cdv A outer s H vs Q E hr h => ?_
  · obtain ⟨v, p, rfl, _⟩ := h; rfl
  obtain ⟨v, p, rfl, hd, vp, q⟩ := h
  obtain ⟨a, al, ap, ls, ps, rfl, hS, hL, hLd, hP, hPd⟩ := prog_get hd
  have ll : ls.length = p.ls.length := by rw [hLd.length, List.length_map]
  have lp : ps.length = p.ps.length := by rw [hPd.length, List.length_map]
  have v2 := vp.l2
  have v4 := vp.p2
  have z40 : ∀ {k : Nat}, k ≤ 1000 → k < sizeLine := fun h => Nat.lt_of_le_of_lt h (by decide)
  refine ⟨_, (pss_cons (ps_asg (pv 0) (pg_tup (by rfl) (pgs_cons (pg_name (i := 1) sc_laid.nd rfl (Or.inl rfl)) (pgs_cons (pg_name (i := 2) sc_laid.nd rfl (Or.inl rfl)) pgs_nil))))
    (pss_cons (ps_setDc (i := 5) (own := [("index", 3), ("name", 4)]) (g := (gTup K 2 (gCons (gName 3) (gCons (gName 4) gNil)))) (tt := tYes) rfl sc_laid.nd rfl rfl (sw_dict rfl rfl rfl (by decide +kernel)) (pi_enumA rfl T.b_enumerate (pa_cons (pv 1) pa_nil)) (blkOk_by (N := N_laid) (sc := defScope s_laid) (own := [("index", 3), ("name", 4)]) (by decide +kernel)) (fun _ _ _ _ _ => (pg_tup (by rfl) (pgs_cons (pg_name (i := 3) sc_laid.nd rfl (Or.inl rfl)) (pgs_cons (pg_name (i := 4) sc_laid.nd rfl (Or.inl rfl)) pgs_nil)))) (fun _ _ _ _ _ => pts_nil) (fun _ _ _ _ _ => (pv 4)) (fun _ _ _ _ _ => (pe_op (oAddK (K := K) rfl) (pv 3) pe_int)))
    (pss_cons (ps_setDc (i := 7) (own := [("index", 3), ("name", 4), ("body", 6)]) (g := (gTup K 2 (gCons (gName 3) (gCons (gTup K 2 (gCons (gName 4) (gCons (gName 6) gNil))) gNil)))) (tt := tYes) rfl sc_laid.nd rfl rfl (sw_dict rfl rfl rfl (by decide +kernel)) (pi_enumA rfl T.b_enumerate (pa_cons (pv 2) pa_nil)) (blkOk_by (N := N_laid) (sc := defScope s_laid) (own := [("index", 3), ("name", 4), ("body", 6)]) (by decide +kernel)) (fun _ _ _ _ _ => (pg_tup (by rfl) (pgs_cons (pg_name (i := 3) sc_laid.nd rfl (Or.inl rfl)) (pgs_cons (pg_tup (by rfl) (pgs_cons (pg_name (i := 4) sc_laid.nd rfl (Or.inl rfl)) (pgs_cons (pg_name (i := 6) sc_laid.nd rfl (Or.inl rfl)) pgs_nil))) pgs_nil)))) (fun _ _ _ _ _ => pts_nil) (fun _ _ _ _ _ => (pv 4)) (fun _ _ _ _ _ => (pv 3)))
    (pss_cons (ps_set (i := 8) sc_laid.nd rfl (Or.inl rfl) (pe_lst pa_nil))
    (pss_cons (ps_for PassesOwn.never rfl (iTupK (K := K) rfl (pv 2)) (pg_tup (by rfl) (pgs_cons (pg_name (i := 4) sc_laid.nd rfl (Or.inl rfl)) (pgs_cons (pg_name (i := 6) sc_laid.nd rfl (Or.inl rfl)) pgs_nil))) (pss_cons (ps_set (i := 9) sc_laid.nd rfl (Or.inl rfl) (pe_mk D_Layer_init (hr.mono (by omega)) T.k_Layer T.g_Layer (pa_cons (pv 5) (pa_cons (pv 7) pa_nil))))
    (pss_cons (ps_set (i := 10) sc_laid.nd rfl (Or.inl rfl) (pe_m D_Layer_body (hr.mono (by omega)) (pv 9) T.cl_Layer T.m_Layer_body (pa_cons (pv 6) (pa_cons pe_int (pa_cons (pe_tup pa_nil) pa_nil)))))
    (pss_one (ps_expr (pe_bm PySem.F.plainAttrs_list PySem.F.slot_list_append PySem.F.type_list_append mt_append (pv 8) (pa_cons (pe_tup (pa_cons (pv 10) (pa_cons (pe_callTy (tupK (K := K) rfl) (by rfl) T.b_tuple (by decide +kernel) (pa_cons (fldK (K := K) rfl (pv 9) rfl) pa_nil)) pa_nil))) pa_nil)))))))
    (pss_one (ps_ret (pe_callTy (tupK (K := K) rfl) (by rfl) T.b_tuple (by decide +kernel) (pa_cons (pv 8) pa_nil))))))))), ?_⟩
  refine ⟨_, rfl, a, _, rfl, hS, rfl, _, _, rfl, _, _, rfl, rfl, ?_⟩
  -- by_name
  refine ⟨_, rfl, al, ls, rfl, .inr ⟨hL, fun dl nD => dc_acc walk_enumT (fun i kvs => kvs.length ≤ i ∧ ∀ j x, j < i → p.ls[j]? = some x → valV kvs (.inr x) = some (.int ((j : Nat) + 1))) nD (fun H1 s1 => (tk_same s1).seq hL) ⟨Nat.le_refl _, fun j x h => by omega⟩ (by rw [ll]; exact z40 (by omega)) (fun _ _ h => h.1) ?_ ?_⟩⟩
  · rintro i y kvs H1 H2 hi s1 ⟨p1, p2⟩ ⟨t, x1, x2, rfl, hT, rfl, e1, e2⟩ N E1 hN
    cases e1
    have e2 : ls[i]? = some x2 := e2
    obtain ⟨x, hx, hxd⟩ := dats_at hLd e2
    rw [hxd.inv_str]
    have s2 := same_new hT (.tup [.int (i : Nat), .str x])
    refine ⟨t, _, rfl, SqT.of upd_same, rfl, _, _, rfl, _, _, rfl, rfl, rfl, tyes ⟨_, rfl, _, rfl, .inl ⟨_, _, rfl, rfl, ?_⟩⟩⟩
    refine hN (.inr x) _ _ s2 ⟨Nat.le_trans (length_putK _ _ _) (by omega), fun j z hj hz => ?_⟩
    rw [valV_put]
    by_cases hjz : j = i
    · subst hjz
      rw [hx] at hz; cases hz
      rw [if_pos rfl]
    · have hne : ¬ ((Sum.inr z : Key) = .inr x) := fun h => by
        have h := Sum.inr.inj h
        subst h
        exact hjz (nd_ix vp.dl hz hx)
      rw [if_neg hne]
      exact p2 j z (by omega) hz
  rintro H1 kl s1 ekl ⟨_, pkl⟩
  rw [ll] at pkl
  -- numbers
  refine ⟨_, rfl, ap, ps, rfl, .inr ⟨(tk_same s1).seq hP, fun dn nD2 => dc_acc walk_enumT (fun i kvs => kvs.length ≤ i ∧ ∀ j x, j < i → p.heads[j]? = some x → valV kvs (.inr x) = some (.int (j : Nat))) nD2 (fun H2 s2 => (tk_same (s1.trans s2)).seq hP) ⟨Nat.le_refl _, fun j x h => by omega⟩ (by rw [lp]; exact z40 (by omega)) (fun _ _ h => h.1) ?_ ?_⟩⟩
  · rintro i y kvs H2 H3 hi s2 ⟨p1, p2⟩ ⟨t, x1, x2, rfl, hT, rfl, e1, e2⟩ N E1 hN
    cases e1
    have e2 : ps[i]? = some x2 := e2
    obtain ⟨pr, hx, hxd⟩ := dats_at hPd e2
    have s3 := same_new hT (.tup [.int (i : Nat), x2])
    have s123 := s1.trans (s2.trans s3)
    obtain ⟨c, bv, rfl, hc, hb⟩ := proc_get (hxd.tk (tk_same s123))
    have hxh : p.heads[i]? = some pr.1 := by
      show (p.ps.map (·.1))[i]? = _
      rw [List.getElem?_map, hx]; rfl
    refine ⟨t, _, rfl, SqT.of upd_same, rfl, _, _, rfl, _, _, rfl, ⟨c, _, rfl, hc, rfl, _, _, rfl, _, _, rfl, rfl, ?_⟩⟩
    refine ⟨rfl, rfl, tyes ⟨_, rfl, _, rfl, ?_⟩⟩
    refine hN (.inr pr.1) _ _ s3 ⟨Nat.le_trans (length_putK _ _ _) (by omega), fun j z hj hz => ?_⟩
    rw [valV_put]
    by_cases hjz : j = i
    · subst hjz
      rw [hxh] at hz; cases hz
      rw [if_pos rfl]
    · have hne : ¬ ((Sum.inr z : Key) = .inr pr.1) := fun h => by
        have h := Sum.inr.inj h
        subst h
        exact hjz (nd_ix vp.dh hz hxh)
      rw [if_neg hne]
      exact p2 j z (by omega) hz
  rintro H2 kn s2 ekn ⟨_, pkn⟩
  rw [lp] at pkn
  -- found, the loop
  refine ⟨Nat.zero_le _, fun lf hlf => ?_⟩
  have sf := same_new hlf (.lst [])
  generalize hH3 : upd H2 lf (.lst []) = H3 at sf
  have e3 : H3 lf = some (.lst []) := by rw [← hH3]; exact upd_same
  have s123 := s1.trans (s2.trans sf)
  have t3 := tk_same s123
  have edl := sf _ _ (s2 _ _ ekl)
  have edn := sf _ _ ekn
  have nlf : H lf = none := by
    rcases e : H lf with _ | o
    · rfl
    · have := s2 _ _ (s1 _ _ e); rw [hlf] at this; cases this
  have ndl : dl ≠ lf := ne_of edl e3 nofun
  have ndn : dn ≠ lf := ne_of edn e3 nofun
  refine ⟨_, rfl, ap, rfl, ⟨_, t3.seq hP⟩, for_it walk_tup (fun i σ H' => ∃ (xs : List V) (v4 v6 v9 v10 : Option V), σ = [some (.ref a), some (.ref al), some (.ref ap), none, v4, some (.ref dl), v6, some (.ref dn), some (.ref lf), v9, v10] ∧ Kp [lf] H3 H' ∧ Tk H3 H' ∧ H' lf = some (.lst xs) ∧ Dats K H' xs (((laidOf p).take i).map procLD))
    ⟨[], none, none, none, none, rfl, .refl _ _, .refl _, e3, .nil⟩ (fun i σ H' _ ⟨_, _, _, _, _, _, _, t, _⟩ => t.seq (t3.seq hP)) ?_ ?_⟩
  · rintro i x σ H40 H4 hi ⟨xs, v4', v6', v9', v10', rfl, k4, t4, e4, d4⟩ ⟨rfl, hx⟩
    obtain ⟨pr, hpr, hxd⟩ := dats_at hPd hx
    obtain ⟨c, bv, rfl, hc, hb⟩ := proc_get (hxd.tk (t3.trans t4))
    have mem := List.mem_of_getElem? hpr
    refine ⟨c, _, rfl, hc, rfl, _, _, rfl, _, _, rfl, rfl, ?_⟩
    refine ⟨_, rfl, _, rfl, fun me dx hme hdx hne => ?_⟩
    have sx := same_new hdx (.own me)
    have nme : (upd H4 dx (.own me)) me = none := by rw [upd_ne hne.symm]; exact hme
    have sy := same_new nme (.ins (He.ga K "Layer") dx [])
    generalize hH5 : upd (upd H4 dx (.own me)) me (.ins (He.ga K "Layer") dx []) = H5 at sy
    have e5 : H5 me = some (.ins (He.ga K "Layer") dx []) := by rw [← hH5]; exact upd_same
    have s5 := sx.trans sy
    have edl5 := s5 _ _ (k4 _ _ edl (by simpa using ndl))
    have edn5 := s5 _ _ (k4 _ _ edn (by simpa using ndn))
    have elf5 := s5 _ _ e4
    refine ⟨me, dx, dl, dn, rfl, e5, fun H6 l t hl k6 t6 o6 el6 dt6 => ⟨rfl, ?_⟩⟩
    have nl1 : dl ≠ me := fun z => by rw [z, e5] at edl5; cases edl5
    have nl2 : dn ≠ me := fun z => by rw [z, e5] at edn5; cases edn5
    have nl3 : lf ≠ me := fun z => by rw [z, e5] at elf5; cases elf5
    have edl6 := k6 _ _ edl5 (by simpa using nl1)
    have edn6 := k6 _ _ edn5 (by simpa using nl2)
    have elf6 := k6 _ _ elf5 (by simpa using nl3)
    -- the body
    refine ⟨_, rfl, me, _, _, rfl, o6, ly_no _ _ _ (by decide +kernel) (by decide +kernel) (by decide +kernel), _, rfl, Nat.zero_le _, fun z hz => ?_⟩
    have s7 := same_new hz (.tup [])
    have ixl : ∀ x ∈ p.ls, valV kl (.inr x) = some (.int ((ixOf p.ls p.heads).l x)) := fun x hx => by
      have h1 := List.idxOf_lt_length_iff.mpr hx
      exact pkl _ _ h1 (by rw [List.getElem?_eq_getElem h1, List.getElem_idxOf h1])
    have ixh : ∀ x ∈ p.heads, valV kn (.inr x) = some (.int ((ixOf p.ls p.heads).h x : Nat)) := fun x hx => by
      have h1 := List.idxOf_lt_length_iff.mpr hx
      have h2 : List.idxOf x p.heads < p.ps.length := by simpa using h1
      exact pkn _ _ h2 (by show p.heads[List.idxOf x p.heads]? = some x; rw [List.getElem?_eq_getElem h1, List.getElem_idxOf h1])
    have hi7 : LyIn K (He.ga K "Layer") me dx dl dn l (ixOf p.ls p.heads) p.ls p.heads (.ref z) [] [.ref t] [some .fin] (upd H6 z (.tup [])) :=
      ⟨⟨s7 _ _ o6, ⟨kl, s7 _ _ edl6, ixl⟩, ⟨kn, s7 _ _ edn6, ixh⟩⟩, s7 _ _ el6, .cons (dt6.tk (tk_same s7)) .nil, .tup (SqT.of upd_same) .nil⟩
    have pl := vp.pl _ mem
    have dep := vp.dep _ mem
    refine ⟨me, dx, dl, dn, l, ixOf p.ls p.heads, p.ls, p.heads, bv, _, pr.2, 0, [], _, _, rfl, hi7, hb.tk ((tk_same s5).trans (t6.trans (tk_same s7))), vp.wf _ mem, ⟨by show 0 + depB pr.2 ≤ 1000; omega, .inr ⟨by show depB pr.2 + 13 < 28; omega, dep, by simp⟩⟩, ?_, ?_⟩
    · show 1 + plB 0 pr.2 ≤ 1000000
      omega
    intro H8 xs8 k8 t8 e8 d8
    have k48 : Kp [lf] H4 H8 := fun b o e m => by
      have b5 := s5 _ _ e
      have nb : b ≠ me := fun z => by rw [z, hme] at e; cases e
      have b6 := k6 _ _ b5 (by simpa using nb)
      refine k8 _ _ (s7 _ _ b6) ?_
      have : b ≠ l := fun z => by rw [z, hl] at b5; cases b5
      simpa using this
    have t48 : Tk H4 H8 := (tk_same s5).trans (t6.trans ((tk_same s7).trans t8))
    have o8 : H8 me = some (.ins (He.ga K "Layer") dx (lyF dl dn l)) := k8 _ _ (s7 _ _ o6) (by
      have : me ≠ l := fun z => by rw [z, hl] at e5; cases e5
      simpa using this)
    have nlf8 : lf ≠ l := fun z => by rw [z, hl] at elf5; cases elf5
    have elf8 : H8 lf = some (.lst xs) := k8 _ _ (s7 _ _ elf6) (by simpa using nlf8)
    have lxs : xs.length ≤ i := by rw [d4.length]; simp; omega
    refine ⟨_, rfl, .inl ⟨rfl, _, SqL.of elf8⟩, _, rfl, _, rfl, me, _, dx, _, _, rfl, o8, T.cl_Layer, T.n_Layer_found, ly_found _ _ _, l, xs8, rfl, .inl ⟨SqL.of e8, fun tp htp => ⟨(by show 2 ≤ sizeLine; decide), fun tq htq => ?_⟩⟩⟩
    have s9 := same_new htp (.tup xs8)
    have s10 := same_new htq (.tup [.int ((layP (ixOf p.ls p.heads) pr.2).1 : Nat), .ref tp])
    have s810 := s9.trans s10
    have elf10 := s810 _ _ elf8
    have hn : i < (laidOf p).length := by unfold laidOf; rw [List.length_map]; omega
    have eq : (laidOf p)[i]? = some (layP (ixOf p.ls p.heads) pr.2) := by unfold laidOf; rw [List.getElem?_map, hpr]; rfl
    have t11 : Tk (upd (upd H8 tp (.tup xs8)) tq (.tup [.int ((layP (ixOf p.ls p.heads) pr.2).1 : Nat), .ref tp])) _ := tk_lst (o' := .lst (xs ++ [.ref tq])) elf10
    refine ⟨lf, xs, _, rfl, rfl, elf10, Nat.lt_of_le_of_lt lxs (z40 (by omega)), ?_⟩
    refine ⟨_, _, _, _, _, rfl, k4.trans (k48.trans ((Kp.of s810).trans (kp_upd (by simp) _))), t4.trans (t48.trans ((tk_same s810).trans t11)), upd_same, ?_⟩
    rw [take_snoc eq, List.map_append]
    refine (d4.tk (t48.trans ((tk_same s810).trans t11))).append (.cons (Dat.tk t11 ?_) .nil)
    exact .tup (SqT.of upd_same) (.cons (.int _) (.cons (.tup (SqT.of (s10 _ _ upd_same)) (d8.tk (tk_same s810))) .nil))
  · rintro σ H4 ⟨xs, v4', v6', v9', v10', rfl, k4, t4, e4, d4⟩
    have et : (laidOf p).take ps.length = laidOf p := by rw [lp, List.take_of_length_le]; unfold laidOf; rw [List.length_map]; exact Nat.le_refl _
    rw [et] at d4
    refine ⟨_, rfl, lf, xs, rfl, .inl ⟨SqL.of e4, fun r hr4 => ?_⟩⟩
    have sr := same_new hr4 (.tup xs)
    have kk : Same H H4 := fun b o e => k4 _ _ (s123 _ _ e) (by
      have : b ≠ lf := fun z => by rw [z, nlf] at e; cases e
      simpa using this)
    exact q _ _ (kk.trans sr) (.tup (SqT.of upd_same) (d4.tk (tk_same sr)))
end
end PK

set_option linter.all false
set_option Elab.async false
set_option maxRecDepth 100000
set_option maxHeartbeats 4000000
/-! KF: faults, none of which a good program has. -/
namespace PK
open PySem PySem.Spec PyProof.Rows L2
theorem pi_or {X : Cx} {tg iter : Expr} {w1 w2 : TI} (h1 : PI X tg iter w1) (h2 : PI X tg iter w2) : PI X tg iter (fun σ H R => w1 σ H R ∨ w2 σ H R) :=
  ⟨fun pins s σ H R I h => h.elim (h1.run pins s σ H R I) (h2.run pins s σ H R I)⟩
def iSeq (K : Fg) (te : TE) : TI := fun σ H R => iTup K te σ H R ∨ iList K te σ H R
theorem iSeqK {X : Cx} {K : Fg} {e : Expr} {te : TE} {tg : Expr} (h : X.K = K) (he : PE X e te) : PI X tg e (iSeq K te) := pi_or (iTupK h he) (iLstK h he)
theorem walk_lst {K : Fg} {a : Addr} {xs : List V} : Walk (Itl K a) xs.length (fun H => SqL K H a xs) (YAt xs) := walk_list
def SeqA (K : Fg) (H : Hp) (a : Addr) (xs : List V) : Prop := SqT K H a xs ∨ SqL K H a xs
def spDouble (K : Fg) : Sp := fun vs H Q _ => ∃ (a : Addr) (ss : List Str), vs = [.ref a] ∧ (SqT K H a (ss.map .str) ∨ H a = some (.lst (ss.map .str))) ∧ ss.Nodup ∧ ss.length ≤ 1000 ∧ ∀ H', Same H H' → Q .non H'
def notRet : Stm → Bool
  | .ret => false
  | _ => true
def spOwn (K : Fg) : Sp := fun vs H Q _ => ∃ (L P : List Str) (v : V) (s : Stm) (sec : Bool) (al an : Addr), vs = [v, .bl sec, .ref al, .ref an] ∧ Dat K H v (stmD s) ∧ wfS L P s = true ∧ SqT K H al (L.map .str) ∧ H an = some (.lst (P.map .str)) ∧
  (sec = true → notRet s = true) ∧ ∀ H', Same H H' → Q .non H'
def spFault (K : Fg) : Nat → Sp
  | 0 => fun _ _ _ _ => False
  | n + 1 => fun vs H Q _ => ∃ (L P : List Str) (v : V) (b : Bod) (sec : Bool) (al an : Addr), vs = [v, .bl sec, .ref al, .ref an] ∧ Dat K H v (bodD b) ∧ wfB L P b = true ∧ Nm L P ∧ SqT K H al (L.map .str) ∧ H an = some (.lst (P.map .str)) ∧
    (sec = true → nrB b = true) ∧ depB b ≤ n ∧ ∀ H', Same H H' → Q .non H'
def spIndex (K : Fg) : Sp := fun vs H Q _ => ∃ (v : V) (p : Prog) (i : Nat) (x : Str), vs = [v, .str x] ∧ Dat K H v (progD p) ∧ Valid p ∧ p.heads[i]? = some x ∧ ∀ H', Same H H' → Q (.int (i : Nat)) H'
theorem any_mem {l : List Str} {x : Str} (h : x ∈ l) : (l.any fun y => y == x) = true := List.any_eq_true.mpr ⟨x, h, by simp⟩
theorem notRet_of {b : Bod} {s : Stm} (h : nrB b = true) (m : s ∈ b) : notRet s = true := by
  have := nrB_mem h m
  cases s <;> first | rfl | exact this
theorem wrd_ens {s : Stm} (h : wrd s = "ensure") : ∃ p q, s = .ens p q := by
  cases s with
  | ens p q => exact ⟨p, q, rfl⟩
  | act u x => cases u with
    | true => exact absurd h (show ¬ ("undo" : Str) = "ensure" by decide +kernel)
    | false => exact absurd h (show ¬ ("do" : Str) = "ensure" by decide +kernel)
  | call x => exact absurd h (show ¬ ("call" : Str) = "ensure" by decide +kernel)
  | cho b => exact absurd h (show ¬ ("choose" : Str) = "ensure" by decide +kernel)
  | loop b => exact absurd h (show ¬ ("loop" : Str) = "ensure" by decide +kernel)
  | ret => exact absurd h (show ¬ ("return" : Str) = "ensure" by decide +kernel)
theorem nr_subs {s : Stm} (h : nrS s = true) : nrBs (subs s) = true := by
  cases s <;> simp_all [nrS, subs, nrBs]
theorem dats_strs {K : Fg} {H : Hp} {vs : List V} {ss : List Str} (h : Dats K H vs (ss.map .str)) : vs = ss.map .str := by
  induction ss generalizing vs with
  | nil => exact h.inv_nil
  | cons x r ih =>
    obtain ⟨v, ws, rfl, h1, h2⟩ := h.inv_cons
    rw [h1.inv_str, ih h2]; rfl
section
variable {P : Program} {w : World} {K : Fg} {mg : Str → Option Value} {base : Heap}
theorem ok_first_double (T : Tp K mg) (F : Std K "first_double" "first_double" s_first_double (He.ga K "first_double")) : Dn P w K mg base 1 (He.ga K "first_double") ["names"] (spDouble K) := by
  refine dn_mk F sc_first_double
    (fun _ _ _ _ _ _ us hl => match us, hl with | [_], _ => rfl)
    (fun vs H Q E h => ?_) fun cdv A outer s H vs Q E hr h => ?_
  · obtain ⟨a, ss, rfl, _⟩ := h; rfl
  obtain ⟨a, ss, rfl, hS, hn, hl, q⟩ := h
  have hu := hu_of hr
  refine ⟨_, (pss_cons (ps_set (i := 1) sc_first_double.nd rfl (Or.inl rfl) pe_dnewK)
    (pss_cons (ps_for PassesOwn.never rfl (iSeqK (K := K) rfl (pv 0)) (pg_name (i := 2) sc_first_double.nd rfl (Or.inl rfl)) (pss_cons (ps_if (pt_cmp (pc_din hu (pv 2) (pv 1))) (pss_one (ps_ret (pv 2))) pss_nil)
    (pss_one (ps_dput hu (pv 1) (pv 2) pe_bl rfl))))
    (pss_one (ps_ret pe_non)))), ?_⟩
  refine fun d hd => ?_
  have s0 := same_new hd (.dK [])
  generalize hH1 : upd H d (.dK []) = H1 at s0
  have e1 : H1 d = some (.dK []) := by rw [← hH1]; exact upd_same
  rcases hS with hS | hS
  · have hS1 := (tk_same s0).seq hS
    refine .inl ⟨_, rfl, a, rfl, ⟨_, hS1⟩, for_it walk_tup (fun i σ H' => ∃ (kvs : List (Key × V)) (v2 : Option V), σ = [some (.ref a), some (.ref d), v2] ∧ (Kp [d] H H' ∧ Tk H H') ∧ H' d = some (.dK kvs) ∧ kvs.length ≤ i ∧ ∀ x, x ∉ ss.take i → valV kvs (.inr x) = none)
      ⟨[], none, rfl, ⟨.of s0, tk_same s0⟩, e1, Nat.le_refl _, fun x h => rfl⟩ (fun i σ H' _ ⟨_, _, _, k, _⟩ => k.2.seq hS) ?_ ?_⟩
    · rintro i x σ H2 H2' hi ⟨kvs, v2, rfl, k, e2, l2, h2⟩ ⟨rfl, hx⟩
      rw [List.getElem?_map] at hx
      obtain ⟨y, hy, rfl⟩ : ∃ y, ss[i]? = some y ∧ x = .str y := by
        cases e : ss[i]? with
        | none => rw [e] at hx; cases hx
        | some y => rw [e] at hx; exact ⟨y, rfl, (Option.some.inj hx).symm⟩
      have hv : valV kvs (.inr y) = none := by
        cases e : valV kvs (.inr y) with
        | none => rfl
        | some z =>
          have m : y ∈ ss.take i := by
            by_cases m : y ∈ ss.take i
            · exact m
            · rw [h2 y m] at e; cases e
          obtain ⟨j, hj, ej⟩ := List.mem_iff_getElem.mp m
          rw [List.length_take] at hj
          rw [List.getElem_take] at ej
          have := nd_ix hn (i := j) (j := i) (x := y) (by rw [List.getElem?_eq_getElem (by omega), ej]) hy
          omega
      refine ⟨_, rfl, _, rfl, d, _, rfl, .inl ⟨kvs, .inr y, .inl e2, rfl, rfl⟩, _, rfl, iff' (by rw [hv]; rfl) ?_⟩
      refine ⟨_, rfl, _, rfl, d, _, rfl, .inl ⟨kvs, .inr y, e2, rfl, Nat.lt_of_le_of_lt (Nat.le_trans l2 (by rw [List.length_map] at hi; omega)) (by decide : 1000 < sizeLine), rfl⟩, ?_⟩
      refine ⟨_, _, rfl, ⟨k.1.trans (kp_upd (by simp) _), k.2.trans (tk_dK e2)⟩, upd_same, Nat.le_trans (length_putK _ _ _) (by omega), fun x hx => ?_⟩
      rw [take_snoc hy] at hx
      simp only [List.mem_append, List.mem_singleton, not_or] at hx
      rw [valV_put, if_neg (fun h => hx.2 (Sum.inr.inj h))]
      exact h2 x hx.1
    · rintro σ H2 ⟨kvs, v2, rfl, k, e2, l2, h2⟩
      exact q _ fun b o e => k.1 b o e (by
        have : b ≠ d := fun z => by rw [z, hd] at e; cases e
        simpa using this)
  · have hS1 := s0 _ _ hS
    have nad : a ≠ d := ne_of_none hS hd
    refine .inr ⟨_, rfl, a, rfl, ⟨_, SqL.of hS1⟩, for_it walk_lst (fun i σ H' => ∃ (kvs : List (Key × V)) (v2 : Option V), σ = [some (.ref a), some (.ref d), v2] ∧ (Kp [d] H H' ∧ Tk H H') ∧ H' d = some (.dK kvs) ∧ kvs.length ≤ i ∧ ∀ x, x ∉ ss.take i → valV kvs (.inr x) = none)
      ⟨[], none, rfl, ⟨.of s0, tk_same s0⟩, e1, Nat.le_refl _, fun x h => rfl⟩ (fun i σ H' _ ⟨_, _, _, k, _⟩ => SqL.of (k.1 _ _ hS (by simpa using nad))) ?_ ?_⟩
    · rintro i x σ H2 H2' hi ⟨kvs, v2, rfl, k, e2, l2, h2⟩ ⟨rfl, hx⟩
      rw [List.getElem?_map] at hx
      obtain ⟨y, hy, rfl⟩ : ∃ y, ss[i]? = some y ∧ x = .str y := by
        cases e : ss[i]? with
        | none => rw [e] at hx; cases hx
        | some y => rw [e] at hx; exact ⟨y, rfl, (Option.some.inj hx).symm⟩
      have hv : valV kvs (.inr y) = none := by
        cases e : valV kvs (.inr y) with
        | none => rfl
        | some z =>
          have m : y ∈ ss.take i := by
            by_cases m : y ∈ ss.take i
            · exact m
            · rw [h2 y m] at e; cases e
          obtain ⟨j, hj, ej⟩ := List.mem_iff_getElem.mp m
          rw [List.length_take] at hj
          rw [List.getElem_take] at ej
          have := nd_ix hn (i := j) (j := i) (x := y) (by rw [List.getElem?_eq_getElem (by omega), ej]) hy
          omega
      refine ⟨_, rfl, _, rfl, d, _, rfl, .inl ⟨kvs, .inr y, .inl e2, rfl, rfl⟩, _, rfl, iff' (by rw [hv]; rfl) ?_⟩
      refine ⟨_, rfl, _, rfl, d, _, rfl, .inl ⟨kvs, .inr y, e2, rfl, Nat.lt_of_le_of_lt (Nat.le_trans l2 (by rw [List.length_map] at hi; omega)) (by decide : 1000 < sizeLine), rfl⟩, ?_⟩
      refine ⟨_, _, rfl, ⟨k.1.trans (kp_upd (by simp) _), k.2.trans (tk_dK e2)⟩, upd_same, Nat.le_trans (length_putK _ _ _) (by omega), fun x hx => ?_⟩
      rw [take_snoc hy] at hx
      simp only [List.mem_append, List.mem_singleton, not_or] at hx
      rw [valV_put, if_neg (fun h => hx.2 (Sum.inr.inj h))]
      exact h2 x hx.1
    · rintro σ H2 ⟨kvs, v2, rfl, k, e2, l2, h2⟩
      exact q _ fun b o e => k.1 b o e (by
        have : b ≠ d := fun z => by rw [z, hd] at e; cases e
        simpa using this)
theorem ok_own_fault (T : Tp K mg) (F : Std K "own_fault" "own_fault" s_own_fault (He.ga K "own_fault")) : Dn P w K mg base 1 (He.ga K "own_fault") ["statement", "is_second", "letters", "names"] (spOwn K) := by
  refine dn_mk F sc_own_fault
    (fun _ _ _ _ _ _ us hl => match us, hl with | [_, _, _, _], _ => rfl)
    (fun vs H Q E h => ?_) fun cdv A outer s H vs Q E hr h => ?_
  · obtain ⟨L, PP, v, st, sec, al, an, rfl, _⟩ := h; rfl
  obtain ⟨L, PP, v, st, sec, al, an, rfl, hd, hw, hL, hN, hs, q⟩ := h
  obtain ⟨a, wd, ys, rfl, ew, hA, hY⟩ := stm_get hd
  refine ⟨_, (pss_cons (ps_set (i := 4) sc_own_fault.nd rfl (Or.inl rfl) (pe_ix (ixK (K := K) rfl) (pv 0) pe_int (fun _ _ => rfl)))
    (pss_cons (ps_if (PW.pt (pw_and (pt_cmpR (inK (K := K) rfl) (pv 4) (pe_tup (pa_cons pe_str (pa_cons pe_str pa_nil))) (by rfl)) (pw_and1 (pt_cmpR (notInK (K := K) rfl) (pe_ix (ixK (K := K) rfl) (pv 0) pe_int (fun _ _ => rfl)) (pv 2) (by rfl))))) (pss_one (ps_ret pe_str)) pss_nil)
    (pss_cons (ps_if (PW.pt (pw_and (pt_cmpR (oEqK (K := K) rfl (hu64 hr)) (pv 4) pe_str (nomark _)) (pw_and1 (pt_cmpR (notInK (K := K) rfl) (pe_ix (ixK (K := K) rfl) (pv 0) pe_int (fun _ _ => rfl)) (pv 3) (by rfl))))) (pss_one (ps_ret pe_str)) pss_nil)
    (pss_one (ps_ret (pe_ifExp (PW.pt (pw_and (pt_cmpR (oEqK (K := K) rfl (hu64 hr)) (pv 4) pe_str (nomark _)) (pw_and1 (pt_val (pv 1))))) pe_str pe_non)))))), ?_⟩
  refine ⟨_, rfl, .inr (.inl ⟨a, _, 0, _, rfl, rfl, hA, atI_nat (j := 0) rfl, ?_⟩)⟩
  refine ⟨_, rfl, (by show 2 ≤ sizeLine; decide), fun p hp => ⟨p, [.str "do", .str "undo"], rfl, .inr (SqT.of upd_same), rfl, rfl, _, rfl, ?_⟩⟩
  have s1 := same_new hp (.tup [.str "do", .str "undo"])
  generalize hH1 : upd H p (.tup [.str "do", .str "undo"]) = H1 at s1
  have t1 := tk_same s1
  cases st with
  | act u x =>
    have ew : wd = actW u := ew
    subst ew
    obtain ⟨z, _, rfl, hz, h2⟩ := hY.inv_cons
    cases h2.inv_nil
    cases hz.inv_str
    have hx : x ∈ L := by simpa [wfS] using hw
    refine ift (by cases u <;> decide +kernel) ?_
    refine ⟨_, rfl, .inr (.inl ⟨a, _, 1, _, rfl, rfl, t1.seq hA, atI_nat (j := 1) rfl, _, rfl, al, L.map .str, rfl, .inr (t1.seq hL), rfl, flat_strs _, _, rfl, iff' (by rw [inV_str, any_mem hx]; rfl) ?_⟩)⟩
    refine ⟨_, rfl, .inl ⟨rfl, _, rfl, iff' (by cases u <;> decide +kernel) ?_⟩⟩
    exact ⟨_, rfl, .inl ⟨rfl, _, rfl, iff' (by cases u <;> decide +kernel) (q _ s1)⟩⟩
  | call x =>
    have ew : wd = "call" := ew
    subst ew
    obtain ⟨z, _, rfl, hz, h2⟩ := hY.inv_cons
    cases h2.inv_nil
    cases hz.inv_str
    have hx : x ∈ PP := by simpa [wfS] using hw
    refine iff' (by decide +kernel) ?_
    refine ⟨_, rfl, .inl ⟨rfl, _, rfl, ift (by decide +kernel) ?_⟩⟩
    refine ⟨_, rfl, .inr (.inl ⟨a, _, 1, _, rfl, rfl, t1.seq hA, atI_nat (j := 1) rfl, _, rfl, an, PP.map .str, rfl, .inl (SqL.of (s1 _ _ hN)), rfl, flat_strs _, _, rfl, iff' (by rw [inV_str, any_mem hx]; rfl) ?_⟩)⟩
    exact ⟨_, rfl, .inl ⟨rfl, _, rfl, iff' (by decide +kernel) (q _ s1)⟩⟩
  | ret =>
    have ew : wd = "return" := ew
    subst ew
    have e : sec = false := by
      cases sec
      · rfl
      · exact absurd (hs rfl) (by decide)
    subst e
    refine iff' (by decide +kernel) ?_
    refine ⟨_, rfl, .inl ⟨rfl, _, rfl, iff' (by decide +kernel) ?_⟩⟩
    exact ⟨_, rfl, .inl ⟨rfl, _, rfl, ift (by decide +kernel) ⟨_, rfl, _, rfl, iteF (q _ s1)⟩⟩⟩
  | cho bs =>
    have ew : wd = "choose" := ew
    subst ew
    refine iff' (by decide +kernel) ?_
    refine ⟨_, rfl, .inl ⟨rfl, _, rfl, iff' (by decide +kernel) ?_⟩⟩
    exact ⟨_, rfl, .inl ⟨rfl, _, rfl, iff' (by decide +kernel) (q _ s1)⟩⟩
  | loop b =>
    have ew : wd = "loop" := ew
    subst ew
    refine iff' (by decide +kernel) ?_
    refine ⟨_, rfl, .inl ⟨rfl, _, rfl, iff' (by decide +kernel) ?_⟩⟩
    exact ⟨_, rfl, .inl ⟨rfl, _, rfl, iff' (by decide +kernel) (q _ s1)⟩⟩
  | ens b c =>
    have ew : wd = "ensure" := ew
    subst ew
    refine iff' (by decide +kernel) ?_
    refine ⟨_, rfl, .inl ⟨rfl, _, rfl, iff' (by decide +kernel) ?_⟩⟩
    exact ⟨_, rfl, .inl ⟨rfl, _, rfl, iff' (by decide +kernel) (q _ s1)⟩⟩
theorem ok_fault_in (n : Nat) (T : Tp K mg) (F : Std K "fault_in" "fault_in" s_fault_in (He.ga K "fault_in")) (D_own_fault : Dn P w K mg base 1 (He.ga K "own_fault") ["statement", "is_second", "letters", "names"] (spOwn K))
    (D_bodies_of : Dn P w K mg base 6 (He.ga K "bodies_of") ["statement"] (spInner K)) (D_fault_in : Dn P w K mg base (7 + n) (He.ga K "fault_in") ["body", "is_second", "letters", "names"] (spFault K n)) :
    Dn P w K mg base (7 + n + 1) (He.ga K "fault_in") ["body", "is_second", "letters", "names"] (spFault K (n + 1)) := by
  refine dn_mk F sc_fault_in
    (fun _ _ _ _ _ _ us hl => match us, hl with | [_, _, _, _], _ => rfl)
    (fun vs H Q E h => ?_) fun cdv A outer s H vs Q E hr h => ?_
  · obtain ⟨L, PP, v, b, sec, al, an, rfl, _⟩ := h; rfl
  obtain ⟨L, PP, v, b, sec, al, an, rfl, hd, hw, nm, hL, hN, hs, hdep, q⟩ := h
  obtain ⟨a, xs, rfl, hS, hX⟩ := hd.inv_tup
  refine ⟨_, (pss_cons (ps_for PassesOwn.never rfl (iTupK (K := K) rfl (pv 0)) (pg_name (i := 4) sc_fault_in.nd rfl (Or.inl rfl)) (pss_cons (ps_set (i := 5) sc_fault_in.nd rfl (Or.inl rfl) (pe_f D_own_fault (hr.mono (by omega)) T.g_own_fault (pa_cons (pv 4) (pa_cons (pv 1) (pa_cons (pv 2) (pa_cons (pv 3) pa_nil))))))
    (pss_cons (ps_if (pt_cmpR op_notN (pv 5) pe_non (nomark _)) (pss_one (ps_ret (pv 5))) pss_nil)
    (pss_one (ps_for PassesOwn.never rfl (pi_enumA rfl T.b_enumerate (pa_cons (pe_f D_bodies_of (hr.mono (by omega)) T.g_bodies_of (pa_cons (pv 4) pa_nil)) pa_nil)) (pg_tup (by rfl) (pgs_cons (pg_name (i := 6) sc_fault_in.nd rfl (Or.inl rfl)) (pgs_cons (pg_name (i := 7) sc_fault_in.nd rfl (Or.inl rfl)) pgs_nil))) (pss_cons (ps_set (i := 5) sc_fault_in.nd rfl (Or.inl rfl) (pe_f D_fault_in (hr.mono (by omega)) T.g_fault_in (pa_cons (pv 7) (pa_cons (pe_or (pv 1) (pe_one (pe_and (pe_cmpR (oEqK (K := K) rfl (hu64 hr)) (pe_ix (ixK (K := K) rfl) (pv 4) pe_int (fun _ _ => rfl)) pe_str (nomark _)) (pe_one (pe_cmpR (oEqK (K := K) rfl (hu64 hr)) (pv 6) pe_int (nomark _)))))) (pa_cons (pv 2) (pa_cons (pv 3) pa_nil))))))
    (pss_one (ps_if (pt_cmpR op_notN (pv 5) pe_non (nomark _)) (pss_one (ps_ret (pv 5))) pss_nil))))))))
    (pss_one (ps_ret pe_non))), ?_⟩
  refine ⟨_, rfl, a, rfl, ⟨_, hS⟩, for_it walk_tup (fun i σ H' => Same H H' ∧ ∃ v4 v5 v6 v7, σ = [some (.ref a), some (.bl sec), some (.ref al), some (.ref an), v4, v5, v6, v7])
      ⟨.refl _, none, none, none, none, rfl⟩ (fun i σ H' _ ⟨s1, _⟩ => (tk_same s1).seq hS) ?_ ?_⟩
  · rintro i x σ H1 H1' hi ⟨s1, v4, v5, v6, v7, rfl⟩ ⟨rfl, hx⟩
    obtain ⟨st, hst, hdx⟩ := dats_at (by rw [stmDs_map] at hX; exact hX) hx
    have hm := List.mem_of_getElem? hst
    have hws := wfB_mem hw hm
    have d1 := depB_mem hm
    have d2 := depS_subs st
    have t1 := tk_same s1
    have hdx := hdx.tk t1
    refine ⟨_, rfl, _, rfl, _, rfl, _, rfl, L, PP, x, st, sec, al, an, rfl, hdx, hws, t1.seq hL, s1 _ _ hN, fun e => notRet_of (hs e) hm, fun H2 s2 => ?_⟩
    refine ⟨_, rfl, rfl, _, rfl, iff' (by decide) ?_⟩
    have t2 := tk_same s2
    refine ⟨_, rfl, L, PP, x, st, rfl, hdx.tk t2, hws, nm, fun r H3 s3 hr3 => ?_⟩
    obtain ⟨d, zs, rfl, hD, hZ⟩ := hr3.inv_tup
    have t3 := tk_same s3
    refine ⟨d, zs, rfl, .inr ⟨hD, for_it walk_enumT (fun j σ H' => Same H3 H' ∧ ∃ v6 v7, σ = [some (.ref a), some (.bl sec), some (.ref al), some (.ref an), some x, some .non, v6, v7])
      ⟨.refl _, v6, v7, rfl⟩ (fun j σ H' _ ⟨s4, _⟩ => (tk_same s4).seq hD) ?_ ?_⟩⟩
    · rintro j z σ H4 H5 hj ⟨s4, v6, v7, rfl⟩ ⟨t, y1, y, rfl, hT, rfl, e1, e2⟩
      cases e1
      have e2 : zs[j]? = some y := e2
      obtain ⟨bd, hbd, hyd⟩ := dats_at (by rw [bodDs_map] at hZ; exact hZ) e2
      have hm2 := List.mem_of_getElem? hbd
      have w2 := wfBs_mem (wf_subs hws) hm2
      have d3 := depBs_mem hm2
      have s5 := same_new hT (.tup [.int (j : Nat), y])
      replace s4 := s4.trans s5
      have t4 := tk_same s4
      obtain ⟨c, wd, ys, rfl, ew, hC, hY⟩ := stm_get (hdx.tk (t2.trans (t3.trans t4)))
      obtain ⟨m, rfl⟩ : ∃ m, n = m + 1 := ⟨n - 1, by omega⟩
      refine ⟨t, _, rfl, SqT.of upd_same, rfl, _, _, rfl, _, _, rfl, rfl, ?_⟩
      refine ⟨_, rfl, _, rfl, _, rfl, ?_⟩
      cases sec with
      | true =>
        have nr2 : nrB bd = true := nrBs_mem (nr_subs (nrB_mem (hs rfl) hm)) hm2
        exact iteT ⟨_, rfl, _, rfl, L, PP, y, bd, true, al, an, rfl, hyd.tk t4, w2, nm, t4.seq (t3.seq (t2.seq (t1.seq hL))), s4 _ _ (s3 _ _ (s2 _ _ (s1 _ _ hN))), fun _ => nr2, by omega, fun H6 s6 => ⟨_, rfl, rfl, _, rfl, iff' (by decide) ⟨s4.trans s6, _, _, rfl⟩⟩⟩
      | false =>
        refine iteF ?_
        refine ⟨_, rfl, .inr (.inl ⟨c, _, 0, _, rfl, rfl, hC, atI_nat (j := 0) rfl, .inl ⟨rfl, _, rfl, ?_⟩⟩)⟩
        by_cases ei : ∃ p q, st = .ens p q
        · obtain ⟨p2, q2, rfl⟩ := ei
          have ew : wd = "ensure" := ew
          subst ew
          refine ift (by decide +kernel) ?_
          by_cases ej : j = 1
          · subst ej
            have ebd : q2 = bd := by simpa [subs] using hbd
            simp only [wfS, Bool.and_eq_true] at hws
            refine ⟨_, rfl, .inl ⟨rfl, ?_⟩⟩
            have e0 : decide (V.int ((1 : Nat) : Int) = V.int 1) = true := decide_eq_true rfl
            rw [e0]
            exact ⟨_, rfl, _, rfl, L, PP, y, bd, true, al, an, rfl, hyd.tk t4, w2, nm, t4.seq (t3.seq (t2.seq (t1.seq hL))), s4 _ _ (s3 _ _ (s2 _ _ (s1 _ _ hN))), fun _ => by rw [← ebd]; exact hws.2.2, by omega, fun H6 s6 => ⟨_, rfl, rfl, _, rfl, iff' (by decide) ⟨s4.trans s6, _, _, rfl⟩⟩⟩
          · refine ⟨_, rfl, .inl ⟨rfl, ?_⟩⟩
            have e0 : decide (V.int (j : Nat) = V.int 1) = false := decide_eq_false fun h => ej (by have := V.int.inj h; omega)
            rw [e0]
            exact ⟨_, rfl, _, rfl, L, PP, y, bd, false, al, an, rfl, hyd.tk t4, w2, nm, t4.seq (t3.seq (t2.seq (t1.seq hL))), s4 _ _ (s3 _ _ (s2 _ _ (s1 _ _ hN))), (fun h => by cases h), by omega, fun H6 s6 => ⟨_, rfl, rfl, _, rfl, iff' (by decide) ⟨s4.trans s6, _, _, rfl⟩⟩⟩
        · refine iff' (decide_eq_false fun h => ?_) ?_
          · have h := V.str.inj h
            rw [ew] at h
            exact ei (wrd_ens h)
          exact ⟨_, rfl, _, rfl, L, PP, y, bd, false, al, an, rfl, hyd.tk t4, w2, nm, t4.seq (t3.seq (t2.seq (t1.seq hL))), s4 _ _ (s3 _ _ (s2 _ _ (s1 _ _ hN))), (fun h => by cases h), by omega, fun H6 s6 => ⟨_, rfl, rfl, _, rfl, iff' (by decide) ⟨s4.trans s6, _, _, rfl⟩⟩⟩
    · rintro σ H4 ⟨s4, v6, v7, rfl⟩
      exact ⟨s1.trans (s2.trans (s3.trans s4)), _, _, _, _, rfl⟩
  · rintro σ H1 ⟨s1, v4, v5, v6, v7, rfl⟩
    exact q _ s1
theorem all_fault (T : Tp K mg) (F : Std K "fault_in" "fault_in" s_fault_in (He.ga K "fault_in")) (D_own_fault : Dn P w K mg base 1 (He.ga K "own_fault") ["statement", "is_second", "letters", "names"] (spOwn K))
    (D_bodies_of : Dn P w K mg base 6 (He.ga K "bodies_of") ["statement"] (spInner K)) : ∀ n, Dn P w K mg base (7 + n) (He.ga K "fault_in") ["body", "is_second", "letters", "names"] (spFault K n)
  | 0 => (dn_never F
    (fun _ _ _ _ _ _ us hl => match us, hl with | [_, _, _, _], _ => rfl)
    ).mono (by omega)
  | n + 1 => ok_fault_in n T F D_own_fault D_bodies_of (all_fault T F D_own_fault D_bodies_of n)
theorem ok_fault_of (T : Tp K mg) (F : Std K "fault_of" "fault_of" s_fault_of (He.ga K "fault_of")) (D_first_double : Dn P w K mg base 1 (He.ga K "first_double") ["names"] (spDouble K))
    (D_fault_in : Dn P w K mg base 20 (He.ga K "fault_in") ["body", "is_second", "letters", "names"] (spFault K 13)) (D_places_in : Dn P w K mg base 20 (He.ga K "places_in") ["body", "returned"] (spPl K 13)) :
    Dn P w K mg base 21 (He.ga K "fault_of") ["program"] (spProgT K .non) := by
  refine dn_mk F sc_fault_of
    (fun _ _ _ _ _ _ us hl => match us, hl with | [_], _ => rfl)
    (fun vs H Q E h => ?_) fun cdv A outer s H vs Q E hr h => ?_
  · obtain ⟨v, p, rfl, _⟩ := h; rfl
  obtain ⟨v, p, rfl, hd, vp, q⟩ := h
  obtain ⟨a, al, ap, ls, ps, rfl, hS, hL, hLd, hP, hPd⟩ := prog_get hd
  have lp : ps.length = p.ps.length := by rw [hPd.length, List.length_map]
  have v4 := vp.p2
  have v2 := vp.l2
  have ell : ls = p.ls.map .str := dats_strs hLd
  subst ell
  refine ⟨_, (pss_cons (ps_asg (pv 0) (pg_tup (by rfl) (pgs_cons (pg_name (i := 1) sc_fault_of.nd rfl (Or.inl rfl)) (pgs_cons (pg_name (i := 2) sc_fault_of.nd rfl (Or.inl rfl)) pgs_nil))))
    (pss_cons (ps_setLc (i := 5) (own := [("name", 3), ("body", 4)]) (g := (gTup K 2 (gCons (gName 3) (gCons (gName 4) gNil)))) (tt := tYes) rfl sc_fault_of.nd rfl rfl (sw_true rfl rfl rfl (by decide +kernel)) (iTupK (K := K) rfl (pv 2)) (blkOk_by (N := N_fault_of) (sc := defScope s_fault_of) (own := [("name", 3), ("body", 4)]) (by decide +kernel)) (fun _ _ _ _ _ => (pg_tup (by rfl) (pgs_cons (pg_name (i := 3) sc_fault_of.nd rfl (Or.inl rfl)) (pgs_cons (pg_name (i := 4) sc_fault_of.nd rfl (Or.inl rfl)) pgs_nil)))) (fun _ _ _ _ _ => pts_nil) (fun _ _ _ _ _ => (pv 3)))
    (pss_cons (ps_for PassesOwn.never rfl (iTupK (K := K) rfl (pe_tup (pa_cons (pe_tup (pa_cons pe_str (pa_cons (pv 1) pa_nil))) (pa_cons (pe_tup (pa_cons pe_str (pa_cons (pv 5) pa_nil))) pa_nil)))) (pg_tup (by rfl) (pgs_cons (pg_name (i := 6) sc_fault_of.nd rfl (Or.inl rfl)) (pgs_cons (pg_name (i := 7) sc_fault_of.nd rfl (Or.inl rfl)) pgs_nil))) (pss_cons (ps_set (i := 8) sc_fault_of.nd rfl (Or.inl rfl) (pe_f D_first_double (hr.mono (by omega)) T.g_first_double (pa_cons (pv 7) pa_nil)))
    (pss_one (ps_if (pt_cmpR op_notN (pv 8) pe_non (nomark _)) (pss_one (ps_ret (pe_tup (pa_cons (pv 6) (pa_cons (pv 8) pa_nil))))) pss_nil))))
    (pss_cons (ps_for PassesOwn.never rfl (iTupK (K := K) rfl (pv 2)) (pg_tup (by rfl) (pgs_cons (pg_name (i := 3) sc_fault_of.nd rfl (Or.inl rfl)) (pgs_cons (pg_name (i := 4) sc_fault_of.nd rfl (Or.inl rfl)) pgs_nil))) (pss_cons (ps_set (i := 9) sc_fault_of.nd rfl (Or.inl rfl) (pe_f D_fault_in (hr.mono (by omega)) T.g_fault_in (pa_cons (pv 4) (pa_cons pe_bl (pa_cons (pv 1) (pa_cons (pv 5) pa_nil))))))
    (pss_one (ps_if (pt_cmpR op_notN (pv 9) pe_non (nomark _)) (pss_one (ps_ret (pe_tup (pa_cons (pv 9) (pa_cons (pv 3) pa_nil))))) pss_nil))))
    (pss_cons (ps_for PassesOwn.never rfl (iTupK (K := K) rfl (pv 2)) (pg_tup (by rfl) (pgs_cons (pg_name (i := 3) sc_fault_of.nd rfl (Or.inl rfl)) (pgs_cons (pg_name (i := 4) sc_fault_of.nd rfl (Or.inl rfl)) pgs_nil))) (pss_one (ps_if (pt_cmpR op_gt (pe_op (oAddK (K := K) rfl) pe_int (pe_f D_places_in (hr.mono (by omega)) T.g_places_in (pa_cons (pv 4) (pa_cons pe_int pa_nil)))) (pe_kn T.c_MOST_PLACES) (nomark _)) (pss_one (ps_ret (pe_tup (pa_cons pe_str (pa_cons (pv 3) pa_nil))))) pss_nil)))
    (pss_one (ps_ret pe_non))))))), ?_⟩
  refine ⟨_, rfl, a, _, rfl, hS, rfl, _, _, rfl, _, _, rfl, rfl, ?_⟩
  refine ⟨_, rfl, ap, rfl, ⟨_, hP⟩, fun D nD => lc_acc walk_tup [] (fun i acc _ => acc = ((p.heads.take i).map V.str)) nD (fun _ _ H1 _ t _ => t.seq hP) (fun _ _ _ _ _ _ _ p => p) rfl ?_ (by simp) ?_ ?_⟩
  · rw [lp]; exact Nat.lt_of_le_of_lt v4 (by decide)
  · rintro i y acc H3 H3' hi k t hD hl rfl ⟨rfl, hy⟩ N E1 hN _
    obtain ⟨pr, hpr, hxd⟩ := dats_at hPd hy
    obtain ⟨c, bv, rfl, hc, hb⟩ := proc_get (hxd.tk t)
    have hxh : p.heads[i]? = some pr.1 := by
      show (p.ps.map (·.1))[i]? = _
      rw [List.getElem?_map, hpr]; rfl
    refine ⟨c, _, rfl, hc, rfl, _, _, rfl, _, _, rfl, rfl, rfl, tyes ⟨_, rfl, ?_⟩⟩
    exact hN _ _ (.refl _ _) (.refl _) (by rw [take_snoc hxh]; simp)
  rintro H1 acc k1 t1 hD _ rfl
  have s1 := Kp.nil k1
  have et : p.heads.take ps.length = p.heads := by rw [lp, List.take_of_length_le]; simp
  rw [et] at hD
  refine ⟨_, rfl, (by show 2 ≤ sizeLine; decide), fun p1 hp1 => ⟨_, rfl, (by show 2 ≤ sizeLine; decide), fun p2 hp2 => ⟨(by show 2 ≤ sizeLine; decide), fun p3 hp3 => ?_⟩⟩⟩
  have sa := same_new hp1 (.tup [.str "letter", .ref al])
  generalize hHa : upd H1 p1 (.tup [.str "letter", .ref al]) = Ha at sa hp2 hp3
  have ea : Ha p1 = some (.tup [.str "letter", .ref al]) := by rw [← hHa]; exact upd_same
  have sb := same_new hp2 (.tup [.str "double", .ref D])
  generalize hHb : upd Ha p2 (.tup [.str "double", .ref D]) = Hb at sb hp3
  have eb : Hb p2 = some (.tup [.str "double", .ref D]) := by rw [← hHb]; exact upd_same
  have sc := same_new hp3 (.tup [.ref p1, .ref p2])
  generalize hHc : upd Hb p3 (.tup [.ref p1, .ref p2]) = Hc at sc
  have ec : Hc p3 = some (.tup [.ref p1, .ref p2]) := by rw [← hHc]; exact upd_same
  have s4 := s1.trans (sa.trans (sb.trans sc))
  have t4 := tk_same s4
  have hDc : Hc D = some (.lst (p.heads.map .str)) := sc _ _ (sb _ _ (sa _ _ hD))
  refine ⟨p3, rfl, ⟨_, SqT.of ec⟩, for_it walk_tup (fun i σ H' => Same Hc H' ∧ ∃ v6 v7 v8, σ = [some (.ref a), some (.ref al), some (.ref ap), none, none, some (.ref D), v6, v7, v8, none])
    ⟨.refl _, none, none, none, rfl⟩ (fun i σ H' _ ⟨s5, _⟩ => SqT.of (s5 _ _ ec)) ?_ ?_⟩
  · rintro i x σ H5 H5' hi ⟨s5, v6, v7, v8, rfl⟩ ⟨rfl, hx⟩
    have e2 : i = 0 ∨ i = 1 := by have : i < 2 := hi; omega
    rcases e2 with rfl | rfl
    · cases hx
      refine ⟨p1, _, rfl, SqT.of (s5 _ _ (sc _ _ (sb _ _ ea))), rfl, _, _, rfl, _, _, rfl, rfl, ?_⟩
      refine ⟨_, rfl, al, p.ls, rfl, .inl ((tk_same s5).seq (t4.seq hL)), vp.dl, by omega, fun H6 s6 => ?_⟩
      exact ⟨_, rfl, rfl, _, rfl, iff' (by decide) ⟨s5.trans s6, _, _, _, rfl⟩⟩
    · cases hx
      refine ⟨p2, _, rfl, SqT.of (s5 _ _ (sc _ _ eb)), rfl, _, _, rfl, _, _, rfl, rfl, ?_⟩
      refine ⟨_, rfl, D, p.heads, rfl, .inr (s5 _ _ hDc), vp.dh, by rw [List.length_map]; omega, fun H6 s6 => ?_⟩
      exact ⟨_, rfl, rfl, _, rfl, iff' (by decide) ⟨s5.trans s6, _, _, _, rfl⟩⟩
  rintro σ H5 ⟨s5, v6, v7, v8, rfl⟩
  have t5 := t4.trans (tk_same s5)
  refine ⟨_, rfl, ap, rfl, ⟨_, t5.seq hP⟩, for_it walk_tup (fun i σ H' => Same H5 H' ∧ ∃ v3 v4 v9, σ = [some (.ref a), some (.ref al), some (.ref ap), v3, v4, some (.ref D), v6, v7, v8, v9])
    ⟨.refl _, none, none, none, rfl⟩ (fun i σ H' _ ⟨s6, _⟩ => (tk_same s6).seq (t5.seq hP)) ?_ ?_⟩
  · rintro i x σ H6 H6' hi ⟨s6, v3, v4', v9, rfl⟩ ⟨rfl, hx⟩
    obtain ⟨pr, hpr, hxd⟩ := dats_at hPd hx
    have hm := List.mem_of_getElem? hpr
    have t6 := t5.trans (tk_same s6)
    obtain ⟨c, bv, rfl, hc, hb⟩ := proc_get (hxd.tk t6)
    have dp := vp.dep _ hm
    refine ⟨c, _, rfl, hc, rfl, _, _, rfl, _, _, rfl, rfl, ?_⟩
    refine ⟨_, rfl, _, rfl, _, rfl, p.ls, p.heads, bv, pr.2, false, al, D, rfl, hb, vp.wf _ hm, vp.nm, t6.seq hL, s6 _ _ (s5 _ _ hDc), (fun h => by cases h), dp, fun H7 s7 => ?_⟩
    exact ⟨_, rfl, rfl, _, rfl, iff' (by decide) ⟨s6.trans s7, _, _, _, rfl⟩⟩
  rintro σ H6 ⟨s6, v3, v4', v9, rfl⟩
  have t6 := t5.trans (tk_same s6)
  refine ⟨_, rfl, ap, rfl, ⟨_, t6.seq hP⟩, for_it walk_tup (fun i σ H' => Same H6 H' ∧ ∃ v3 v4 v9, σ = [some (.ref a), some (.ref al), some (.ref ap), v3, v4, some (.ref D), v6, v7, v8, v9])
    ⟨.refl _, _, _, _, rfl⟩ (fun i σ H' _ ⟨s7, _⟩ => (tk_same s7).seq (t6.seq hP)) ?_ ?_⟩
  · rintro i x σ H7 H7' hi ⟨s7, v3, v4', v9, rfl⟩ ⟨rfl, hx⟩
    obtain ⟨pr, hpr, hxd⟩ := dats_at hPd hx
    have hm := List.mem_of_getElem? hpr
    have t7 := t6.trans (tk_same s7)
    obtain ⟨c, bv, rfl, hc, hb⟩ := proc_get (hxd.tk t7)
    have dp := vp.dep _ hm
    have pl := vp.pl _ hm
    refine ⟨c, _, rfl, hc, rfl, _, _, rfl, _, _, rfl, rfl, ?_⟩
    refine ⟨_, rfl, p.ls, p.heads, bv, pr.2, 0, rfl, hb, vp.wf _ hm, vp.nm, dp, fun H8 s8 => ?_⟩
    refine .inl ⟨_, _, rfl, rfl, _, _, rfl, rfl, _, rfl, iff' (decide_eq_false (by omega)) ⟨s7.trans s8, _, _, _, rfl⟩⟩
  rintro σ H7 ⟨s7, v3, v4', v9, rfl⟩
  exact q _ (s4.trans (s5.trans (s6.trans s7)))
theorem ok_check (T : Tp K mg) (F : Std K "check" "check" s_check (He.ga K "check")) (D_need_program : Dn P w K mg base 21 (He.ga K "need_program") ["program"] (spProgT K .non))
    (D_fault_of : Dn P w K mg base 21 (He.ga K "fault_of") ["program"] (spProgT K .non)) : Dn P w K mg base 22 (He.ga K "check") ["program"] (spProgT K .non) := by
  refine dn_mk F sc_check
    (fun _ _ _ _ _ _ us hl => match us, hl with | [_], _ => rfl)
    (fun vs H Q E h => ?_) fun cdv A outer s H vs Q E hr h => ?_
  · obtain ⟨v, p, rfl, _⟩ := h; rfl
  obtain ⟨v, p, rfl, hd, vp, q⟩ := h
  refine ⟨_, (pss_cons (ps_expr (pe_f D_need_program (hr.mono (by omega)) T.g_need_program (pa_cons (pv 0) pa_nil)))
    (pss_one (ps_ret (pe_f D_fault_of (hr.mono (by omega)) T.g_fault_of (pa_cons (pv 0) pa_nil))))), ?_⟩
  exact ⟨_, rfl, v, p, rfl, hd, vp, fun H1 s1 => ⟨_, rfl, v, p, rfl, hd.tk (tk_same s1), vp, fun H2 s2 => q _ (s1.trans s2)⟩⟩
theorem ok_need_checked (T : Tp K mg) (F : Std K "need_checked" "need_checked" s_need_checked (He.ga K "need_checked")) (D_check : Dn P w K mg base 22 (He.ga K "check") ["program"] (spProgT K .non)) :
    Dn P w K mg base 23 (He.ga K "need_checked") ["program"] (spProgT K .non) := by
  refine dn_mk F sc_need_checked
    (fun _ _ _ _ _ _ us hl => match us, hl with | [_], _ => rfl)
    (fun vs H Q E h => ?_) fun cdv A outer s H vs Q E hr h => ?_
  · obtain ⟨v, p, rfl, _⟩ := h; rfl
  obtain ⟨v, p, rfl, hd, vp, q⟩ := h
  refine ⟨_, (pss_cons (ps_set (i := 1) sc_need_checked.nd rfl (Or.inl rfl) (pe_f D_check (hr.mono (by omega)) T.g_check (pa_cons (pv 0) pa_nil)))
    (pss_one (ps_if (pt_cmpR op_notN (pv 1) pe_non (nomark _)) (pss_one ps_never) pss_nil))), ?_⟩
  exact ⟨_, rfl, v, p, rfl, hd, vp, fun H1 s1 => ⟨_, rfl, rfl, _, rfl, iff' (by decide) (q _ s1)⟩⟩
theorem ok_procedure_index (T : Tp K mg) (F : Std K "procedure_index" "procedure_index" s_procedure_index (He.ga K "procedure_index")) : Dn P w K mg base 1 (He.ga K "procedure_index") ["program", "name"] (spIndex K) := by
  refine dn_mk F sc_procedure_index
    (fun _ _ _ _ _ _ us hl => match us, hl with | [_, _], _ => rfl)
    (fun vs H Q E h => ?_) fun cdv A outer s H vs Q E hr h => ?_
  · obtain ⟨v, p, i, x, rfl, _⟩ := h; rfl
  obtain ⟨v, p, i, x, rfl, hd, vp, hi, q⟩ := h
  obtain ⟨a, al, ap, ls, ps, rfl, hS, hL, hLd, hP, hPd⟩ := prog_get hd
  have lp : ps.length = p.ps.length := by rw [hPd.length, List.length_map]
  have il : i < p.ps.length := by
    have := (List.getElem?_eq_some_iff.mp hi).1
    simpa using this
  refine ⟨_, (pss_cons (ps_for PassesOwn.never rfl (pi_enumA rfl T.b_enumerate (pa_cons (pe_ix (ixK (K := K) rfl) (pv 0) pe_int (fun _ _ => rfl)) pa_nil)) (pg_tup (by rfl) (pgs_cons (pg_name (i := 2) sc_procedure_index.nd rfl (Or.inl rfl)) (pgs_cons (pg_tup (by rfl) (pgs_cons (pg_name (i := 3) sc_procedure_index.nd rfl (Or.inl rfl)) (pgs_cons (pg_name (i := 4) sc_procedure_index.nd rfl (Or.inl rfl)) pgs_nil))) pgs_nil))) (pss_one (ps_if (PW.pt (pw_and (pt_val (pe_callB (isiK (K := K) rfl) (by rfl) T.b_isinstance (by decide +kernel) (pa_cons (pv 1) (pa_cons (pe_bt (n := "str") T.b_str) pa_nil)))) (pw_and1 (pt_cmpR (oEqK (K := K) rfl (hu64 hr)) (pv 3) (pv 1) (nomark _))))) (pss_one (ps_ret (pv 2))) pss_nil)))
    (pss_one ps_never)), ?_⟩
  refine ⟨_, rfl, .inr (.inl ⟨a, _, 1, _, rfl, rfl, hS, atI_nat (j := 1) rfl, ap, ps, rfl, .inr ⟨hP, for_it walk_enumT (fun j σ H' => Same H H' ∧ j ≤ i ∧ ∃ v2 v3 v4, σ = [some (.ref a), some (.str x), v2, v3, v4])
    ⟨.refl _, Nat.zero_le _, none, none, none, rfl⟩ (fun j σ H' _ ⟨s4, _⟩ => (tk_same s4).seq hP) ?_ ?_⟩⟩)⟩
  · rintro j z σ H4 H5 hj ⟨s4, hji, v2, v3, v4, rfl⟩ ⟨t, y1, y, rfl, hT, rfl, e1, e2⟩
    cases e1
    have e2 : ps[j]? = some y := e2
    obtain ⟨pr, hpr, hxd⟩ := dats_at hPd e2
    have s5 := same_new hT (.tup [.int (j : Nat), y])
    have s45 := s4.trans s5
    obtain ⟨c, bv, rfl, hc, hb⟩ := proc_get (hxd.tk (tk_same s45))
    have hxh : p.heads[j]? = some pr.1 := by
      show (p.ps.map (·.1))[j]? = _
      rw [List.getElem?_map, hpr]; rfl
    refine ⟨t, _, rfl, SqT.of upd_same, rfl, _, _, rfl, _, _, rfl, c, _, rfl, hc, rfl, _, _, rfl, _, _, rfl, rfl, rfl, ?_⟩
    refine ⟨_, rfl, _, _, _, _, true, rfl, .ty _, .base (.str x), kit_ty (by decide +kernel), _, rfl, ift rfl ?_⟩
    refine ⟨_, rfl, _, rfl, .inl ⟨rfl, _, rfl, ?_⟩⟩
    by_cases ej : j = i
    · subst ej
      rw [hi] at hxh
      cases Option.some.inj hxh
      exact ift (decide_eq_true rfl) ⟨_, rfl, q _ s45⟩
    · refine iff' (decide_eq_false fun h => ej ?_) ⟨s45, by omega, _, _, _, rfl⟩
      rw [V.str.inj h] at hxh
      exact nd_ix vp.dh hxh hi
  · rintro σ H4 ⟨s4, hji, v2, v3, v4, rfl⟩
    omega
theorem ok_need_index (T : Tp K mg) (F : Std K "need_index" "need_index" s_need_index (He.ga K "need_index")) (D_need_checked : Dn P w K mg base 23 (He.ga K "need_checked") ["program"] (spProgT K .non))
    (D_procedure_index : Dn P w K mg base 1 (He.ga K "procedure_index") ["program", "name"] (spIndex K)) : Dn P w K mg base 24 (He.ga K "need_index") ["program", "name"] (spIndex K) := by
  refine dn_mk F sc_need_index
    (fun _ _ _ _ _ _ us hl => match us, hl with | [_, _], _ => rfl)
    (fun vs H Q E h => ?_) fun cdv A outer s H vs Q E hr h => ?_
  · obtain ⟨v, p, i, x, rfl, _⟩ := h; rfl
  obtain ⟨v, p, i, x, rfl, hd, vp, hi, q⟩ := h
  refine ⟨_, (pss_cons (ps_expr (pe_f D_need_checked (hr.mono (by omega)) T.g_need_checked (pa_cons (pv 0) pa_nil)))
    (pss_one (ps_ret (pe_f D_procedure_index (hr.mono (by omega)) T.g_procedure_index (pa_cons (pv 0) (pa_cons (pv 1) pa_nil)))))), ?_⟩
  exact ⟨_, rfl, v, p, rfl, hd, vp, fun H1 s1 => ⟨_, rfl, _, rfl, v, p, i, x, rfl, hd.tk (tk_same s1), vp, hi, fun H2 s2 => q _ (s1.trans s2)⟩⟩
end
end PK

set_option linter.all false
set_option Elab.async false
set_option maxRecDepth 100000
set_option maxHeartbeats 4000000
/-! KX: places, ways, what may end, what is useful: plain. -/
namespace PK
open PySem PySem.Spec PyProof.Rows L2
abbrev Ld := List (Nat × List Pl)
abbrev Hm := Nat × Nat
def begL (ld : Ld) (q : Nat) : Nat := (ld.getD q (0, [])).1
def plsL (ld : Ld) (q : Nat) : List Pl := (ld.getD q (0, [])).2
def wayP (ld : Ld) (c : Nat) : Pl → List (List Hm)
  | .fin => [[]]
  | .fork ns => ns.map fun n => [(c, n)]
  | .call q n => [[(q, begL ld q), (c, n)]]
  | .ltr _ n => [[(c, n)]]
def waysL (ld : Ld) (h : Hm) : List (List Hm) := match (plsL ld h.1)[h.2]? with
  | some p => wayP ld h.1 p
  | none => []
def homesL (ld : Ld) : List Hm := (List.range ld.length).flatMap fun k => (List.range (plsL ld k).length).map fun i => (k, i)
theorem mem_homes {ld : Ld} {h : Hm} : h ∈ homesL ld ↔ h.1 < ld.length ∧ h.2 < (plsL ld h.1).length := by
  unfold homesL
  simp only [List.mem_flatMap, List.mem_range, List.mem_map]
  constructor
  · rintro ⟨k, hk, i, hi, rfl⟩; exact ⟨hk, hi⟩
  · rintro ⟨a, b⟩; exact ⟨h.1, a, h.2, b, rfl⟩
theorem ways_homes {ld : Ld} {h : Hm} (e : waysL ld h ≠ []) : h ∈ homesL ld := by
  rw [mem_homes]
  unfold waysL at e
  cases q : (plsL ld h.1)[h.2]? with
  | none => rw [q] at e; exact absurd rfl e
  | some p =>
    have l2 := (List.getElem?_eq_some_iff.mp q).1
    refine ⟨?_, l2⟩
    rcases Nat.lt_or_ge h.1 ld.length with l | l
    · exact l
    · unfold plsL at l2
      rw [List.getD_eq_getElem?_getD, List.getElem?_eq_none l] at l2
      exact absurd l2 (Nat.not_lt_zero _)
/-- what a good program's places are -/
structure LdOk (ld : Ld) : Prop where
  n : ld.length ≤ 40
  len : ∀ k, k < ld.length → 1 ≤ (plsL ld k).length ∧ (plsL ld k).length ≤ 300
  fin : ∀ (k i : Nat), (plsL ld k)[i]? = some Pl.fin ↔ (k < ld.length ∧ i = 0)
  call : ∀ (k i q n : Nat), (plsL ld k)[i]? = some (Pl.call q n) → q < ld.length
  fork : ∀ (k i : Nat) (ns : List Nat), (plsL ld k)[i]? = some (Pl.fork ns) → ns.length ≤ 8
/-- each part of each way, beside the home -/
def occL (ld : Ld) : List (Hm × Hm) := (homesL ld).flatMap fun h => (waysL ld h).flatMap fun w => w.map fun part => (part, h)
def usersO (o : List (Hm × Hm)) (h : Hm) : List Hm := (o.filter fun x => decide (x.1 = h)).map (·.2)
def usersL (ld : Ld) (h : Hm) : List Hm := usersO (occL ld) h
theorem usersO_append (a b : List (Hm × Hm)) (h : Hm) : usersO (a ++ b) h = usersO a h ++ usersO b h := by simp [usersO]
theorem sum_flat {α β : Type} (f : α → List β) (c : Nat) : ∀ l : List α, (∀ x ∈ l, (f x).length ≤ c) → (l.flatMap f).length ≤ c * l.length
  | [], _ => by simp
  | x :: r, h => by
    have h1 := sum_flat f c r fun y hy => h y (List.mem_cons_of_mem _ hy)
    have h2 := h x List.mem_cons_self
    rw [List.flatMap_cons, List.length_append, List.length_cons, Nat.mul_succ]
    omega
theorem way_parts {ld : Ld} (ok : LdOk ld) (h : Hm) : ((waysL ld h).flatMap fun w => w.map fun part => (part, h)).length ≤ 8 := by
  unfold waysL
  cases q : (plsL ld h.1)[h.2]? with
  | none => simp
  | some p =>
    cases p with
    | fin => simp [wayP]
    | ltr x n => simp [wayP]
    | call i n => simp [wayP]
    | fork ns =>
      have := ok.fork _ _ _ q
      refine Nat.le_trans (Nat.le_of_eq ?_) this
      simp only [wayP, List.flatMap_map]
      clear this q
      induction ns with
      | nil => rfl
      | cons n r ih => rw [List.flatMap_cons, List.length_append, ih, List.length_cons]; simp [Nat.add_comm]
theorem homes_len {ld : Ld} (ok : LdOk ld) : (homesL ld).length ≤ 12000 := by
  have h1 := sum_flat (fun k => (List.range (plsL ld k).length).map fun i => ((k, i) : Hm)) 300 (List.range ld.length) fun k hk => by
    rw [List.length_map, List.length_range]
    exact (ok.len k (List.mem_range.mp hk)).2
  rw [List.length_range] at h1
  have := ok.n
  unfold homesL
  omega
theorem occ_len {ld : Ld} (ok : LdOk ld) : (occL ld).length ≤ 96000 := by
  have h1 := sum_flat (fun h => (waysL ld h).flatMap fun w => w.map fun part => (part, h)) 8 (homesL ld) fun h _ => way_parts ok h
  have := homes_len ok
  unfold occL
  omega
/-! ### what may end: the turns -/
abbrev Stt := List Hm × List Hm
def goodW (C : List Hm) (w : List Hm) : Bool := w.all fun p => decide (p ∈ C)
def stp (ld : Ld) (n : Nat) (s : Stt) : Stt := match s.2[n]? with
  | none => s
  | some h => if h ∉ s.1 ∧ (waysL ld h).any (goodW s.1) = true then (s.1 ++ [h], s.2 ++ usersL ld h) else s
def startsL (ld : Ld) : List Hm := (List.range ld.length).map fun k => (k, 0)
def runL (ld : Ld) : Nat → Stt
  | 0 => ([], startsL ld)
  | n + 1 => stp ld n (runL ld n)
theorem run_stop {ld : Ld} {n : Nat} (h : (runL ld n).2.length ≤ n) : ∀ m, n ≤ m → runL ld m = runL ld n := by
  intro m hm
  induction m with
  | zero => rw [Nat.le_zero.mp hm]
  | succ m ih =>
    rcases Nat.lt_or_ge m n with l | l
    · rw [show n = m + 1 by omega]
    · have e := ih l
      show stp ld m (runL ld m) = _
      rw [e]
      unfold stp
      rw [List.getElem?_eq_none (by omega)]
def chosenL (ld : Ld) : List Hm := (runL ld 100000).1
theorem run_nd (ld : Ld) (n : Nat) : (runL ld n).1.Nodup := by
  induction n with
  | zero => exact List.nodup_nil
  | succ n ih =>
    show (stp ld n (runL ld n)).1.Nodup
    unfold stp
    split
    · exact ih
    · split
      · rename_i hh
        rw [List.nodup_append]
        refine ⟨ih, by simp, fun a ha b hb e => ?_⟩
        rw [List.mem_singleton.mp hb] at e
        subst e
        exact hh.1 ha
      · exact ih
theorem run_homes (ld : Ld) (n : Nat) : ∀ h ∈ (runL ld n).1, h ∈ homesL ld := by
  induction n with
  | zero => intro h hh; cases hh
  | succ n ih =>
    show ∀ h ∈ (stp ld n (runL ld n)).1, h ∈ homesL ld
    unfold stp
    split
    · exact ih
    · split
      · rename_i hh
        intro x hx
        rcases List.mem_append.mp hx with hx | hx
        · exact ih x hx
        · rw [List.mem_singleton.mp hx]
          exact ways_homes (fun e => by rw [e] at hh; exact absurd hh.2 (by simp))
      · exact ih
theorem nd_len {l m : List Hm} (h : l.Nodup) (s : ∀ x ∈ l, x ∈ m) : l.length ≤ m.length := by
  induction l generalizing m with
  | nil => exact Nat.zero_le _
  | cons x r ih =>
    have hn := List.nodup_cons.mp h
    have hx := s x List.mem_cons_self
    have := ih (m := m.erase x) hn.2 fun y hy => by
      refine (List.mem_erase_of_ne (fun e => hn.1 (by rw [← e]; exact hy))).mpr (s y (List.mem_cons_of_mem _ hy))
    rw [List.length_erase_of_mem hx] at this
    have : 0 < m.length := List.length_pos_of_mem hx
    rw [List.length_cons]; omega
theorem run_len {ld : Ld} (ok : LdOk ld) (n : Nat) : (runL ld n).1.length ≤ 12000 := Nat.le_trans (nd_len (run_nd ld n) (run_homes ld n)) (homes_len ok)
/-- how many stand beside some h of l -/
theorem users_sum (o : List (Hm × Hm)) : ∀ {l : List Hm}, l.Nodup → (l.map fun h => (usersO o h).length).sum ≤ o.length := by
  induction o with
  | nil =>
    intro l _
    have : ∀ k : List Hm, (k.map fun h => (usersO [] h).length).sum = 0 := fun k => by
      induction k with
      | nil => rfl
      | cons x r ih => rw [List.map_cons, List.sum_cons, ih]; rfl
    rw [this]; exact Nat.le_refl _
  | cons x r ih =>
    intro l hn
    have h0 := ih hn
    have key : ∀ k : List Hm, k.Nodup → (k.map fun h => (usersO (x :: r) h).length).sum = (k.map fun h => (usersO r h).length).sum + (if x.1 ∈ k then 1 else 0) := by
      intro k
      induction k with
      | nil => intro _; rfl
      | cons y t ih2 =>
        intro hk
        have hk := List.nodup_cons.mp hk
        rw [List.map_cons, List.sum_cons, List.map_cons, List.sum_cons, ih2 hk.2]
        have e : (usersO (x :: r) y).length = (usersO r y).length + (if x.1 = y then 1 else 0) := by
          unfold usersO
          rw [List.filter_cons]
          by_cases h : x.1 = y <;> simp [h]
        rw [e]
        by_cases h : x.1 = y
        · have hm : x.1 ∉ t := by rw [h]; exact hk.1
          simp [h, hk.1]
          omega
        · simp [h]
          omega
    rw [key l hn, List.length_cons]
    split <;> omega
theorem run_wait (ld : Ld) (n : Nat) : (runL ld n).2.length = ld.length + ((runL ld n).1.map fun h => (usersL ld h).length).sum := by
  induction n with
  | zero => simp [runL, startsL]
  | succ n ih =>
    show (stp ld n (runL ld n)).2.length = ld.length + ((stp ld n (runL ld n)).1.map fun h => (usersL ld h).length).sum
    unfold stp
    split
    · exact ih
    · split
      · rw [List.length_append, ih, List.map_append, List.sum_append]
        simp
        omega
      · exact ih
theorem run_bound {ld : Ld} (ok : LdOk ld) (n : Nat) : (runL ld n).2.length ≤ 96040 := by
  rw [run_wait]
  have h1 := users_sum (occL ld) (run_nd ld n)
  have h2 := occ_len ok
  have h3 := ok.n
  have : ((runL ld n).1.map fun h => (usersL ld h).length).sum ≤ (occL ld).length := h1
  omega
theorem chosen_at {ld : Ld} {n : Nat} (h : (runL ld n).2.length ≤ n) (hn : n ≤ 100000) : chosenL ld = (runL ld n).1 := by
  unfold chosenL; rw [run_stop h 100000 hn]
theorem chosen_homes {ld : Ld} {h : Hm} (m : h ∈ chosenL ld) : h ∈ homesL ld := run_homes ld _ h m
theorem chosen_len {ld : Ld} (ok : LdOk ld) : (chosenL ld).length ≤ 12000 := run_len ok _
theorem run_mem_wait (ld : Ld) (hs : ∀ k, k < ld.length → ((k, 0) : Hm) ∈ homesL ld) (n : Nat) : ∀ h ∈ (runL ld n).2, h ∈ homesL ld := by
  induction n with
  | zero =>
    intro h hh
    obtain ⟨k, hk, rfl⟩ := List.mem_map.mp hh
    exact hs k (List.mem_range.mp hk)
  | succ n ih =>
    show ∀ h ∈ (stp ld n (runL ld n)).2, h ∈ homesL ld
    unfold stp
    split
    · exact ih
    · split
      · intro x hx
        rcases List.mem_append.mp hx with hx | hx
        · exact ih x hx
        · obtain ⟨y, hy, rfl⟩ := List.mem_map.mp hx
          have hy := (List.mem_filter.mp hy).1
          obtain ⟨h0, hh0, hy⟩ := List.mem_flatMap.mp hy
          obtain ⟨w0, _, hy⟩ := List.mem_flatMap.mp hy
          obtain ⟨p0, _, rfl⟩ := List.mem_map.mp hy
          exact hh0
      · exact ih
/-! ### what is useful -/
inductive Rch (ld : Ld) (C : List Hm) (f : Hm) : Hm → Prop
  | base : f ∈ C → Rch ld C f f
  | step {h p : Hm} {w : List Hm} : Rch ld C f h → w ∈ waysL ld h → goodW C w = true → p ∈ w → Rch ld C f p
theorem Rch.mem {ld : Ld} {C : List Hm} {f h : Hm} (r : Rch ld C f h) : h ∈ C := by
  cases r with
  | base m => exact m
  | step _ _ g m => exact of_decide_eq_true (List.all_eq_true.mp g _ m)
def ltH (a b : Hm) : Prop := a.1 < b.1 ∨ (a.1 = b.1 ∧ a.2 < b.2)
/-- l: what is useful, in order -/
structure Usf (ld : Ld) (i : Nat) (l : List Hm) : Prop where
  s : l.Pairwise ltH
  m : ∀ h, h ∈ l ↔ Rch ld (chosenL ld) (i, begL ld i) h
theorem lt_sort_uniq : ∀ {l m : List Hm}, l.Pairwise ltH → m.Pairwise ltH → (∀ h, h ∈ l ↔ h ∈ m) → l = m
  | [], [], _, _, _ => rfl
  | [], y :: m, _, _, h => absurd ((h y).mpr List.mem_cons_self) (by simp)
  | x :: l, [], _, _, h => absurd ((h x).mp List.mem_cons_self) (by simp)
  | x :: l, y :: m, hl, hm, h => by
    have hl' := List.pairwise_cons.mp hl
    have hm' := List.pairwise_cons.mp hm
    have asym : ∀ a b : Hm, ltH a b → ltH b a → False := fun a b h1 h2 => by
      unfold ltH at h1 h2; omega
    have e : x = y := by
      rcases List.mem_cons.mp ((h x).mp List.mem_cons_self) with e | hx
      · exact e
      · rcases List.mem_cons.mp ((h y).mpr List.mem_cons_self) with e | hy
        · exact e.symm
        · exact (asym _ _ (hl'.1 y hy) (hm'.1 x hx)).elim
    subst e
    have irr : ∀ a : Hm, ¬ ltH a a := fun a h1 => by unfold ltH at h1; omega
    rw [lt_sort_uniq hl'.2 hm'.2 fun z => ?_]
    have hz := h z
    simp only [List.mem_cons] at hz
    constructor
    · intro m1
      rcases hz.mp (.inr m1) with e | m2
      · subst e; exact (irr _ (hl'.1 _ m1)).elim
      · exact m2
    · intro m1
      rcases hz.mpr (.inr m1) with e | m2
      · subst e; exact (irr _ (hm'.1 _ m1)).elim
      · exact m2
theorem Usf.uniq {ld : Ld} {i : Nat} {l m : List Hm} (a : Usf ld i l) (b : Usf ld i m) : l = m := lt_sort_uniq a.s b.s fun h => (a.m h).trans (b.m h).symm
end PK

set_option linter.all false
set_option Elab.async false
set_option maxRecDepth 100000
set_option maxHeartbeats 4000000
/-! KR: more rules: dicts with tuple keys. -/
namespace PK
open PySem PySem.Spec PyProof.Rows L2
/-! ### d.setdefault(k, z), k a tuple -/
def rSetdT : V → List V → Hp → VK → Prop := fun x xs H Q => ∃ (a : Addr) (kvs : List (List L2.Key × V)) (k : List L2.Key) (b : Addr) (z : V), x = .ref a ∧ xs = [.ref b, z] ∧ H a = some (.dT kvs) ∧ H b = some (.tup (k.map kV)) ∧ kvs.length < sizeLine ∧
  (∀ v, valV kvs k = some v → Q v H) ∧ (valV kvs k = none → Q z (upd H a (.dT (putK kvs k z))))
section
variable {X : Cx}
theorem mt_setdT (hu : X.A.units + 1 < cLine) : MtR X "dict.setdefault" rSetdT := by
  intro pins s σ H x xs v us Q I rx rxs h
  obtain ⟨a, kvs, k, b, z, rfl, rfl, ha, hb, hl, q1, q2⟩ := h
  cases rx
  obtain ⟨u1, u2, rfl, r1, r2⟩ := vals2 rxs
  cases r1
  obtain ⟨zl, hd, ys, rel, dd⟩ := dt_of I.hok ha
  have hz : ys.length ≤ sizeLine := by rw [← Paired.length rel]; exact zl
  have r := rel.val k
  refine call_setdefault_heap (knd := tupleKind (mixKind X.prog X.w)) (k := k) (tupleKind_room_in1 hu) (key_of I.hok hb) hd dd (fun p hp => ?_) (fun hn h' dd' hs => ?_) hz
  · rw [hp] at r
    cases ev : valV kvs k with
    | none => rw [ev] at r; exact (show False from r).elim
    | some v0 => rw [ev] at r; exact ⟨v0, H, I.tok _, r, q1 v0 ev⟩
  · rw [hn] at r
    cases ev : valV kvs k with
    | some v0 => rw [ev] at r; exact (show False from r).elim
    | none =>
      obtain ⟨o, es, ep, hq, h2, h3, h4, _, h5⟩ := dd'
      have lp : (putK kvs k z).length ≤ sizeLine := by have := length_putK kvs k z; omega
      have I2 : Inv X pins σ (upd H a (.dT (putK kvs k z))) { s with heap := h', toks := s.toks + (tupleKind (mixKind X.prog X.w)).draws k } :=
        d_write I (by rw [ha]; exact True.intro) hs ⟨o, hq⟩ ⟨lp, hd, _, (rel.put k hb r2).keeps (fun c zs ec => by rw [upd_ne (ne_of ec ha (fun w => nomatch w))]; exact ec), o, es, ep, hq, h2, h3, h4, h5⟩
      exact ⟨z, _, I2, r2, q2 ev⟩
end
/-! ### d != {} -/
section
variable {prog : Program} {w : World} {A : Around} {E : Value → Shared → Prop} {s : Shared}
theorem ne_empty_raw {a b : Addr} {oa ob : Obj} {es : Array DictEntry} {ep ep' : Nat} {Q : Value → Shared → Prop} (ha : (a == sysModules) = false) (hb : (b == sysModules) = false) (ga : s.heap.get? a = some oa) (xa : oa.ExactDict) (da : oa.data = .dict es ep)
    (gb : s.heap.get? b = some ob) (xb : ob.ExactDict) (db : ob.data = .dict #[] ep') (hu : A.units < cLine) (h : Q (.bool (!(es.size == 0))) s) : wpAny (model prog w) A (compareOp .NotEq (.ref a) (.ref b)) Q E s := by
  have ta : s.TypeIs (.ref a) "dict" := ⟨oa, ga, xa.1⟩
  have tb : s.TypeIs (.ref b) "dict" := ⟨ob, gb, xb.1⟩
  refine wpAny_richCompare_same_room (op := .NotEq) ta tb PySem.F.slot_dict_ne (wpAny_call_entry PySem.F.slot_dict_ne ta PySem.F.entry_dict_ne ?_ (PySem.F.args_dict_ne_2 _ _)) hu
  show wpAny _ _ (Builtin.Dict.dictSlotArgs "__ne__" ⟨[.ref a, .ref b], []⟩ >>= _) _ _ s
  refine wpAny_bind ?_
  unfold Builtin.Dict.dictSlotArgs
  refine wpAny_bind (wpAny_notOrdered_dict ta ?_)
  show wpAny _ _ (pure (Value.ref a, Value.ref b)) _ _ s
  refine wpAny_pure ?_
  refine wpAny_bind (wpAny_isInstance (T := "dict") tb PySem.F.sub_dict_dict ?_)
  simp only [Bool.not_true, Bool.false_eq_true, if_false]
  refine wpAny_bind (wpAny_pure (wpAny_bind (wpAny_pure ?_)))
  have fin : ∀ r : Bool, r = (es.size == 0) → wpAny (model prog w) A.in1 (Builtin.Dict.samePairs "dict.__ne__" a b) (fun c s' => c = r ∧ s' = s) E s := by
    intro r er
    unfold Builtin.Dict.samePairs Builtin.Dict.showsAll
    rw [if_neg (show ¬ (a == sysModules) = true by rw [ha]; exact Bool.false_ne_true), if_neg (show ¬ (b == sysModules) = true by rw [hb]; exact Bool.false_ne_true)]
    refine wpAny_bind (wpAny_pure (wpAny_bind (wpAny_pure ?_)))
    refine wpAny_bind (wpAny_dictEntries ga da ?_)
    dsimp only
    refine wpAny_bind (wpAny_dictEntries gb db ?_)
    by_cases hsz : es.size = 0
    · rw [if_neg (by rw [hsz]; simp)]
      refine wpAny_bind (wpAny_dictEpoch ga da ?_)
      refine wpAny_bind ?_
      rw [Std.Legacy.Range.forIn_eq_forIn_range']
      simp only [Std.Legacy.Range.size, Nat.sub_zero, Nat.add_sub_cancel, Nat.div_one, hsz]
      refine wpAny_pure (wpAny_pure ⟨?_, rfl⟩)
      rw [er, hsz]; rfl
    · rw [if_pos (by simpa using hsz)]
      refine wpAny_bind (wpAny_rule (wpAny_pure ⟨?_, rfl⟩))
      rw [er]; simp [hsz]
  refine wpAny_bind (wpAny_mono (fin _ rfl) (fun c s' hc => ?_) fun _ _ e => e)
  obtain ⟨rfl, rfl⟩ := hc
  refine wpAny_pure ⟨_, rfl, ?_, ?_⟩
  · exact fun x => nomatch x
  · simpa using h
end
def rNeE : R2 := fun x y H Q => ∃ (a b : Addr) (kvs : List (List L2.Key × V)), x = .ref a ∧ y = .ref b ∧ H a = some (.dT kvs) ∧ H b = some (.dT []) ∧ Q (.bl (!kvs.isEmpty)) H
theorem oNeE {X : Cx} (hu : X.A.units + 64 < cLine) : OpR X (compareOp .NotEq) rNeE := by
  intro pins s σ H x y v u Q I rx ry h
  obtain ⟨a, b, kvs, rfl, rfl, ha, hb, q⟩ := h
  cases rx
  cases ry
  obtain ⟨_, ya, ka, ra, oa, es, ep, ga, xa, da, ea, _⟩ := (show ObjOk X.prog X.w H s.heap a (.dT kvs) from I.hok a _ ha)
  obtain ⟨_, yb, kb, rb, ob, fs, ep', gb, xb, db, eb, _⟩ := (show ObjOk X.prog X.w H s.heap b (.dT []) from I.hok b _ hb)
  cases rb
  have ef : fs = #[] := by simpa using eb
  subst ef
  have l1 : es.size = ka.length := size_of_entries ea
  have l2 : kvs.length = ka.length := Paired.length ra
  refine ne_empty_raw ya yb ga xa da gb xb db (by omega) ⟨.bl (!(es.size == 0)), H, I, rfl, ?_⟩
  have e : (es.size == 0) = kvs.isEmpty := by
    rw [l1, ← l2]
    cases kvs <;> simp
  rw [e]; exact q
/-! ### {k: v}, k a tuple -/
def tDisp1T (tk tv : TE) : TE := fun σ H Q => ∀ p, H p = none → tPairs [(tk, tv)] σ (upd H p (.dT [])) fun ps H2 => ∃ x y, ps = [(x, y)] ∧ H2 p = some (.dT []) ∧ ∃ (b : Addr) (k : List L2.Key), x = .ref b ∧ H2 b = some (.tup (k.map kV)) ∧ Q (.ref p) (upd H2 p (.dT [(k, y)]))
theorem pe_disp1T {X : Cx} {pos : Pos} {k v : Expr} {tk tv : TE} (hu : X.A.units + 1 < cLine) (hk : PE X k tk) (hv : PE X v tv) : PE X (.Dict [some k] [v] pos) (tDisp1T tk tv) := by
  refine ⟨fun pins s σ H Q I q => ?_⟩
  have hn := I.hok.fresh (Nat.le_refl s.heap.objs.size)
  have I1 := I.laid (a := s.heap.objs.size) (o := .dT []) (h' := s.heap.push { cls := .type "dict", data := .dict #[] }) (t' := s.toks) (fun _ _ q => Heap.get?_push_of_some _ q) (Nat.le_refl _) (dt_empty s.heap I.big)
  have pp : PPs X pos [some k] [v] [(tk, tv)] := pps_cons hk hv pps_nil
  have lp := pairTrees_length [some k] [v] X.env pos rfl rfl
  rw [arm_eval_Dict, zip_pairTrees [some k] [v] X.env pos rfl rfl, dictDisplay_pairs _ (by
    intro he
    rw [he] at lp; cases lp) (by rw [lp]; show 1 < 17; decide)]
  refine wpAny_bind (wpAny_standAt (wpAny_bind (wpAny_subDictH (knd := tupleKind (mixKind X.prog X.w)) (by show X.A.units < cLine; omega) (by rw [lp]; show 1 ≤ 15; decide) (thn (pp.run pins _ σ _ (fun ps H2 => ∃ x y, ps = [(x, y)] ∧ H2 s.heap.objs.size = some (.dT []) ∧ ∃ (b : Addr) (k : List L2.Key), x = .ref b ∧ H2 b = some (.tup (k.map kV)) ∧ Q (.ref s.heap.objs.size) (upd H2 s.heap.objs.size (.dT [(k, y)]))) I1 ?_) fun ws s2 ⟨ps, H2, I2, rel, x, y, eps, e, b, kk, ex, hb, q2⟩ => ?_))))
  · exact q _ hn
  · subst eps ex
    cases rel with
    | @cons p0 q0 ps0 qs0 h0 t0 =>
      cases t0
      obtain ⟨w1, w2⟩ := q0
      obtain ⟨h1, h2⟩ := h0
      cases (show w1 = Value.ref b from h1)
      obtain ⟨z, hd, xs, rel, dd⟩ := dt_of I2.hok e
      cases rel
      refine ⟨[(kk, b, w2)], ⟨rfl, rfl, key_of I2.hok hb, trivial⟩, dd, fun h' tk' dd' hs => wpAny_pure ⟨.ref s.heap.objs.size, upd H2 s.heap.objs.size (.dT [(kk, y)]), ?_, rfl, q2⟩⟩
      obtain ⟨o, es, ep, hq, g2, g3, g4, _, g5⟩ := dd'
      exact d_write I2 (by rw [e]; exact True.intro) hs ⟨o, hq⟩ ⟨by show 1 ≤ sizeLine; decide, hd, [(kk, b, w2)], .cons ⟨rfl, by rw [upd_ne (ne_of hb e (fun w => nomatch w))]; exact hb, h2⟩ .nil, o, es, ep, hq, g2, g3, g4, g5⟩
/-! ### sorted(d), the keys pairs of ints -/
section
variable {prog : Program} {w : World} {A : Around} {E : Value → Shared → Prop} {s : Shared}
/-- the keys of a dict in a fresh list; the heap grows -/
theorem keys_out {T : String} {r d : Addr} {n : Nat} {P : Nat → Value → Prop} {OK : Heap → Prop} {R : List Value → Shared → Prop} (K : PySem.W.KdlSrc prog w T r d n P OK) (noEx : A.handled = none) (ok0 : OK s.heap) (few : n ≤ sizeLine)
    (go : ∀ (h1 : Heap) (tk : Nat) (acc : Array Value), (∀ b o, s.heap.get? b = some o → h1.get? b = some o) → s.heap.objs.size < h1.objs.size → ItemsOf P acc n → R acc.toList { s with heap := h1, toks := tk }) :
    wpAny (model prog w) A (collect (.ref r)) R E s := by
  have lt0 := K.there _ ok0
  unfold collect
  refine wpAny_bind (wpAny_runValue (codeAny_builtin entry_proto_collect' ?_))
  rw [Around.under_plainId PySem.F.plain_proto_collect _]
  show wpAny _ A.in1 (newList [] >>= fun fresh => again (.builtin "list.__iadd__" ⟨[fresh, .ref r], []⟩)) _ _ s
  refine wpAny_bind (wpAny_newObj_type ?_)
  refine wpAny_pure ⟨plainId_quiet PySem.F.plain_list_iadd _, codeAny_builtin entry_list_iadd' ?_⟩
  rw [Around.under_plainId PySem.F.plain_list_iadd _]
  have g0 : (s.heap.push { cls := .type "list", data := .seq ([] : List Value).toArray }).get? s.heap.objs.size = some { cls := .type "list", data := .seq #[] } := Heap.get?_push_size _ rfl
  show wpAny _ A.in1 (Builtin.List.listExtendWith (.ref s.heap.objs.size) (.ref r) (.ref s.heap.objs.size)) _ _ _
  have ext := PySem.W.kdl_extend (A := A) (s := { s with heap := s.heap.push { cls := .type "list", data := .seq ([] : List Value).toArray } })
    (R := fun (q : Result) (s' : Shared) => ∃ (h1 : Heap) (tk : Nat) (acc : Array Value) (c : Nat), q = .ok (.ret (.ref s.heap.objs.size)) ∧ s' = { s with heap := h1, toks := tk } ∧ (∀ b o, s.heap.get? b = some o → h1.get? b = some o) ∧
      h1.get? s.heap.objs.size = some { cls := .type "list", dict := none, data := .seq acc c, slots := #[] } ∧ ItemsOf P acc n)
    K noEx (K.keep _ _ ok0 fun b _ o e => Heap.get?_push_of_some _ e) s.heap.objs.size (Nat.ne_of_gt lt0.1) (Nat.ne_of_gt lt0.2) (.ref s.heap.objs.size) 0 g0
    (fun h1 tk acc c kp g1 it => ⟨h1, tk, acc, c, rfl, rfl, fun b o e => kp b o (Nat.ne_of_lt (Heap.lt_size e)) (Heap.get?_push_of_some _ e), g1, it⟩) few
  refine wpAny_mono ext (fun fin s' y => ?_) fun e s' y => by obtain ⟨_, _, _, _, bad, _⟩ := y; cases bad
  cases fin with
  | done f =>
    obtain ⟨h1, tk, acc, c, e, rfl, kp, g1, it⟩ := y
    cases e
    show wpAny _ A (load s.heap.objs.size >>= _) _ _ _
    exact wpAny_bind (wpAny_load g1 (wpAny_pure (go h1 tk acc kp (Heap.lt_size g1) it)))
  | again more =>
    refine ⟨y.1, codeAny_mono y.2 fun q s2 z => ?_⟩
    obtain ⟨h1, tk, acc, c, rfl, rfl, kp, g1, it⟩ := z
    show wpAny _ A (load s.heap.objs.size >>= _) _ _ _
    exact wpAny_bind (wpAny_load g1 (wpAny_pure (go h1 tk acc kp (Heap.lt_size g1) it)))
end
def prK (H : Hp) : V → Int × Int
  | .ref b => match H b with
    | some (.tup [.int x, .int y]) => (x, y)
    | _ => (0, 0)
  | _ => (0, 0)
theorem paired_mem {α β : Type} {R : α → β → Prop} {l : List α} {m : List β} (h : Paired R l m) {y : β} (hy : y ∈ m) : ∃ x ∈ l, R x y := by
  induction h with
  | nil => cases hy
  | cons a t ih =>
    rcases List.mem_cons.mp hy with rfl | hy
    · exact ⟨_, List.mem_cons_self, a⟩
    · obtain ⟨x, hx, r⟩ := ih hy
      exact ⟨x, List.mem_cons_of_mem _ hx, r⟩
def rSortDT : List V → Hp → VK → Prop := fun vs H Q => ∃ (a : Addr) (kvs : List (List L2.Key × V)) (f : List L2.Key → Int × Int), vs = [V.ref a] ∧ H a = some (.dT kvs) ∧ (∀ p ∈ kvs, p.1 = [.inl (f p.1).1, .inl (f p.1).2]) ∧
  ∀ (bs : List Addr) (k : V → Int × Int) (ys : List V) (p : Addr), IsKeys H kvs bs → (∀ b ∈ bs, H b = some (.tup [.int (k (.ref b)).1, .int (k (.ref b)).2])) → SrtO.Srtd (ltP k) ys → SrtO.Stb (ltP k) ys (bs.map V.ref) → H p = none → Q (.ref p) (upd H p (.lst ys))
section
variable {X : Cx}
theorem cr_sortDT (hc : X.calm = true) : CallR X (.builtin "sorted") rSortDT := by
  intro pins s σ H vs us Q I r h
  obtain ⟨d, kvs, f, rfl, hd, hf, q⟩ := h
  rw [Vals.ref1 r]
  obtain ⟨z, hs, ks, pr, o, es, ep, ho, hx, hdt, he, hn⟩ := (show ObjOk X.prog X.w H s.heap d (.dT kvs) from I.hok d _ hd)
  have l1 : es.size = ks.length := size_of_entries he
  have l2 : kvs.length = ks.length := Paired.length pr
  have hn0 : es.size ≤ sizeLine := by omega
  refine Calls.call_function_entry kind_sorted plain_sorted entry_sorted (args_sorted1 _) ?_
  unfold Builtin.«sorted»
  refine wpAny_bind (m := checkCount "sorted" 1 1 _) (wpAny_pure ?_)
  refine wpAny_bind (keys_out (kdl_raw hs hx hdt) (I.ok.hd hc) ho hn0 fun h1 tk acc k1 z1 it => ?_)
  have ea : acc.toList = (ks.map fun x => x.2.1).map Value.ref := by
    have hl : acc.toList.length = ks.length := by rw [Array.length_toList, it.1]; exact l1
    apply List.ext_getElem?
    intro j
    rw [List.map_map, List.getElem?_map]
    cases hj : acc.toList[j]? with
    | none => rw [List.getElem?_eq_none (by have := List.getElem?_eq_none_iff.mp hj; omega)]; rfl
    | some v =>
      obtain ⟨en, hen, hv⟩ := it.2 j v (by rw [← Array.getElem?_toList]; exact hj)
      have qe := entry_at he j
      rw [hen] at qe
      cases hb : ks[j]? with
      | none => rw [hb] at qe; exact nomatch (show some en = none from qe)
      | some b =>
        rw [hb] at qe
        rw [hv, show en = entryOfKey (tupleKind (mixKind X.prog X.w)) b from Option.some.inj qe]
        rfl
  generalize hbs : (ks.map fun x => x.2.1) = bs at ea
  have ik : IsKeys H kvs bs := by rw [← hbs]; exact isKeys_of pr
  have kk : ∀ b ∈ bs, H b = some (.tup [.int (prK H (.ref b)).1, .int (prK H (.ref b)).2]) := fun b hb => by
    obtain ⟨p, hp, e⟩ := paired_mem ik hb
    have e : H b = some (.tup (p.1.map kV)) := e
    rw [hf p hp] at e
    have e : H b = some (.tup [.int (f p.1).1, .int (f p.1).2]) := e
    have e2 : prK H (.ref b) = ((f p.1).1, (f p.1).2) := by unfold prK; simp only [e]
    rw [e2]; exact e
  have lb : acc.toList.length ≤ sizeLine := by rw [ea, List.length_map, ← hbs, List.length_map]; omega
  refine wpAny_bind (wpAny_newList ?_ lb)
  have hoL : (h1.push (seqObj "list" acc.toList.toArray 0)).get? h1.objs.size = some (seqObj "list" acc.toList.toArray 0) := Heap.get?_push_size _ rfl
  have all : ∀ v ∈ acc.toList, ∃ b ∈ bs, v = .ref b := fun v hv => by
    rw [ea] at hv
    obtain ⟨b, hb, e⟩ := List.mem_map.mp hv
    exact ⟨b, hb, e.symm⟩
  refine wpAny_bind (wpAny_holding (wpAny_call_entry slot_list_sort ⟨_, hoL, rfl⟩ entry_list_sort (SrtO.list_sort_ord (SrtO.swo_lex (fun u => prK H (backV u))) hoL lb (fun h2 => SrtO.pairs_sortableO (by omega) (fun v hv => ?_) fun ob e c => ?_) fun out hs hb => ⟨_, rfl, ?_⟩) (args_list_sort _)))
  · obtain ⟨b, hb, rfl⟩ := all v hv
    obtain ⟨_, its2, r2, ot, hot, hc2, n, hd2⟩ := I.hok _ _ (kk b hb)
    obtain ⟨u1, u2, rfl, ri, rj⟩ := vals2 r2
    obtain ⟨t1, rfl⟩ := ri
    obtain ⟨t2, rfl⟩ := rj
    exact ⟨b, ot, t1, t2, n, rfl, Heap.get?_push_of_some _ (k1 _ _ hot), hc2, hd2⟩
  · have e' : some ob = some (seqObj "list" acc.toList.toArray 0) := e.symm.trans hoL
    cases e'
    exact absurd (Value.type.inj c) (by decide)
  · have h3 : ∀ u ∈ out, ∃ a, u = Value.ref a := fun u hu => by
      obtain ⟨b, _, e⟩ := all u (hb.perm.mem_iff.mp hu)
      exact ⟨b, e⟩
    have hb2 : SrtO.Stb (ltP (prK H)) (out.map backV) (bs.map V.ref) := by
      have e1 : bs.map V.ref = acc.toList.map backV := by rw [ea, List.map_map]; rfl
      rw [e1]
      exact SrtO.Stb.map (ltP_swo (prK H)) backV hb
    obtain ⟨c, hcv⟩ := sortedHeap_at (vs := acc.toList) (out := out.toArray) hoL
    have lo : (out.map backV).length ≤ sizeLine := by rw [List.length_map, hb.perm.length_eq]; exact lb
    have keep : ∀ b o, s.heap.get? b = some o → (sortedHeap (h1.push (seqObj "list" acc.toList.toArray 0)) h1.objs.size acc.toList out.toArray).get? b = some o := fun b o e => by
      have q1 := k1 b o e
      have hlt := Heap.lt_size q1
      rw [sortedHeap_old (Nat.ne_of_lt hlt) (by rw [size_push']; exact Nat.lt_succ_of_lt hlt)]
      exact Heap.get?_push_of_some _ q1
    have hz : s.heap.objs.size ≤ h1.objs.size := Nat.le_of_lt z1
    exact wpAny_pure ⟨_, rfl, .ref h1.objs.size, _, I.laid (t' := tk) (o := .lst (out.map backV)) keep hz ⟨lo, out, c, vals_back h3, hcv⟩, rfl, q bs (prK H) _ _ ik kk (SrtO.srtd_map hs) hb2 (I.hok.fresh hz)⟩
end
end PK

set_option linter.all false
set_option Elab.async false
set_option maxRecDepth 100000
set_option maxHeartbeats 4000000
/-! KR2: an enumerate object held in a name; set of a tuple of pairs; t[::-1]. -/
namespace PK
open PySem PySem.Spec PyProof.Rows L2
/-! ### enumerate(xs) in a name -/
def EnO (it e : Addr) : HO := .ext fun h => IsEnum h e it 0 .none
def IlO (l it : Addr) : HO := .ext fun h => h.IsListIter it l 0
theorem ilO_ok {P : Program} {w : World} {H : Hp} {h : Heap} {l it : Addr} (e : h.IsListIter it l 0) : ObjOk P w H h it (IlO l it) := by
  obtain ⟨o, ho, r⟩ := e
  exact ⟨⟨o, ho, r⟩, ⟨o, ho⟩, fun h1 h2 q k => by obtain ⟨o, ho, r⟩ := q; exact ⟨o, k _ ho, r⟩⟩
def rEnumN (K : Fg) (n : Nat) : List V → Hp → VK → Prop := fun xs H Q => ∃ (l : Addr) (zs : List V), xs = [.ref l] ∧ SqL K H l zs ∧ ∀ e it, H e = none → H it = none → e ≠ it → n ≤ e → n ≤ it → Q (.ref e) (upd (upd H e (EnO it e)) it (IlO l it))
section
variable {X : Cx}
theorem call_enumN : CallR X (.type "enumerate") (rEnumN X.K X.s_0.heap.objs.size) := by
  intro pins s σ H xs us Q I r h
  obtain ⟨l, zs, rfl, hq, q⟩ := h
  obtain ⟨u, rfl, ru⟩ := vals1 r
  cases ru
  obtain ⟨its, rv, pl, hz⟩ := I.list hq
  refine call_enumerate_list pl.isList fun h' he hit hsz hk => ?_
  have f1 := I.hok.fresh (Nat.le_succ s.heap.objs.size)
  have f2 := I.hok.fresh (Nat.le_refl s.heap.objs.size)
  have ne : s.heap.objs.size + 1 ≠ s.heap.objs.size := Nat.succ_ne_self _
  have I1 : Inv X pins σ (upd H (s.heap.objs.size + 1) (EnO s.heap.objs.size (s.heap.objs.size + 1))) { s with heap := h' } := I.laid (t' := s.toks) hk (Nat.le_succ _) ⟨he, ⟨_, he⟩, fun h1 h2 q k => k _ q⟩
  have I2 := I1.take (o := IlO l s.heap.objs.size) (h' := h') (t' := s.toks) (fun b ob _ e => e) (I.fpOk (Nat.le_refl _) (by rw [upd_ne ne.symm]; exact f2)) (ilO_ok hit)
  exact ⟨.ref (s.heap.objs.size + 1), _, I2, rfl, q _ _ f1 f2 ne (Nat.le_trans I.sz (Nat.le_succ _)) I.sz⟩
/-- behind the walk the object is forgotten -/
def iEnumV (K : Fg) (n : Nat) (k : Nat) : TI := fun σ H R => ∃ (e it l : Addr), σ[k]? = some (some (.ref e)) ∧ H e = some (EnO it e) ∧ H it = some (IlO l it) ∧ e ≠ it ∧ n ≤ e ∧ n ≤ it ∧ R (Ite K l) (ItX.dropH (ItX.dropH H e) it)
theorem pi_enumV {k : Nat} {x : Str} {p tpos : Pos} {elts : List Expr} {kk : Nat} (hN : X.N[k]? = some x) (hv : Vis X.env.scope x) (hd : (x == ("__debug__" : Str)) = false := by decide) (hcd : (x == ("__classdict__" : Str)) = false := by decide) :
    PI X (.Tuple elts kk tpos) (.Name x p) (iEnumV X.K X.s_0.heap.objs.size k) := by
  refine ⟨fun pins s σ H R I h => ?_⟩
  obtain ⟨e, it, l, hs, h1, h2, hne, n1, n2, q⟩ := h
  refine thn ((pe_var (pos := p) (i := k) hN hv hd hcd).run pins s σ H (fun v H1 => v = .ref e ∧ H1 = H) I ⟨.ref e, hs, rfl, rfl⟩) fun u s1 ⟨v, H1, I1, r1, ev, eH⟩ => ?_
  subst ev
  rw [eH] at I1
  cases r1
  have he : IsEnum s1.heap e it 0 .none := (I1.hok e _ h1).1
  have hit : s1.heap.IsListIter it l 0 := (I1.hok it _ h2).1
  refine wpAny_pyIter_enum he ?_
  have h2' : ItX.dropH H e it = some (IlO l it) := by rw [ItX.dropH_ne hne.symm]; exact h2
  have I2 := ItX.inv_drop I1 h1
  have I3 := ItX.inv_drop I2 h2'
  have fe := ItX.inv_fp I1 h1 n1
  have fi := ItX.inv_fp I2 h2' n2
  refine ⟨e, [e, it], _, _, ItX.dropH (ItX.dropH H e) it, rfl, I3, turn_enum l e it, ⟨⟨.none, he⟩, hit, hne⟩, fun b hb => ?_, q⟩
  have e' : b = e ∨ b = it := by simpa using hb
  rcases e' with rfl | rfl
  · obtain ⟨a1, a2, a3, a4, a5, a6⟩ := fe
    exact ⟨by rw [ItX.dropH_ne hne]; exact a1, a2, a3, a4, a5, a6⟩
  · exact fi
end
/-! ### set(t), t a tuple of tuples of ints -/
section
variable {P : Program} {w : World} {A : Around} {E : Value → Shared → Prop} {s : Shared}
abbrev set0 (w : World) : Obj := { cls := .type "set", dict := none, data := .set #[] 0 (.fresh 0 0 (!w.params.followText "set-order")) }
set_option maxRecDepth 100000 in
set_option maxHeartbeats 3200000 in
theorem set_of_tuple {t : Addr} {zs : Array Value} (ks : List (Addr × List Int)) {Q : Value → Shared → Prop} (noEx : A.handled = none) (ht : s.heap.IsTuple t zs) (hzs : zs.toList = ks.map fun p => Value.ref p.1)
    (hks : ∀ p ∈ ks, IsT P w s.heap p.2 p.1) (few : ks.length < 64) (hu : A.units + 3 < cLine)
    (go : ∀ (h1 : Heap) (tk : Nat) L es ep st, SetTR P w h1 s.heap.objs.size L es ep st → Got ks ks.length L → (∀ b o, s.heap.get? b = some o → h1.get? b = some o) → Q (.ref s.heap.objs.size) { s with heap := h1, toks := tk }) :
    wpAny (model P w) A (call (.type "set") [.ref t]) Q E s := by
  have zsz : zs.size = ks.length := by
    have q := congrArg List.length hzs
    rwa [Array.length_toList, List.length_map] at q
  obtain ⟨mc, mt, hmro⟩ := F.called_set.mro
  have hmade := F.called_set.made
  have hsub := F.called_set.sub
  refine wpAny_call (codeAny_of_tree ?_)
  show wpAny _ _ (callAny (.type "set") _) _ _ _
  refine wpAny_pure ⟨Code.quiet_builtin _ (by decide +kernel), codeAny_builtin F.entry_type_call ?_⟩
  rw [Around.under_plain (weight_type_call_type "set" [.ref t] []) rfl]
  have h1 := F.called_set.notType
  have h2 := F.called_set.canCreate
  have hct := F.typeCall_set_1 (.ref t)
  repeat (any_goals (first | assumption | wp_step))
  refine codeAny_mono (code_set_led1 (.ref t) (E := E) (Q₁ := fun obj s1 => obj = .ref s.heap.objs.size ∧ s1 = { s with heap := s.heap.push (set0 w) }) ⟨rfl, rfl⟩) fun r s1 hr => ?_
  cases r with
  | error e => exact hr
  | ok fl =>
    cases fl with
    | ret obj =>
      obtain ⟨rfl, rfl⟩ := hr
      have gS : (s.heap.push (set0 w)).get? s.heap.objs.size = some (set0 w) := Heap.get?_push_size _ rfl
      have tS : Shared.TypeIs { s with heap := s.heap.push (set0 w) } (.ref s.heap.objs.size) "set" := ⟨_, gS, rfl⟩
      have hli := F.called_set.init.lookup
      have hbi := F.called_set.init.bind (.ref s.heap.objs.size)
      repeat (any_goals (first | assumption | wp_step))
      refine codeAny_mono (codeAny_call_builtin (R := wants (fun r s2 => r = .none ∧ ∃ h1 tk L es ep st, s2 = { s with heap := h1, toks := tk } ∧ SetTR P w h1 s.heap.objs.size L es ep st ∧ Got ks ks.length L ∧
        (∀ b o, s.heap.get? b = some o → h1.get? b = some o)) E) F.called_set.init.plain F.entry_set_init (check_set_init_1 tS ?_)) fun r2 s2 hr2 => ?_
      · obtain ⟨ot, hot, hcl, nt, hdt⟩ := ht
        obtain ⟨oc, od, odt, osl⟩ := ot
        simp only at hcl hdt
        subst hcl; subst hdt
        have hot1 : (s.heap.push (set0 w)).get? t = some { cls := .type "tuple", dict := od, data := .seq zs nt, slots := osl } := Heap.get?_push_of_some _ hot
        have hs1 := F.sub_tuple_set
        have hs2 := F.sub_tuple_frozenset
        have hne : (Value.type "tuple" == Value.type "dict") = false := by decide
        have ht1 : (s.heap.push (set0 w)).IsTuple t zs := ⟨_, hot1, rfl, nt, rfl⟩
        unfold Builtin.«set.__init__» noKeywords Builtin.Frozenset.updateFrom
        generalize hPI : pyIter = PI
        wp_walk
        subst hPI
        refine wpAny_pyIter_tuple ht1 ?_
        refine wpAny_bind (wpAny_runValue ?_)
        have lt0 : t < s.heap.objs.size := Heap.lt_size hot
        have noEx3 : A.in1.in1.in1.handled = none := by simp [noEx]
        have sz1 : (s.heap.push (set0 w)).objs.size = s.heap.objs.size + 1 := Heap.size_push ..
        have ntI : t ≠ (s.heap.push (set0 w)).objs.size := by
          rw [sz1]; exact Nat.ne_of_lt (Nat.lt_succ_of_lt lt0)
        have nSf : s.heap.objs.size ∉ [(s.heap.push (set0 w)).objs.size, t] := by
          rw [sz1]; simp only [List.mem_cons, List.mem_singleton, List.not_mem_nil, or_false, not_or]
          exact ⟨Nat.ne_of_lt (Nat.lt_succ_self _), Nat.ne_of_gt lt0⟩
        have val : ∀ (i : Nat) (v : Value), zs[i]? = some v → ∃ p, ks[i]? = some p ∧ v = .ref p.1 := fun i v hv => by
          have q : zs.toList[i]? = some v := by rw [Array.getElem?_toList]; exact hv
          rw [hzs, List.getElem?_map] at q
          cases hq : ks[i]? with
          | none => rw [hq] at q; cases q
          | some p => rw [hq] at q; exact ⟨p, rfl, (Option.some.inj q).symm⟩
        have off : ∀ b, s.heap.objs.size ≤ b → s.heap.get? b = none := fun b hb => by
          cases q : s.heap.get? b with
          | none => rfl
          | some o => exact absurd (Nat.lt_of_lt_of_le (Heap.lt_size q) hb) (Nat.lt_irrefl _)
        refine set_update_tups ((Walks.tuple noEx3 _ t ntI zs).toS) s.heap.objs.size
          nSf ks zsz few val s.heap hks (off _ (Nat.le_refl _)) (fun b hb => off b (by
            rw [List.mem_singleton.mp hb, sz1]
            exact Nat.le_succ _)) hu (zs.size - 0) 0 _ (by omega) (Nat.zero_le _)
          ⟨⟨_, Heap.get?_push_size _ rfl, rfl, rfl⟩, (ht1.push _)⟩ (fun b o e => Heap.get?_push_of_some _ (Heap.get?_push_of_some _ e)) ?gS0 ?gR
        case gS0 =>
          exact ⟨[], #[], 0, _, setTR_fresh (Heap.get?_push_of_some _ gS), Got.zero ks⟩
        case gR =>
          intro s' L es ep st hm hS' g' kp
          obtain ⟨h1, g2, d', tk', os'⟩ := s'
          have eg : g2 = s.gens := hm.gens
          have ed : d' = s.drawn := hm.drawn
          have eo : os' = s.os := hm.os
          subst eg; subst ed; subst eo
          show wpAny _ _ _ _ _ _
          refine wpAny_pure ?_
          show wpAny _ _ (ret Value.none) _ _ _
          rw [zsz] at g'
          exact wpAny_pure ⟨rfl, h1, tk', L, es, ep, st, rfl, hS', g', kp⟩
      · cases r2 with
        | error e => exact hr2
        | ok fl2 =>
          cases fl2 with
          | ret r =>
            obtain ⟨rfl, h1, tk, L, es, ep, st, rfl, hS', g', kp⟩ := hr2
            repeat (any_goals (first | assumption | wp_step))
            exact go _ _ _ _ _ _ hS' g' kp
          | _ => exact hr2.elim
    | _ => exact hr.elim
end
def rSetTT (K : Fg) (P : Program) (w : World) : List V → Hp → VK → Prop := fun xs H Q => ∃ (t : Addr) (ks : List (Addr × List Int)), xs = [V.ref t] ∧ SqT K H t (ks.map fun p => V.ref p.1) ∧ (∀ p ∈ ks, SqT K H p.1 (p.2.map V.int)) ∧ ks.length < 64 ∧
  ∀ a L, H a = none → (∀ p ∈ L, p ∈ ks) → (∀ p ∈ ks, p.2 ∈ L.map (·.2)) → Q (.ref a) (upd H a (SetTO P w a L))
theorem cr_setTT {X : Cx} (hc : X.calm = true) (hu : X.A.units + 64 < cLine) : CallR X (.type "set") (rSetTT X.K X.prog X.w) := by
  intro pins s σ H xs us Q I r h
  obtain ⟨t, ks, rfl, ht, hk, few, q⟩ := h
  rw [Vals.ref1 r]
  obtain ⟨its, rv, pt, hz⟩ := I.tuple ht
  have pT : s.heap.IsTuple t its.toArray := pt
  refine set_of_tuple (P := X.prog) (w := X.w) ks (I.ok.hd hc) pT (by simpa using refs_of_vals rv) (fun p hp => I.isT (hk p hp)) few (by omega) fun h1 tk L es ep st R g k => ?_
  refine ⟨.ref s.heap.objs.size, upd H s.heap.objs.size (SetTO X.prog X.w s.heap.objs.size L), I.laid (t' := tk) k (Nat.le_refl _) (setTO_new R.t0), rfl, q _ L (I.hok.fresh (Nat.le_refl _)) (fun p hp => ?_) fun p hp => ?_⟩
  · exact List.mem_of_mem_take (g.sub p hp)
  · exact g.all p (by rw [List.take_length]; exact hp)
/-! ### t[::-1] -/
end PK

set_option linter.all false
set_option Elab.async false
set_option maxRecDepth 100000
set_option maxHeartbeats 4000000
/-! KR3: t[::-1]; a call with keywords alone. -/
namespace PK
open PySem PySem.Spec PyProof.Rows L2
section
variable {prog : Program} {w : World} {A : Around} {E : Value → Shared → Prop} {s : Shared}
theorem fm_congr {α β : Type} {f g : α → Option β} {l : List α} (h : ∀ x ∈ l, f x = g x) : l.filterMap f = l.filterMap g := by
  induction l with
  | nil => rfl
  | cons x r ih =>
    rw [List.filterMap_cons, List.filterMap_cons, h x List.mem_cons_self, ih fun y hy => h y (List.mem_cons_of_mem _ hy)]
theorem back_items (xs : Array Value) : ((List.range xs.size).filterMap fun (m : Nat) => xs[(((xs.size : Int) - 1) + (m : Int) * (-1)).toNat]?).toArray = xs.toList.reverse.toArray := by
  congr 1
  have e : (List.range xs.size).filterMap (fun (m : Nat) => xs[(((xs.size : Int) - 1) + (m : Int) * (-1)).toNat]?) = (List.range xs.size).map fun m => xs.toList.reverse.getD m .none := by
    rw [← List.filterMap_eq_map]
    refine fm_congr fun m hm => ?_
    have hm := List.mem_range.mp hm
    have e1 : (((xs.size : Int) - 1) + (m : Int) * (-1)).toNat = xs.size - 1 - m := by omega
    rw [e1]
    have hl : m < xs.toList.reverse.length := by simpa using hm
    simp only [Function.comp, List.getD_eq_getElem?_getD, List.getElem?_eq_getElem hl, Option.getD_some, List.getElem_reverse]
    rw [Array.getElem?_eq_getElem (by omega)]
    simp
  rw [e]
  apply List.ext_getElem
  · simp
  · intro i h1 h2
    simp only [List.getElem_map, List.getElem_range, List.getD_eq_getElem?_getD, List.getElem?_eq_getElem h2, Option.getD_some]
theorem item_rev_tuple {t sl : Addr} {zs : Array Value} {vl vu vs : Value} {Q : Value → Shared → Prop} (ht : IsTup s.heap t zs) (hs : s.heap.IsSliceOf sl vl vu vs) (pl : IsPart vl none) (pu : IsPart vu none) (ps : IsPart vs (some (-1)))
    (h : Q (.ref s.heap.objs.size) { s with heap := s.heap.push { cls := .type "tuple", data := .seq zs.toList.reverse.toArray } }) (hz : zs.size ≤ sizeLine) : wpAny (model prog w) A (getItem (.ref t) (.ref sl)) Q E s := by
  have fit : sizeOk (.seq zs.toList.reverse.toArray) := by
    show zs.toList.reverse.toArray.size ≤ sizeLine
    rw [List.size_toArray, List.length_reverse, Array.length_toList]; exact hz
  obtain ⟨os, hos, hcs, hds⟩ := id hs
  have tS : s.TypeIs (.ref sl) "slice" := ⟨os, hos, hcs⟩
  unfold getItem
  try with_reducible refine wpAny_holding ?_
  first | refine wpAny_bind (wpAny_pure ?_) | skip
  refine wpAny_bind (wpAny_sequenceKey ht.typeIs (by decide) ?_)
  refine wpAny_bind (wpAny_callSpecial?_slot (name := Str.ofString "__getitem__") ht.typeIs PyProof.Rows.slot_tuple_getitem (wpAny_call_entry PyProof.Rows.slot_tuple_getitem ht.typeIs entry_tuple_getitem ?_ (args_tuple_getitem _ _)))
  show wpAny _ _ (Builtin.Tuple.tupleItemsOf (.ref t) >>= _) _ _ s
  refine wpAny_bind (tupleItemsOf_ ht ?_)
  refine wpAny_bind (wpAny_typeOf tS ?_)
  rw [if_pos (by decide)]
  have sa : wpAny (model prog w) A.in1 (Builtin.Slice.sliceApplied (.ref sl) (pure (zs.size : Int))) (fun r s' => r = ((zs.size : Int) - 1, (-1 : Int), zs.size) ∧ s' = s) E s := by
    unfold Builtin.Slice.sliceApplied Builtin.Slice.sliceFields
    refine wpAny_bind (wpAny_bind (wpAny_field hos hds (x := vl) rfl (wpAny_bind (wpAny_field hos hds (x := vu) rfl (wpAny_bind (wpAny_field hos hds (x := vs) rfl (wpAny_pure ?_)))))))
    refine wpAny_bind (HT.slicePart_ ps ?_)
    show wpAny _ _ (if ((-1 : Int) == 0) = true then _ else _) _ _ s
    rw [if_neg (by decide)]
    refine wpAny_bind (HT.slicePart_ pl (wpAny_bind (HT.slicePart_ pu (wpAny_bind (wpAny_pure ?_)))))
    have ad : Builtin.Slice.sliceAdjust none none (-1) (zs.size : Int) = ((zs.size : Int) - 1, -1) := by
      unfold Builtin.Slice.sliceAdjust
      simp
    have pc : Builtin.Slice.slicePlaces ((zs.size : Int) - 1) (-1) (-1) = zs.size := by
      unfold Builtin.Slice.slicePlaces
      simp
      omega
    show wpAny _ _ (match Builtin.Slice.sliceAdjust none none (-1) (zs.size : Int) with | (lo, hi) => pure (lo, (-1 : Int), Builtin.Slice.slicePlaces lo hi (-1))) _ _ s
    rw [ad]
    show wpAny _ _ (pure ((zs.size : Int) - 1, (-1 : Int), Builtin.Slice.slicePlaces ((zs.size : Int) - 1) (-1) (-1))) _ _ s
    rw [pc]
    exact wpAny_pure ⟨rfl, rfl⟩
  refine wpAny_bind (wpAny_mono sa (fun r s' hr => ?_) fun _ _ e => e)
  obtain ⟨rfl, rfl⟩ := hr
  show wpAny _ _ (if (((zs.size : Int) - 1) == 0 && (-1 : Int) == 1 && zs.size == zs.size) = true then _ else _) _ _ s'
  rw [if_neg (by simp), back_items]
  first
    | exact wpAny_bind (m := Builtin.Tuple.tupleExact _) (wpAny_newObj_type (wpAny_pure ⟨_, rfl, wpAny_pure h⟩) fit)
    | exact wpAny_bind (m := Builtin.Tuple.tupleExact _) (wpAny_newObj_type (wpAny_bind (wpAny_pure (wpAny_pure ⟨_, rfl, wpAny_pure h⟩))) fit)
    | exact wpAny_bind (wpAny_bind (m := Builtin.Tuple.tupleExact _) (wpAny_newObj_type (wpAny_pure (wpAny_pure ⟨_, rfl, wpAny_pure h⟩)) fit))
    | exact wpAny_bind (wpAny_bind (m := Builtin.Tuple.tupleExact _) (wpAny_newObj_type (wpAny_pure ⟨_, rfl, wpAny_pure h⟩) fit))
end
def tRevT (K : Fg) (te : TE) : TE := fun σ H Q => te σ H fun x H1 => ∃ a xs, x = .ref a ∧ SqT K H1 a xs ∧ ∀ p, H1 p = none → Q (.ref p) (upd H1 p (.tup xs.reverse))
theorem pe_rev {X : Cx} {K : Fg} {e : Expr} {te : TE} {k : Nat} {p1 p2 p3 pos : Pos} (hK : X.K = K) (he : PE X e te) : PE X (.Subscript e (.Slice none none (some (.UnaryOp .USub (.Constant (.int 1) k p1) p2)) p3) pos) (tRevT K te) := by
  subst hK
  refine ⟨fun pins s σ H Q I h => ?_⟩
  refine Subscript_ (thn (he.run pins s σ H _ I h) fun v s1 ⟨x, H1, I1, r1, a, xs, ex, hx, q⟩ => ?_)
  subst ex
  cases r1
  have step : PO X (some (.UnaryOp .USub (.Constant (.int 1) k p1) p2)) (tPart (tUn (rU fun i => .int (-i)) (tC (.int 1)))) := po_some (pe_un un_neg pe_int)
  refine wpAny_Slice (thn (po_none.run pins s1 σ H1 (fun o H2 => o = none ∧ H2 = H1) I1 ⟨rfl, rfl⟩) fun vl s2 ⟨l, H2, I2, pl, el, e2⟩ => ?_)
  subst el e2
  refine thn (po_none.run pins s2 σ H2 (fun o H3 => o = none ∧ H3 = H2) I2 ⟨rfl, rfl⟩) fun vu s3 ⟨u, H3, I3, pu, eu, e3⟩ => ?_
  subst eu e3
  refine thn (step.run pins s3 σ H3 (fun o H4 => o = some (-1) ∧ H4 = H3) I3 ⟨1, rfl, -1, rfl, rfl, rfl⟩) fun vs s4 ⟨o, H4, I4, ps, eo, e4⟩ => ?_
  subst eo e4
  have I5 : Inv X pins σ H4 { s4 with heap := s4.heap.push { cls := .type "slice", data := .fields #[vl, vu, vs] } } := I4.kept (t' := s4.toks) fun b ob q => Heap.get?_push_of_some _ q
  obtain ⟨its, r, ht, hz⟩ := I5.tuple hx
  have hlen := r.length
  show wpAny (model X.prog X.w) X.A (subscriptTail e (.Slice none none (some (.UnaryOp .USub (.Constant (.int 1) k p1) p2)) p3) (.ref a) (.ref s4.heap.objs.size)) (EP X pins σ Q) X.xe { s4 with heap := s4.heap.push { cls := .type "slice", data := .fields #[vl, vu, vs] } }
  refine tail_any (ops := [.ref a, .ref s4.heap.objs.size]) ht.typeIs (PyProof.Rows.slot_tuple_getitem.lookup) ?_ (by with_unfolding_all rfl)
  refine item_rev_tuple ht (Heap.IsSliceOf.new _ vl vu vs) pl pu ps ?_ (by rw [List.size_toArray]; omega)
  refine ⟨.ref _, _, I5.laid (t' := s4.toks) (o := .tup xs.reverse) (fun b ob q => Heap.get?_push_of_some _ q) (Nat.le_refl _) ?_, rfl, q _ (I5.hok.fresh (Nat.le_refl _))⟩
  exact ⟨by rw [List.length_reverse]; exact hz, _, by simpa using r.reverse, IsTup.new _ _⟩
/-! ### a call with keywords alone, in the other order -/
structure DnK (P : Program) (w : World) (K : Fg) (mg : Str → Option Value) (base : Heap) (k : Nat) (a : Addr) (ps ks : List Str) (sp : Sp) : Prop where
  ex : ∃ fd, FnOk P w K mg base CX0 k a fd ps sp ∧ Binds K fd ps [] ∧ KBn K fd ps 0 ks (fun _ ws => ws.reverse) (fun _ zs => zs.reverse)
  kp : PySem.W.keepIn K (.ref a) = true
theorem DnK.dn {P : Program} {w : World} {K : Fg} {mg : Str → Option Value} {base : Heap} {k : Nat} {a : Addr} {ps ks : List Str} {sp : Sp} (D : DnK P w K mg base k a ps ks sp) : Dn P w K mg base k a ps sp :=
  let ⟨⟨fd, F, b, _⟩, kp⟩ := D
  ⟨⟨fd, F, b⟩, kp⟩
theorem Vals.rev {vs : List V} {us : List Value} (h : Vals vs us) : Vals vs.reverse us.reverse := h.reverse
theorem dn_mkK {P : Program} {w : World} {K : Fg} {mg : Str → Option Value} {base : Heap} {x q : Str} {st : Stmt} {f : Addr} {N ps ks : List Str} {k : Nat} {sp : Sp} (F : Std K x q st f) (S : FnScope N ps (defScope st))
    (hb : ∀ (kV doc pm : Value) (an : Option Addr) (cdv ct : Value) (us : List Value), us.length = ps.length → bindArgs (PySem.W.fnOf x q (defArgs st) (defBody st) (defScope st) .none kV doc pm an cdv ct) ⟨us, []⟩ = pure (ps.zip us))
    (hkb : ∀ (kV doc pm : Value) (an : Option Addr) (cdv ct : Value) (ws : List Value), ws.length = ks.length → bindArgs (PySem.W.fnOf x q (defArgs st) (defBody st) (defScope st) .none kV doc pm an cdv ct) ⟨[], ks.zip ws⟩ = pure (ps.zip ws.reverse))
    (len : ∀ vs H Q E, sp vs H Q E → vs.length = ps.length)
    (hbody : ∀ (cdv : Value) (A : Around) (outer : List Env) (s : Shared) (H : Hp) (vs : List V) (Q : VK) (E : XK), Room k (A.deeper (envOfC q (defScope st) s.heap.objs.size f cdv)) → sp vs H Q E →
      ∃ t, PSs (cxOf CX0 P w K mg base N q (defScope st) f cdv A outer s H E).nox (defBody st) t ∧ t { nx := fun _ H' => Q .non H', rt := Q } (start N vs) H) : DnK P w K mg base (k + 1) f ps ks sp := by
  obtain ⟨fd, F⟩ := F
  refine ⟨⟨fd, F.ok S len fun cdv A outer s H vs Q E hr h => ?_, F.bindsN hb, ?_⟩, F.kp⟩
  · obtain ⟨t, h1, h2⟩ := hbody cdv A outer s H vs Q E hr h
    exact ⟨t, h1.nox, h2⟩
  · obtain ⟨oc, od, dV, kV, doc, pm, an, cdv, ct, osl, rfl, lk, hcd, hD, hK⟩ := F.ex
    rcases hD with ⟨_, rfl⟩ | ⟨e, _⟩
    · refine ⟨fun s us ws _ l1 l2 => ?_, fun _ r => Vals.rev r⟩
      cases us with
      | nil => exact .of_eq (hkb kV doc pm an cdv ct ws l2)
      | cons _ _ => cases l1
    · exact absurd rfl e
theorem pe_fk {X : Cx} {k : Nat} {a : Addr} {ps ks : List Str} {sp : Sp} {x : Str} {p pos : Pos} {kws : List Keyword} {tk : TA} (D : DnK X.prog X.w X.K X.mg X.base k a ps ks sp) (hr : Room k X.A) (hm : X.mg x = some (.ref a)) (hkw : PK X kws tk) (hg : Gl X x := by rfl) (hdb : (x == ("__debug__" : Str)) = false := by decide)
    (hall : (backToKw pos (keywordEach kws X.env)).all (·.1.isSome) = true := by rfl) (hks : (backToKw pos (keywordEach kws X.env)).filterMap (·.1) = ks := by rfl)
    (hpl : ((backTo pos (starEach [] X.env)).any (·.1) || (backToKw pos (keywordEach kws X.env)).any (·.1.isNone)) = false := by rfl) :
    PE X (.Call (.Name x p) [] kws pos) (fun σ H Q => tk σ H fun zs H2 => zs.length = ks.length ∧ sp zs.reverse H2 Q E0) := by
  obtain ⟨⟨fd, F, _, hb⟩, kp⟩ := D
  refine ⟨fun pins s σ H Q I h => ?_⟩
  refine wpAny_Call_Name_kw (ld_glob I hg hm ?_ hdb)
  refine PySem.W.callWith_KW0 (h₀ := X.base) I.ok.mod.kin kp hall (thn (hkw.run pos pins s σ H _ I h) fun ws s2 ⟨zs, H2, I2, rz, hl, q2⟩ => ⟨I2.kIn, ?_⟩) hpl
  rw [hks]
  exact run_fnN (us := []) F hr hb pass0 I2 .nil rz rfl hl q2
end PK

set_option linter.all false
set_option Elab.async false
set_option maxRecDepth 100000
set_option maxHeartbeats 4000000
/-! KR4: o.f as a target among others; a list against []. -/
namespace PK
open PySem PySem.Spec PyProof.Rows L2
def gFld (K : Fg) (ta : TE) (f : Str) : TG := fun v σ H Q => ta σ H fun x H1 => ∃ a C dx fs, x = .ref a ∧ H1 a = some (.ins C dx fs) ∧ Cls K C ∧ NoAttr K C f ∧ fs.length < 1000 ∧ Q σ (upd H1 a (.ins C dx (putF f v fs)))
theorem pg_fld {X : Cx} {o : Expr} {f : Str} {pos : Pos} {ta : TE} (ha : PE X o ta) : PG X (.Attribute o f pos) (gFld X.K ta f) := by
  refine ⟨fun pins s σ H v u Q I r h => ?_⟩
  rw [assign_Attribute]
  refine wpAny_bind (wpAny_holding (thn (ha.run pins s σ H _ I h) fun ov s1 ⟨x, H1, I1, rx, a, C, dx, fs, ex, ea, c, n, l, q⟩ => ?_))
  subst ex
  obtain rfl : ov = Value.ref a := rx
  refine wpAny_bind (wpAny_standAt (wpAny_bind (wpAny_holding (setattr_ok I1 ea c n l r fun s2 I2 => ?_))))
  exact wpAny_release ⟨σ, _, I2, q⟩
/-- a list, not the empty one -/
def rNeNilL (K : Fg) : R2 := fun x y H Q => ∃ (a b : Addr) (ds : List PyData), x = .ref a ∧ y = .ref b ∧ Dp K H x (.list ds) ∧ SqL K H b [] ∧ PyData.canLayAll0 ds = true ∧ Q (.bl (!ds.isEmpty)) H
theorem oNeNilL {X : Cx} {K : Fg} (hK : X.K = K) (hu : X.A.units + 64 < cLine) : OpR X (compareOp .NotEq) (rNeNilL K) := by
  subst hK
  intro pins s σ H x y v u Q I rx ry h
  obtain ⟨a, b, ds, rfl, rfl, hd, hb, hc, q⟩ := h
  obtain ⟨as, r1⟩ := Dp.reads I (.list ds) _ v hd rx
  obtain ⟨bs, r2⟩ := Dp.reads I (.list []) _ u (Dp.lst hb .nil) ry
  have e : PyData.eqv (.list ds) (.list []) = ds.isEmpty := by cases ds <;> rfl
  have hm : min (PyData.list ds).depth (PyData.list []).depth ≤ 1 := Nat.le_trans (Nat.min_le_right _ _) (by decide)
  exact SeqAt.compareNe_reads r1 r2 hc rfl (by omega) ⟨.bl _, H, I, by rw [e]; rfl, q⟩
end PK

set_option linter.all false
set_option Elab.async false
set_option maxRecDepth 100000
set_option maxHeartbeats 4000000
/-! KW: the lot. -/
namespace PK
open PySem PySem.Spec PyProof.Rows L2
/-! ### homes and ways in the heap -/
def hmV (h : Hm) : List V := [.int (h.1 : Nat), .int (h.2 : Nat)]
def HmAt (H : Hp) (v : V) (h : Hm) : Prop := ∃ b, v = .ref b ∧ H b = some (.tup (hmV h))
inductive HmsAt (H : Hp) : List V → List Hm → Prop
  | nil : HmsAt H [] []
  | cons {v : V} {vs : List V} {h : Hm} {hs : List Hm} : HmAt H v h → HmsAt H vs hs → HmsAt H (v :: vs) (h :: hs)
def WayAt (H : Hp) (v : V) (w : List Hm) : Prop := ∃ b vs, v = .ref b ∧ H b = some (.tup vs) ∧ HmsAt H vs w
inductive WaysAt (H : Hp) : List V → List (List Hm) → Prop
  | nil : WaysAt H [] []
  | cons {v : V} {vs : List V} {h : List Hm} {hs : List (List Hm)} : WayAt H v h → WaysAt H vs hs → WaysAt H (v :: vs) (h :: hs)
theorem HmAt.tk {H H' : Hp} (t : Tk H H') {v : V} {h : Hm} (a : HmAt H v h) : HmAt H' v h := let ⟨b, e, q⟩ := a; ⟨b, e, t.t _ _ q⟩
theorem HmsAt.tk {H H' : Hp} (t : Tk H H') {vs : List V} {hs : List Hm} (a : HmsAt H vs hs) : HmsAt H' vs hs := by
  induction a with
  | nil => exact .nil
  | cons h _ ih => exact .cons (h.tk t) ih
theorem WayAt.tk {H H' : Hp} (t : Tk H H') {v : V} {w : List Hm} (a : WayAt H v w) : WayAt H' v w := let ⟨b, vs, e, q, r⟩ := a; ⟨b, vs, e, t.t _ _ q, r.tk t⟩
theorem WaysAt.tk {H H' : Hp} (t : Tk H H') {vs : List V} {ws : List (List Hm)} (a : WaysAt H vs ws) : WaysAt H' vs ws := by
  induction a with
  | nil => exact .nil
  | cons h _ ih => exact .cons (h.tk t) ih
theorem HmsAt.len {H : Hp} {vs : List V} {hs : List Hm} (a : HmsAt H vs hs) : vs.length = hs.length := by
  induction a with
  | nil => rfl
  | cons _ _ ih => rw [List.length_cons, List.length_cons, ih]
theorem WaysAt.len {H : Hp} {vs : List V} {ws : List (List Hm)} (a : WaysAt H vs ws) : vs.length = ws.length := by
  induction a with
  | nil => rfl
  | cons _ _ ih => rw [List.length_cons, List.length_cons, ih]
theorem HmsAt.get {H : Hp} {vs : List V} {hs : List Hm} (a : HmsAt H vs hs) : ∀ {i : Nat} {v : V}, vs[i]? = some v → ∃ h, hs[i]? = some h ∧ HmAt H v h := by
  induction a with
  | nil => intro i v e; simp at e
  | cons h _ ih =>
    intro i v e
    cases i with
    | zero => simp at e; subst e; exact ⟨_, rfl, h⟩
    | succ i => simpa using ih (i := i) (v := v) (by simpa using e)
theorem WaysAt.get {H : Hp} {vs : List V} {ws : List (List Hm)} (a : WaysAt H vs ws) : ∀ {i : Nat} {v : V}, vs[i]? = some v → ∃ w, ws[i]? = some w ∧ WayAt H v w := by
  induction a with
  | nil => intro i v e; simp at e
  | cons h _ ih =>
    intro i v e
    cases i with
    | zero => simp at e; subst e; exact ⟨_, rfl, h⟩
    | succ i => simpa using ih (i := i) (v := v) (by simpa using e)
theorem HmsAt.append {H : Hp} {vs us : List V} {hs ks : List Hm} (a : HmsAt H vs hs) (b : HmsAt H us ks) : HmsAt H (vs ++ us) (hs ++ ks) := by
  induction a with
  | nil => exact b
  | cons h _ ih => exact .cons h ih
theorem WaysAt.snoc {H : Hp} {vs : List V} {v : V} {ws : List (List Hm)} {w : List Hm} (a : WaysAt H vs ws) (b : WayAt H v w) : WaysAt H (vs ++ [v]) (ws ++ [w]) := by
  induction a with
  | nil => exact .cons b .nil
  | cons h _ ih => exact .cons h ih
/-! ### the laid program as data -/
def ldD (ld : Ld) : PyData := .tuple (ld.map fun r => .tuple [natD r.1, .tuple (r.2.map plD)])
/-- the laid program at v -/
def LdAt (K : Fg) (H : Hp) (v : V) (ld : Ld) : Prop := Dat K H v (ldD ld)
theorem ld_get {K : Fg} {H : Hp} {v : V} {ld : Ld} (h : LdAt K H v ld) : ∃ a xs, v = .ref a ∧ SqT K H a xs ∧ xs.length = ld.length ∧ ∀ q, q < ld.length → ∃ b c ys, xs[q]? = some (.ref b) ∧ SqT K H b [.int (begL ld q : Nat), .ref c] ∧ SqT K H c ys ∧ Dats K H ys ((plsL ld q).map plD) := by
  obtain ⟨a, xs, rfl, h1, h2⟩ := h.inv_tup
  refine ⟨a, xs, rfl, h1, by rw [h2.length, List.length_map], fun q hq => ?_⟩
  obtain ⟨x, hx, hd⟩ := h2.got (i := q) (d := .tuple [natD (ld.getD q (0, [])).1, .tuple ((ld.getD q (0, [])).2.map plD)]) (by
    rw [List.getElem?_map, List.getD_eq_getElem?_getD, List.getElem?_eq_getElem hq]; rfl)
  obtain ⟨b, ys, rfl, h3, h4⟩ := hd.inv_tup
  obtain ⟨y, _, rfl, h5, h6⟩ := h4.inv_cons
  obtain ⟨z, _, rfl, h7, h8⟩ := h6.inv_cons
  cases h8.inv_nil
  obtain ⟨c, ys, rfl, h9, h10⟩ := h7.inv_tup
  rw [h5.inv_int] at h3
  exact ⟨b, c, ys, hx, h3, h9, h10⟩
/-! ### the lot itself -/
def lotF (vl : V) (ar ah : Addr) : List (Str × V) := [("laid", vl), ("rows", .ref ar), ("homes", .ref ah)]
theorem lot_laid (vl : V) (ar ah : Addr) : (lotF vl ar ah).lookup ("laid" : Str) = some vl := lk_same
theorem lot_rows (vl : V) (ar ah : Addr) : (lotF vl ar ah).lookup ("rows" : Str) = some (.ref ar) := by unfold lotF; rw [lk_ne (by decide +kernel)]; exact lk_same
theorem lot_homes (vl : V) (ar ah : Addr) : (lotF vl ar ah).lookup ("homes" : Str) = some (.ref ah) := by unfold lotF; rw [lk_ne (by decide +kernel), lk_ne (by decide +kernel)]; exact lk_same
theorem lot_no (vl : V) (ar ah : Addr) {m : Str} (h1 : (m == "laid") = false) (h2 : (m == "rows") = false) (h3 : (m == "homes") = false) : (lotF vl ar ah).lookup m = none := by
  unfold lotF; rw [lk_ne h1, lk_ne h2, lk_ne h3]; rfl
def hmK (h : Hm) : List L2.Key := [.inl (h.1 : Nat), .inl (h.2 : Nat)]
theorem hmK_inj {a b : Hm} (e : hmK a = hmK b) : a = b := by
  unfold hmK at e
  injection e with e1 e2
  injection e2 with e2 _
  have e1 := Sum.inl.inj e1
  have e2 := Sum.inl.inj e2
  exact Prod.ext (by omega) (by omega)
theorem hmV_K (h : Hm) : hmV h = (hmK h).map kV := rfl
/-- the dict's keys are the homes of l, in order -/
def keyed (kvs : List (List L2.Key × V)) (l : List Hm) : Prop := kvs.map (·.1) = l.map hmK
theorem keyed_len {kvs : List (List L2.Key × V)} {l : List Hm} (h : keyed kvs l) : kvs.length = l.length := by
  have := congrArg List.length h
  simpa using this
theorem keyed_some {kvs : List (List L2.Key × V)} {l : List Hm} (h : keyed kvs l) (x : Hm) : (valV kvs (hmK x)).isSome = decide (x ∈ l) := by
  induction kvs generalizing l with
  | nil =>
    cases l with
    | nil => rfl
    | cons y r => cases h
  | cons p t ih =>
    cases l with
    | nil => cases h
    | cons y r =>
      unfold keyed at h
      rw [List.map_cons, List.map_cons] at h
      injection h with h1 h2
      by_cases e : x = y
      · subst e
        rw [valV_pos h1]; simp
      · rw [valV_neg (fun z => e (hmK_inj (h1.symm.trans z)).symm), ih h2]
        simp [e]
theorem keyed_put {kvs : List (List L2.Key × V)} {l : List Hm} (h : keyed kvs l) {x : Hm} (hx : x ∉ l) (v : V) : keyed (putK kvs (hmK x) v) (l ++ [x]) := by
  have e := keyed_some h x
  rw [decide_eq_false hx] at e
  have e : valV kvs (hmK x) = none := by cases q : valV kvs (hmK x) <;> simp_all
  rw [putK_new v e]
  unfold keyed at h ⊢
  rw [List.map_append, List.map_append, h]; rfl
/-- the lot at me: C the homes that may end -/
structure LotAt (K : Fg) (Cl me dx : Addr) (vl : V) (ar ah : Addr) (ld : Ld) (C : List Hm) (H : Hp) : Prop where
  ob : H me = some (.ins Cl dx (lotF vl ar ah))
  lv : LdAt K H vl ld
  ok : LdOk ld
  hm : ∃ kvs, H ah = some (.dT kvs) ∧ keyed kvs C ∧ ∀ k v, valV kvs k = some v → ∃ n : Int, v = .int n
  rw : ∃ rows, H ar = some (.lst rows) ∧ rows.length = C.length
theorem LotAt.same {K : Fg} {Cl me dx ar ah : Addr} {vl : V} {ld : Ld} {C : List Hm} {H H' : Hp} (h : LotAt K Cl me dx vl ar ah ld C H) (s : Same H H') : LotAt K Cl me dx vl ar ah ld C H' :=
  ⟨s _ _ h.ob, h.lv.tk (tk_same s), h.ok, let ⟨kvs, a, b⟩ := h.hm; ⟨kvs, s _ _ a, b⟩, let ⟨rows, a, b⟩ := h.rw; ⟨rows, s _ _ a, b⟩⟩
/-- the same, the lot's own lists and dicts not among what changes -/
theorem LotAt.kp {K : Fg} {Cl me dx ar ah : Addr} {vl : V} {ld : Ld} {C : List Hm} {M : List Addr} {H H' : Hp} (h : LotAt K Cl me dx vl ar ah ld C H) (k : Kp M H H') (t : Tk H H') (n1 : me ∉ M) (n2 : ah ∉ M) (n3 : ar ∉ M) : LotAt K Cl me dx vl ar ah ld C H' :=
  ⟨k _ _ h.ob n1, h.lv.tk t, h.ok, let ⟨kvs, a, b⟩ := h.hm; ⟨kvs, k _ _ a n2, b⟩, let ⟨rows, a, b⟩ := h.rw; ⟨rows, k _ _ a n3, b⟩⟩
def spBegin (K : Fg) (Cl : Addr) : Sp := fun vs H Q _ => ∃ (me dx : Addr) (vl : V) (ar ah : Addr) (ld : Ld) (i : Nat), vs = [.ref me, .int i] ∧ H me = some (.ins Cl dx (lotF vl ar ah)) ∧ LdAt K H vl ld ∧ i < ld.length ∧
  ∀ H' b, H b = none → Same H H' → H' b = some (.tup (hmV (i, begL ld i))) → Q (.ref b) H'
def spChoose (K : Fg) (Cl : Addr) : Sp := fun vs H Q _ => ∃ (me dx : Addr) (vl : V) (ar ah : Addr) (ld : Ld) (C : List Hm) (c i : Nat), vs = [.ref me, .int c, .int i] ∧ LotAt K Cl me dx vl ar ah ld C H ∧ (c, i) ∈ homesL ld ∧ C.length ≤ 20000 ∧
  (¬ ((c, i) ∉ C ∧ (waysL ld (c, i)).any (goodW C) = true) → ∀ H', Same H H' → Q (.bl false) H') ∧
  ((c, i) ∉ C ∧ (waysL ld (c, i)).any (goodW C) = true → ∀ H', Kp [ar, ah] H H' → Tk H H' → LotAt K Cl me dx vl ar ah ld (C ++ [(c, i)]) H' → Q (.bl true) H')
theorem goodW_take {C : List Hm} {w : List Hm} : goodW C w = (w.map fun p => decide (p ∈ C)).all id := by simp [goodW]
theorem any_take {ws : List (List Hm)} {C : List Hm} (h : ∀ (j : Nat) (w : List Hm), ws[j]? = some w → goodW C w = false) : ws.any (goodW C) = false := by
  rw [List.any_eq_false]
  intro w hw
  obtain ⟨j, hj⟩ := List.getElem?_of_mem hw
  rw [h j w hj]; simp
theorem any_at {ws : List (List Hm)} {C : List Hm} {j : Nat} {w : List Hm} (e : ws[j]? = some w) (h : goodW C w = true) : ws.any (goodW C) = true := List.any_eq_true.mpr ⟨w, List.mem_of_getElem? e, h⟩
/-- a way's parts are few -/
theorem way_len {ld : Ld} {h : Hm} {w : List Hm} (m : w ∈ waysL ld h) : w.length ≤ 2 := by
  unfold waysL at m
  cases q : (plsL ld h.1)[h.2]? with
  | none => rw [q] at m; cases m
  | some p =>
    rw [q] at m
    cases p with
    | fin => simp [wayP] at m; subst m; simp
    | ltr x n => simp [wayP] at m; subst m; simp
    | call i n => simp [wayP] at m; subst m; simp
    | fork ns => simp [wayP] at m; obtain ⟨n, _, rfl⟩ := m; simp
theorem ways_few {ld : Ld} (ok : LdOk ld) (h : Hm) : (waysL ld h).length ≤ 8 := by
  unfold waysL
  cases q : (plsL ld h.1)[h.2]? with
  | none => simp
  | some p =>
    cases p with
    | fin => simp [wayP]
    | ltr x n => simp [wayP]
    | call i n => simp [wayP]
    | fork ns =>
      have := ok.fork _ _ _ q
      simpa [wayP] using this
def LdOkV (ld : Ld) (h : Hm) : Prop := h ∈ homesL ld
def spWays (K : Fg) (Cl : Addr) : Sp := fun vs H Q _ => ∃ (me dx : Addr) (vl : V) (ar ah : Addr) (ld : Ld) (c i : Nat), vs = [.ref me, .int c, .int i] ∧ H me = some (.ins Cl dx (lotF vl ar ah)) ∧ LdAt K H vl ld ∧ LdOk ld ∧ (c, i) ∈ homesL ld ∧
  ∀ H' a xs, H a = none → Same H H' → H' a = some (.lst xs) → WaysAt H' xs (waysL ld (c, i)) → Q (.ref a) H'
section
variable {P : Program} {w : World} {K : Fg} {mg : Str → Option Value} {base : Heap}
theorem ok_ways (T : Tp K mg) (F : Std K "ways" "Lot.ways" s_Lot_ways (He.ma K (He.ga K "Lot") "ways")) : Dn P w K mg base 1 (He.ma K (He.ga K "Lot") "ways") ["self", "procedure", "place"] (spWays K (He.ga K "Lot")) := by
  refine dn_mk F sc_Lot_ways
    (fun _ _ _ _ _ _ us hl => match us, hl with | [_, _, _], _ => rfl)
    (fun vs H Q E h => ?_) fun cdv A outer s H vs Q E hr h => ?_
  · obtain ⟨me, dx, vl, ar, ah, ld, c, i, rfl, _⟩ := h; rfl
  obtain ⟨me, dx, vl, ar, ah, ld, c, i, rfl, ho, hl, ok, hm, q⟩ := h
  obtain ⟨al, ls, rfl, hL, hLl, hg⟩ := ld_get hl
  obtain ⟨m1, m2⟩ := mem_homes.mp hm
  obtain ⟨b, cc, ys, hx, hB, hC, hD⟩ := hg c m1
  have hy : ∃ y, ys[i]? = some y ∧ Dat K H y (plD ((plsL ld c)[i]'m2)) := hD.got (by rw [List.getElem?_map, List.getElem?_eq_getElem m2]; rfl)
  obtain ⟨y, hy, hyd⟩ := hy
  have ew : waysL ld (c, i) = wayP ld c ((plsL ld c)[i]'m2) := by unfold waysL; rw [List.getElem?_eq_getElem m2]
  refine ⟨_, (pss_cons (ps_set (i := 3) sc_Lot_ways.nd rfl (Or.inl rfl) (pe_ix (ixK (K := K) rfl) (pe_ix (ixK (K := K) rfl) (pe_ix (ixK (K := K) rfl) (fldK (K := K) rfl (pv 0) rfl) (pv 1) (fun _ _ => rfl)) pe_int (fun _ _ => rfl)) (pv 2) (fun _ _ => rfl)))
    (pss_cons (ps_if (pt_cmpR (oEqK (K := K) rfl (hu64 hr)) (pe_ix (ixK (K := K) rfl) (pv 3) pe_int (fun _ _ => rfl)) pe_str (nomark _)) (pss_one (ps_ret (pe_lst (pa_cons (pe_tup pa_nil) pa_nil)))) pss_nil)
    (pss_cons (ps_if (pt_cmpR (oEqK (K := K) rfl (hu64 hr)) (pe_ix (ixK (K := K) rfl) (pv 3) pe_int (fun _ _ => rfl)) pe_str (nomark _)) (pss_one (ps_ret (pe_lc (own := [("part", 4)]) (tt := tYes) rfl sc_Lot_ways.nd (iTupK (K := K) rfl (pe_ix (ixK (K := K) rfl) (pv 3) pe_int (fun _ _ => rfl))) (blkOk_by (N := N_Lot_ways) (sc := defScope s_Lot_ways) (own := [("part", 4)]) (by decide +kernel)) (fun _ _ _ _ _ => (pg_name (i := 4) sc_Lot_ways.nd rfl (Or.inl rfl))) (fun _ _ _ _ _ => pts_nil) (fun _ _ _ _ _ => (pe_tup (pa_cons (pe_tup (pa_cons (pv 1) (pa_cons (pv 4) pa_nil))) pa_nil)))))) pss_nil)
    (pss_cons (ps_if (pt_cmpR (oEqK (K := K) rfl (hu64 hr)) (pe_ix (ixK (K := K) rfl) (pv 3) pe_int (fun _ _ => rfl)) pe_str (nomark _)) (pss_one (ps_ret (pe_lst (pa_cons (pe_tup (pa_cons (pe_tup (pa_cons (pe_ix (ixK (K := K) rfl) (pv 3) pe_int (fun _ _ => rfl)) (pa_cons (pe_ix (ixK (K := K) rfl) (pe_ix (ixK (K := K) rfl) (fldK (K := K) rfl (pv 0) rfl) (pe_ix (ixK (K := K) rfl) (pv 3) pe_int (fun _ _ => rfl)) (fun _ _ => rfl)) pe_int (fun _ _ => rfl)) pa_nil))) (pa_cons (pe_tup (pa_cons (pv 1) (pa_cons (pe_ix (ixK (K := K) rfl) (pv 3) pe_int (fun _ _ => rfl)) pa_nil))) pa_nil))) pa_nil)))) pss_nil)
    (pss_one (ps_ret (pe_lst (pa_cons (pe_tup (pa_cons (pe_tup (pa_cons (pv 1) (pa_cons (pe_ix (ixK (K := K) rfl) (pv 3) pe_int (fun _ _ => rfl)) pa_nil))) pa_nil)) pa_nil)))))))), ?_⟩
  refine ⟨_, rfl, me, _, dx, _, _, rfl, ho, T.cl_Lot, T.n_Lot_laid, lot_laid _ _ _, _, rfl, .inr (.inl ⟨al, _, c, _, rfl, rfl, hL, atI_nat hx, .inr (.inl ⟨b, _, 1, _, rfl, rfl, hB, atI_nat (j := 1) rfl, _, rfl, .inr (.inl ⟨cc, _, i, _, rfl, rfl, hC, atI_nat hy, ?_⟩)⟩)⟩)⟩
  generalize hp : (plsL ld c)[i]'m2 = p at hyd ew
  cases p with
  | fin =>
    obtain ⟨d, zs, rfl, hZ, hZd⟩ := hyd.inv_tup
    obtain ⟨z, zs, rfl, h3, h4⟩ := hZd.inv_cons
    cases h4.inv_nil
    rw [h3.inv_str] at hZ
    refine ⟨_, rfl, .inr (.inl ⟨d, _, 0, _, rfl, rfl, hZ, atI_nat (j := 0) rfl, .inl ⟨rfl, _, rfl, ift (by decide +kernel) ?_⟩⟩)⟩
    refine ⟨Nat.zero_le _, fun t ht => ⟨(by show 1 ≤ sizeLine; decide), fun l hl2 => ?_⟩⟩
    have s1 := same_new ht (.tup [])
    have s2 := same_new hl2 (.lst [.ref t])
    refine q _ l _ ?_ (s1.trans s2) upd_same (by rw [ew]; exact .cons ⟨t, [], rfl, s2 _ _ upd_same, .nil⟩ .nil)
    rcases e : H l with _ | o
    · rfl
    · rw [s1 _ _ e] at hl2; cases hl2
  | fork ns =>
    obtain ⟨d, zs, rfl, hZ, hZd⟩ := hyd.inv_tup
    obtain ⟨z, zs, rfl, h3, h4⟩ := hZd.inv_cons
    obtain ⟨z2, zs, rfl, h5, h6⟩ := h4.inv_cons
    cases h6.inv_nil
    rw [h3.inv_str] at hZ
    obtain ⟨f, fs, rfl, hF, hFd⟩ := h5.inv_tup
    refine ⟨_, rfl, .inr (.inl ⟨d, _, 0, _, rfl, rfl, hZ, atI_nat (j := 0) rfl, .inl ⟨rfl, _, rfl, iff' (by decide +kernel) ?_⟩⟩)⟩
    refine ⟨_, rfl, .inr (.inl ⟨d, _, 0, _, rfl, rfl, hZ, atI_nat (j := 0) rfl, .inl ⟨rfl, _, rfl, ift (by decide +kernel) ?_⟩⟩)⟩
    refine ⟨_, rfl, .inr (.inl ⟨d, _, 1, _, rfl, rfl, hZ, atI_nat (j := 1) rfl, f, rfl, ⟨_, hF⟩, fun D nD => lc_acc walk_tup [] (fun i acc H' => WaysAt H' acc ((ns.take i).map fun n => [(c, n)])) nD (fun _ _ H1 _ t _ => t.seq hF) (fun _ _ _ _ _ _ hD p => p.tk (tk_lst hD)) .nil ?_ (by simp) ?_ ?_⟩)⟩
    · have : fs.length = ns.length := by rw [hFd.length, List.length_map]
      rw [this]
      have := ok.fork c i ns (by rw [List.getElem?_eq_getElem m2, hp])
      exact Nat.lt_of_le_of_lt this (by decide)
    · rintro j y acc H3 H3' hj k t hD2 hl2 pw ⟨rfl, hy2⟩ N E1 hN _
      obtain ⟨n, hn, hnd⟩ := dats_at (f := natD) hFd hy2
      rw [hnd.inv_int]
      refine ⟨rfl, tyes ⟨_, rfl, _, rfl, (by show 2 ≤ sizeLine; decide), fun t1 ht1 => ⟨(by show 1 ≤ sizeLine; decide), fun t2 ht2 => ?_⟩⟩⟩
      have s1 := same_new ht1 (.tup [.int (c : Nat), .int (n : Nat)])
      have s2 := same_new ht2 (.tup [.ref t1])
      refine hN _ _ (.of (s1.trans s2)) (tk_same (s1.trans s2)) ?_
      rw [take_snoc hn, List.map_append]
      exact (pw.tk (tk_same (s1.trans s2))).snoc ⟨t2, _, rfl, upd_same, .cons ⟨t1, rfl, s2 _ _ upd_same⟩ .nil⟩
    · rintro H3 acc k t hD2 _ pw
      have e : ns.take fs.length = ns := by rw [hFd.length, List.length_map, List.take_length]
      rw [e] at pw
      exact q H3 D acc nD (Kp.nil k) hD2 (by rw [ew]; exact pw)
  | call p2 n =>
    obtain ⟨d, zs, rfl, hZ, hZd⟩ := hyd.inv_tup
    obtain ⟨z, zs, rfl, h3, h4⟩ := hZd.inv_cons
    obtain ⟨z2, zs, rfl, h5, h6⟩ := h4.inv_cons
    obtain ⟨z3, zs, rfl, h7, h8⟩ := h6.inv_cons
    cases h8.inv_nil
    rw [h3.inv_str, h5.inv_int, h7.inv_int] at hZ
    have hp2 := ok.call c i p2 n (by rw [List.getElem?_eq_getElem m2, hp])
    obtain ⟨b2, c2, ys2, hx2, hB2, _, _⟩ := hg p2 hp2
    refine ⟨_, rfl, .inr (.inl ⟨d, _, 0, _, rfl, rfl, hZ, atI_nat (j := 0) rfl, .inl ⟨rfl, _, rfl, iff' (by decide +kernel) ?_⟩⟩)⟩
    refine ⟨_, rfl, .inr (.inl ⟨d, _, 0, _, rfl, rfl, hZ, atI_nat (j := 0) rfl, .inl ⟨rfl, _, rfl, iff' (by decide +kernel) ?_⟩⟩)⟩
    refine ⟨_, rfl, .inr (.inl ⟨d, _, 0, _, rfl, rfl, hZ, atI_nat (j := 0) rfl, .inl ⟨rfl, _, rfl, ift (by decide +kernel) ?_⟩⟩)⟩
    refine ⟨_, rfl, .inr (.inl ⟨d, _, 1, _, rfl, rfl, hZ, atI_nat (j := 1) rfl, _, rfl, me, _, dx, _, _, rfl, ho, T.cl_Lot, T.n_Lot_laid, lot_laid _ _ _, _, rfl, .inr (.inl ⟨d, _, 1, _, rfl, rfl, hZ, atI_nat (j := 1) rfl, .inr (.inl ⟨al, _, p2, _, rfl, rfl, hL, atI_nat hx2, .inr (.inl ⟨b2, _, 0, _, rfl, rfl, hB2, atI_nat (j := 0) rfl, ?_⟩)⟩)⟩)⟩)⟩
    refine ⟨(by show 2 ≤ sizeLine; decide), fun t1 ht1 => ?_⟩
    have s1 := same_new ht1 (.tup [.int (p2 : Nat), .int (begL ld p2 : Nat)])
    have tk1 := tk_same s1
    refine ⟨_, rfl, _, rfl, .inr (.inl ⟨d, _, 2, _, rfl, rfl, tk1.seq hZ, atI_nat (j := 2) rfl, (by show 2 ≤ sizeLine; decide), fun t2 ht2 => ⟨(by show 2 ≤ sizeLine; decide), fun t3 ht3 => ⟨(by show 1 ≤ sizeLine; decide), fun l hl2 => ?_⟩⟩⟩)⟩
    have s2 := same_new ht2 (.tup [.int (c : Nat), .int (n : Nat)])
    have s3 := same_new ht3 (.tup [.ref t1, .ref t2])
    have s4 := same_new hl2 (.lst [.ref t3])
    have s123 := s1.trans (s2.trans s3)
    refine q _ l _ ?_ (s123.trans s4) upd_same (by rw [ew]; exact .cons ⟨t3, _, rfl, s4 _ _ upd_same, .cons ⟨t1, rfl, s4 _ _ (s3 _ _ (s2 _ _ upd_same))⟩ (.cons ⟨t2, rfl, s4 _ _ (s3 _ _ upd_same)⟩ .nil)⟩ .nil)
    rcases e : H l with _ | o
    · rfl
    · rw [s123 _ _ e] at hl2; cases hl2
  | ltr x n =>
    obtain ⟨d, zs, rfl, hZ, hZd⟩ := hyd.inv_tup
    obtain ⟨z, zs, rfl, h3, h4⟩ := hZd.inv_cons
    obtain ⟨z2, zs, rfl, h5, h6⟩ := h4.inv_cons
    obtain ⟨z3, zs, rfl, h7, h8⟩ := h6.inv_cons
    cases h8.inv_nil
    rw [h3.inv_str, h5.inv_int, h7.inv_int] at hZ
    refine ⟨_, rfl, .inr (.inl ⟨d, _, 0, _, rfl, rfl, hZ, atI_nat (j := 0) rfl, .inl ⟨rfl, _, rfl, iff' (by decide +kernel) ?_⟩⟩)⟩
    refine ⟨_, rfl, .inr (.inl ⟨d, _, 0, _, rfl, rfl, hZ, atI_nat (j := 0) rfl, .inl ⟨rfl, _, rfl, iff' (by decide +kernel) ?_⟩⟩)⟩
    refine ⟨_, rfl, .inr (.inl ⟨d, _, 0, _, rfl, rfl, hZ, atI_nat (j := 0) rfl, .inl ⟨rfl, _, rfl, iff' (by decide +kernel) ?_⟩⟩)⟩
    refine ⟨_, rfl, _, rfl, .inr (.inl ⟨d, _, 2, _, rfl, rfl, hZ, atI_nat (j := 2) rfl, (by show 2 ≤ sizeLine; decide), fun t2 ht2 => ⟨(by show 1 ≤ sizeLine; decide), fun t3 ht3 => ⟨(by show 1 ≤ sizeLine; decide), fun l hl2 => ?_⟩⟩⟩)⟩
    have s2 := same_new ht2 (.tup [.int (c : Nat), .int (n : Nat)])
    have s3 := same_new ht3 (.tup [.ref t2])
    have s4 := same_new hl2 (.lst [.ref t3])
    have s123 := s2.trans s3
    refine q _ l _ ?_ (s123.trans s4) upd_same (by rw [ew]; exact .cons ⟨t3, _, rfl, s4 _ _ upd_same, .cons ⟨t2, rfl, s4 _ _ (s3 _ _ upd_same)⟩ .nil⟩ .nil)
    rcases e : H l with _ | o
    · rfl
    · rw [s123 _ _ e] at hl2; cases hl2
theorem ok_begin (T : Tp K mg) (F : Std K "begin" "Lot.begin" s_Lot_begin (He.ma K (He.ga K "Lot") "begin")) : Dn P w K mg base 1 (He.ma K (He.ga K "Lot") "begin") ["self", "index"] (spBegin K (He.ga K "Lot")) := by
  refine dn_mk F sc_Lot_begin
    (fun _ _ _ _ _ _ us hl => match us, hl with | [_, _], _ => rfl)
    (fun vs H Q E h => ?_) fun cdv A outer s H vs Q E hr h => ?_
  · obtain ⟨me, dx, vl, ar, ah, ld, i, rfl, _⟩ := h; rfl
  obtain ⟨me, dx, vl, ar, ah, ld, i, rfl, ho, hl, hi, q⟩ := h
  obtain ⟨al, ls, rfl, hL, hLl, hg⟩ := ld_get hl
  obtain ⟨b, cc, ys, hx, hB, hC, hD⟩ := hg i hi
  refine ⟨_, (pss_one (ps_ret (pe_tup (pa_cons (pv 1) (pa_cons (pe_ix (ixK (K := K) rfl) (pe_ix (ixK (K := K) rfl) (fldK (K := K) rfl (pv 0) rfl) (pv 1) (fun _ _ => rfl)) pe_int (fun _ _ => rfl)) pa_nil))))), ?_⟩
  refine ⟨_, rfl, _, rfl, me, _, dx, _, _, rfl, ho, T.cl_Lot, T.n_Lot_laid, lot_laid _ _ _, _, rfl, .inr (.inl ⟨al, _, i, _, rfl, rfl, hL, atI_nat hx, .inr (.inl ⟨b, _, 0, _, rfl, rfl, hB, atI_nat (j := 0) rfl, ?_⟩)⟩)⟩
  exact ⟨(by show 2 ≤ sizeLine; decide), fun t ht => q _ t ht (same_new ht _) upd_same⟩
theorem ok_choose (T : Tp K mg) (F : Std K "choose" "Lot.choose" s_Lot_choose (He.ma K (He.ga K "Lot") "choose")) (D_Lot_ways : Dn P w K mg base 1 (He.ma K (He.ga K "Lot") "ways") ["self", "procedure", "place"] (spWays K (He.ga K "Lot"))) :
    Dn P w K mg base 2 (He.ma K (He.ga K "Lot") "choose") ["self", "procedure", "place"] (spChoose K (He.ga K "Lot")) := by
  refine dn_mk F sc_Lot_choose
    (fun _ _ _ _ _ _ us hl => match us, hl with | [_, _, _], _ => rfl)
    (fun vs H Q E h => ?_) fun cdv A outer s H vs Q E hr h => ?_
  · obtain ⟨me, dx, vl, ar, ah, ld, C, c, i, rfl, _⟩ := h; rfl
  obtain ⟨me, dx, vl, ar, ah, ld, C, c, i, rfl, lt, hm, hC, q1, q2⟩ := h
  have hu := hu_of hr
  obtain ⟨kvs, hk1, hk2, hk3⟩ := lt.hm
  refine ⟨_, (pss_cons (ps_if (pt_cmp (pc_din hu (pe_tup (pa_cons (pv 1) (pa_cons (pv 2) pa_nil))) (fldK (K := K) rfl (pv 0) rfl))) (pss_one (ps_ret pe_bl)) pss_nil)
    (pss_cons (ps_for PassesOwn.never rfl (pi_enumA rfl T.b_enumerate (pa_cons (pe_m D_Lot_ways (hr.mono (by omega)) (pv 0) T.cl_Lot T.m_Lot_ways (pa_cons (pv 1) (pa_cons (pv 2) pa_nil))) pa_nil)) (pg_tup (by rfl) (pgs_cons (pg_name (i := 3) sc_Lot_choose.nd rfl (Or.inl rfl)) (pgs_cons (pg_name (i := 4) sc_Lot_choose.nd rfl (Or.inl rfl)) pgs_nil))) (pss_one (ps_if (pt_val (pe_callB (allK (K := K) rfl rfl) (by rfl) T.b_all (by decide +kernel) (pa_cons (pe_lc (own := [("part", 5)]) (tt := tYes) rfl sc_Lot_choose.nd (iTupK (K := K) rfl (pv 4)) (blkOk_by (N := N_Lot_choose) (sc := defScope s_Lot_choose) (own := [("part", 5)]) (by decide +kernel)) (fun _ _ _ _ _ => (pg_name (i := 5) sc_Lot_choose.nd rfl (Or.inl rfl))) (fun _ _ _ _ _ => pts_nil) (fun _ _ _ _ _ => (pe_cmp (pc_din hu (pv 5) (fldK (K := K) rfl (pv 0) rfl))))) pa_nil))) (pss_cons (ps_dput hu (fldK (K := K) rfl (pv 0) rfl) (pe_tup (pa_cons (pv 1) (pa_cons (pv 2) pa_nil))) (pe_callB (cLenK (K := K) rfl) (by rfl) T.b_len PySem.boot_len (pa_cons (fldK (K := K) rfl (pv 0) rfl) pa_nil)) rfl)
    (pss_cons (ps_expr (pe_bm PySem.F.plainAttrs_list PySem.F.slot_list_append PySem.F.type_list_append mt_append (fldK (K := K) rfl (pv 0) rfl) (pa_cons (pe_tup (pa_cons (pv 1) (pa_cons (pv 2) (pa_cons (pv 3) (pa_cons (pe_callTy (tupK (K := K) rfl) (by rfl) T.b_tuple (by decide +kernel) (pa_cons (pe_lc (own := [("part", 5)]) (tt := tYes) rfl sc_Lot_choose.nd (iTupK (K := K) rfl (pv 4)) (blkOk_by (N := N_Lot_choose) (sc := defScope s_Lot_choose) (own := [("part", 5)]) (by decide +kernel)) (fun _ _ _ _ _ => (pg_name (i := 5) sc_Lot_choose.nd rfl (Or.inl rfl))) (fun _ _ _ _ _ => pts_nil) (fun _ _ _ _ _ => (pe_dget hu (fldK (K := K) rfl (pv 0) rfl) (pv 5) (fun _ _ => rfl)))) pa_nil)) pa_nil))))) pa_nil)))
    (pss_one (ps_ret pe_bl)))) pss_nil)))
    (pss_one (ps_ret pe_bl)))), ?_⟩
  refine ⟨_, rfl, _, rfl, (by show 2 ≤ sizeLine; decide), fun t ht => ?_⟩
  have s1 := same_new ht (.tup (hmV (c, i)))
  generalize hH1 : upd H t (.tup [.int (c : Nat), .int (i : Nat)]) = H1
  have s1 : Same H H1 := by rw [← hH1]; exact s1
  have et : H1 t = some (.tup ((hmK (c, i)).map kV)) := by rw [← hH1]; exact upd_same
  have lt1 := lt.same s1
  refine ⟨_, rfl, me, _, dx, _, _, rfl, lt1.ob, T.cl_Lot, T.n_Lot_homes, lot_homes _ _ _, ah, _, rfl, DGet.t (s1 _ _ hk1) et, _, rfl, ?_⟩
  rw [keyed_some hk2]
  by_cases hin : (c, i) ∈ C
  · exact ift (decide_eq_true hin) (q1 (fun h => h.1 hin) _ s1)
  refine iff' (decide_eq_false hin) ?_
  refine ⟨_, rfl, me, dx, _, rfl, lt1.ob, lot_no _ _ _ (by decide +kernel) (by decide +kernel) (by decide +kernel), _, rfl, _, rfl, me, dx, vl, ar, ah, ld, c, i, rfl, lt1.ob, lt1.lv, lt1.ok, hm, fun H2 a xs hna s2 ha hW => ?_⟩
  have s12 := s1.trans s2
  have lw := hW.len
  have few := ways_few lt.ok (c, i)
  refine ⟨a, xs, rfl, .inl ⟨SqL.of ha, for_it walk_enum (fun j σ H' => Same H2 H' ∧ (∀ (k : Nat) (w : List Hm), k < j → (waysL ld (c, i))[k]? = some w → goodW C w = false) ∧ ∃ v3 v4, σ = [some (.ref me), some (.int (c : Nat)), some (.int (i : Nat)), v3, v4, none])
    ⟨.refl _, (fun k w h => by omega), none, none, rfl⟩ (fun j σ H' _ ⟨s3, _⟩ => SqL.of (s3 _ _ ha)) ?_ ?_⟩⟩
  · rintro j z σ H3 H4 hj ⟨s3, bad, v3, v4, rfl⟩ ⟨tp, y1, y, rfl, hT, rfl, e1, e2⟩
    cases e1
    have e2 : xs[j]? = some y := e2
    obtain ⟨w, hw, b, ps, rfl, hb, hps⟩ := hW.get e2
    have s4 := same_new hT (.tup [.int (j : Nat), .ref b])
    have s34 := s3.trans s4
    have s14 := s12.trans s34
    have lt4 := lt.same s14
    have hb4 := s34 _ _ hb
    have hps4 := hps.tk (tk_same s34)
    have wl := way_len (List.mem_of_getElem? hw)
    have pl := hps.len
    generalize hH4 : upd H3 tp (.tup [.int (j : Nat), .ref b]) = H4 at s4 s34 s14 lt4 hb4 hps4
    refine ⟨tp, _, rfl, SqT.of (by rw [← hH4]; exact upd_same), rfl, _, _, rfl, _, _, rfl, rfl, ?_⟩
    refine ⟨_, rfl, b, rfl, ⟨_, SqT.of hb4⟩, fun D nD => lc_acc walk_tup [] (fun k acc _ => acc = ((w.take k).map fun p => V.bl (decide (p ∈ C)))) nD (fun _ _ H1 _ t _ => SqT.of (t.t _ _ hb4)) (fun _ _ _ _ _ _ _ p => p) rfl ?_ (by simp) ?_ ?_⟩
    · rw [pl]; exact Nat.lt_of_le_of_lt wl (by decide)
    · rintro k y acc H5 H5' hk kp tk hD hl rfl ⟨rfl, hy⟩ N E1 hN _
      obtain ⟨h, hh, b2, rfl, hb2⟩ := (hps4.tk tk).get hy
      have lt5 := lt4.same (Kp.nil kp)
      refine ⟨rfl, tyes ⟨_, rfl, _, rfl, me, _, dx, _, _, rfl, lt5.ob, T.cl_Lot, T.n_Lot_homes, lot_homes _ _ _, ah, _, rfl, DGet.t (k := hmK h) ((Kp.nil kp) _ _ (s14 _ _ hk1)) hb2, ?_⟩⟩
      rw [keyed_some hk2]
      exact hN _ _ (.refl _ _) (.refl _) (by rw [take_snoc hh]; simp)
    · rintro H5 acc kp tk hD _ rfl
      have s45 := Kp.nil kp
      have s15 := s14.trans s45
      have et2 : w.take ps.length = w := by rw [pl, List.take_length]
      rw [et2] at hD
      refine ⟨D, w.map fun p => decide (p ∈ C), rfl, SqL.of (by rw [hD]; simp), _, rfl, ?_⟩
      rw [← goodW_take]
      by_cases hg : goodW C w = true
      · refine ift hg ?_
        have lt5 := lt.same s15
        obtain ⟨rows, hr1, hr2⟩ := lt5.rw
        have hk5 := s15 _ _ hk1
        have sz : 20000 < sizeLine := by decide
        have lk : kvs.length < sizeLine := by rw [keyed_len hk2]; omega
        refine ⟨_, rfl, me, _, dx, _, _, rfl, lt5.ob, T.cl_Lot, T.n_Lot_rows, lot_rows _ _ _, _, _, rfl, .inl ⟨_, SqL.of hr1, rfl⟩, ?_⟩
        refine ⟨_, rfl, me, _, dx, _, _, rfl, lt5.ob, T.cl_Lot, T.n_Lot_homes, lot_homes _ _ _, _, rfl, _, rfl, (by show 2 ≤ sizeLine; decide), fun t2 ht2 => ?_⟩
        have s6 := same_new ht2 (.tup [.int (c : Nat), .int (i : Nat)])
        generalize hH6 : upd H5 t2 (.tup [.int (c : Nat), .int (i : Nat)]) = H6 at s6
        have et6 : H6 t2 = some (.tup ((hmK (c, i)).map kV)) := by rw [← hH6]; exact upd_same
        have lt6 := lt5.same s6
        have hk6 := s6 _ _ hk5
        have hr6 := s6 _ _ hr1
        refine ⟨ah, _, rfl, DPut.t hk6 et6 lk, ?_⟩
        have t7 := tk_dT (o' := .dT (putK kvs (hmK (c, i)) (.int (rows.length : Nat)))) hk6
        have k7 : Kp [ar, ah] H6 (upd H6 ah (.dT (putK kvs (hmK (c, i)) (.int (rows.length : Nat))))) := kp_upd (by simp) _
        generalize hH7 : upd H6 ah (.dT (putK kvs (hmK (c, i)) (.int (rows.length : Nat)))) = H7 at t7 k7
        have n1 : me ≠ ah := ne_of lt6.ob hk6 nofun
        have n2 : ar ≠ ah := ne_of hr6 hk6 nofun
        have n3 : me ≠ ar := ne_of lt6.ob hr6 nofun
        have ob7 : H7 me = some (.ins (He.ga K "Lot") dx (lotF vl ar ah)) := by rw [← hH7, upd_ne n1]; exact lt6.ob
        have hr7 : H7 ar = some (.lst rows) := by rw [← hH7, upd_ne n2]; exact hr6
        have hk7 : H7 ah = some (.dT (putK kvs (hmK (c, i)) (.int (rows.length : Nat)))) := by rw [← hH7]; exact upd_same
        have ky7 := keyed_put hk2 hin (.int (rows.length : Nat))
        have iv7 : ∀ k v, valV (putK kvs (hmK (c, i)) (.int (rows.length : Nat))) k = some v → ∃ n : Int, v = .int n := fun k v e => by
          rw [valV_put] at e
          split at e
          · cases e; exact ⟨_, rfl⟩
          · exact hk3 k v e
        have t57 := (tk_same s6).trans t7
        have hb7 := (tk.trans t57).t _ _ hb4
        have hps7 := hps4.tk (tk.trans t57)
        refine ⟨_, rfl, me, _, dx, _, _, rfl, ob7, T.cl_Lot, T.n_Lot_rows, lot_rows _ _ _, .inl ⟨rfl, _, SqL.of hr7⟩, ?_⟩
        refine ⟨_, rfl, _, rfl, _, rfl, _, rfl, b, rfl, ⟨_, SqT.of hb7⟩, fun D2 nD2 => lc_acc walk_tup [] (fun k acc _ => True) nD2 (fun _ _ H1 _ t _ => SqT.of (t.t _ _ hb7)) (fun _ _ _ _ _ _ _ p => p) trivial ?_ (by simp) ?_ ?_⟩
        · rw [pl]; exact Nat.lt_of_le_of_lt wl (by decide)
        · rintro k y acc H8 H8' hk kp8 tk8 hD8 hl8 _ ⟨rfl, hy⟩ N E1 hN _
          obtain ⟨h, hh, b2, rfl, hb2⟩ := (hps7.tk tk8).get hy
          have s8 := Kp.nil kp8
          have hin2 : h ∈ C := of_decide_eq_true (List.all_eq_true.mp hg _ (List.mem_of_getElem? hh))
          have so := keyed_some ky7 h
          rw [decide_eq_true (List.mem_append.mpr (.inl hin2))] at so
          obtain ⟨v, hv⟩ := Option.isSome_iff_exists.mp so
          refine ⟨rfl, tyes ⟨_, rfl, me, _, dx, _, _, rfl, s8 _ _ ob7, T.cl_Lot, T.n_Lot_homes, lot_homes _ _ _, _, rfl, ah, v, rfl, .inr ⟨_, hmK h, b2, .inl (s8 _ _ hk7), rfl, hb2, hv.symm⟩, ?_⟩⟩
          exact hN _ _ (.refl _ _) (.refl _) trivial
        · rintro H8 acc kp8 tk8 hD8 la _
          have s8 := Kp.nil kp8
          refine ⟨D2, acc, rfl, .inl ⟨SqL.of hD8, fun l hl9 => ⟨(by show 4 ≤ sizeLine; decide), fun t4 ht4 => ?_⟩⟩⟩
          have s9 := same_new hl9 (.tup acc)
          have s10 := same_new ht4 (.tup [.int (c : Nat), .int (i : Nat), .int (j : Nat), .ref l])
          have s810 := s8.trans (s9.trans s10)
          have hr10 := s810 _ _ hr7
          refine ⟨ar, rows, _, rfl, rfl, hr10, by rw [hr2]; omega, ?_⟩
          have t11 := tk_lst (o' := .lst (rows ++ [.ref t4])) hr10
          have k57 : Kp [ar, ah] H H7 := (Kp.of (s15.trans s6)).trans k7
          have tt : Tk H _ := (tk_same (s15.trans s6)).trans (t7.trans ((tk_same s810).trans t11))
          refine q2 ⟨hin, any_at hw hg⟩ _ (k57.trans ((Kp.of s810).trans (kp_upd (by simp) _))) tt ⟨by rw [upd_ne n3]; exact s810 _ _ ob7, lt.lv.tk tt, lt.ok, ⟨_, by rw [upd_ne n2.symm]; exact s810 _ _ hk7, ky7, iv7⟩, ⟨_, upd_same, by simp [hr2]⟩⟩
      · have hg : goodW C w = false := by simpa using hg
        refine iff' hg ⟨s34.trans s45, fun k w' hk hw' => ?_, _, _, rfl⟩
        rcases Nat.lt_or_ge k j with l | l
        · exact bad k w' l hw'
        · have : k = j := by omega
          subst this
          rw [hw] at hw'
          cases hw'; exact hg
  · rintro σ H3 ⟨s3, bad, v3, v4, rfl⟩
    rw [lw] at bad
    have e : (waysL ld (c, i)).any (goodW C) = false := any_take fun k w hw => bad k w (List.getElem?_eq_some_iff.mp hw).1 hw
    exact q1 (fun h => by rw [e] at h; cases h.2) _ (s12.trans s3)
/-- a pair (which, way) -/
def EndAt (H : Hp) (v : V) (w : List Hm) : Prop := ∃ (t : Addr) (i : Int) (u : V), v = .ref t ∧ H t = some (.tup [.int i, u]) ∧ WayAt H u w
inductive EndsAt (H : Hp) : List V → List (List Hm) → Prop
  | nil : EndsAt H [] []
  | cons {v : V} {vs : List V} {h : List Hm} {hs : List (List Hm)} : EndAt H v h → EndsAt H vs hs → EndsAt H (v :: vs) (h :: hs)
theorem EndAt.tk {H H' : Hp} (t : Tk H H') {v : V} {w : List Hm} (a : EndAt H v w) : EndAt H' v w := let ⟨b, i, u, e, q, r⟩ := a; ⟨b, i, u, e, t.t _ _ q, r.tk t⟩
theorem EndsAt.tk {H H' : Hp} (t : Tk H H') {vs : List V} {ws : List (List Hm)} (a : EndsAt H vs ws) : EndsAt H' vs ws := by
  induction a with
  | nil => exact .nil
  | cons h _ ih => exact .cons (h.tk t) ih
theorem EndsAt.get {H : Hp} {vs : List V} {ws : List (List Hm)} (a : EndsAt H vs ws) : ∀ {i : Nat} {v : V}, vs[i]? = some v → ∃ w, ws[i]? = some w ∧ EndAt H v w := by
  induction a with
  | nil => intro i v e; simp at e
  | cons h _ ih =>
    intro i v e
    cases i with
    | zero => simp at e; subst e; exact ⟨_, rfl, h⟩
    | succ i => simpa using ih (i := i) (v := v) (by simpa using e)
theorem EndsAt.len {H : Hp} {vs : List V} {ws : List (List Hm)} (a : EndsAt H vs ws) : vs.length = ws.length := by
  induction a with
  | nil => rfl
  | cons _ _ ih => rw [List.length_cons, List.length_cons, ih]
theorem EndsAt.snoc {H : Hp} {vs : List V} {v : V} {ws : List (List Hm)} {w : List Hm} (a : EndsAt H vs ws) (b : EndAt H v w) : EndsAt H (vs ++ [v]) (ws ++ [w]) := by
  induction a with
  | nil => exact .cons b .nil
  | cons h _ ih => exact .cons h ih
theorem same_drop {H : Hp} {e it : Addr} {o1 o2 : HO} (h1 : H e = none) (h2 : H it = none) : Same H (ItX.dropH (ItX.dropH (upd (upd H e o1) it o2) e) it) := fun b o q => by
  have n1 : b ≠ e := ne_of_none q h1
  have n2 : b ≠ it := ne_of_none q h2
  rw [ItX.dropH_ne n2, ItX.dropH_ne n1, upd_ne n2, upd_ne n1]
  exact q
def spEnded (K : Fg) (Cl : Addr) : Sp := fun vs H Q _ => ∃ (me dx : Addr) (vl : V) (ar ah : Addr) (ld : Ld) (C : List Hm) (v : V) (h : Hm), vs = [.ref me, v] ∧ LotAt K Cl me dx vl ar ah ld C H ∧ HmAt H v h ∧ h ∈ homesL ld ∧
  ∀ H' a xs, H a = none → Same H H' → H' a = some (.lst xs) → EndsAt H' xs ((waysL ld h).filter (goodW C)) → Q (.ref a) H'
theorem ok_ended (T : Tp K mg) (F : Std K "ended" "Lot.ended" s_Lot_ended (He.ma K (He.ga K "Lot") "ended")) (D_Lot_ways : Dn P w K mg base 1 (He.ma K (He.ga K "Lot") "ways") ["self", "procedure", "place"] (spWays K (He.ga K "Lot"))) :
    Dn P w K mg base 2 (He.ma K (He.ga K "Lot") "ended") ["self", "home"] (spEnded K (He.ga K "Lot")) := by
  refine dn_mk F sc_Lot_ended
    (fun _ _ _ _ _ _ us hl => match us, hl with | [_, _], _ => rfl)
    (fun vs H Q E h => ?_) fun cdv A outer s H vs Q E hr h => ?_
  · obtain ⟨me, dx, vl, ar, ah, ld, C, v, h, rfl, _⟩ := h; rfl
  obtain ⟨me, dx, vl, ar, ah, ld, C, v, h, rfl, lt, ⟨b, rfl, hb⟩, hm, q⟩ := h
  have hu := hu_of hr
  obtain ⟨kvs, hk1, hk2, hk3⟩ := lt.hm
  refine ⟨_, (pss_cons (ps_set (i := 2) sc_Lot_ended.nd rfl (Or.inl rfl) (pe_callTy call_enumN (by rfl) T.b_enumerate (by decide +kernel) (pa_cons (pe_m D_Lot_ways (hr.mono (by omega)) (pv 0) T.cl_Lot T.m_Lot_ways (pa_cons (pe_ix (ixK (K := K) rfl) (pv 1) pe_int (fun _ _ => rfl)) (pa_cons (pe_ix (ixK (K := K) rfl) (pv 1) pe_int (fun _ _ => rfl)) pa_nil))) pa_nil)))
    (pss_one (ps_ret (pe_lc (own := [("which", 3), ("parts", 4)]) (g := (gTup K 2 (gCons (gName 3) (gCons (gName 4) gNil)))) rfl sc_Lot_ended.nd (pi_enumV (k := 2) rfl (Or.inl rfl)) (blkOk_by (N := N_Lot_ended) (sc := defScope s_Lot_ended) (own := [("which", 3), ("parts", 4)]) (by decide +kernel)) (fun _ _ _ _ _ => (pg_tup (by rfl) (pgs_cons (pg_name (i := 3) sc_Lot_ended.nd rfl (Or.inl rfl)) (pgs_cons (pg_name (i := 4) sc_Lot_ended.nd rfl (Or.inl rfl)) pgs_nil)))) (fun _ _ _ _ _ => (pts_one (pt_val (pe_callB (allK (K := K) rfl rfl) (by rfl) T.b_all (by decide +kernel) (pa_cons (pe_lc (own := [("part", 5)]) (tt := tYes) rfl sc_Lot_ended.nd (iTupK (K := K) rfl (pv 4)) (blkOk_by (N := N_Lot_ended) (sc := _) (own := [("part", 5)]) rfl) (fun _ _ _ _ _ => (pg_name (i := 5) sc_Lot_ended.nd rfl (Or.inl rfl))) (fun _ _ _ _ _ => pts_nil) (fun _ _ _ _ _ => (pe_cmp (pc_din hu (pv 5) (fldK (K := K) rfl (pv 0) rfl))))) pa_nil))))) (fun _ _ _ _ _ => (pe_tup (pa_cons (pv 3) (pa_cons (pv 4) pa_nil)))))))), ?_⟩
  refine ⟨_, rfl, me, dx, _, rfl, lt.ob, lot_no _ _ _ (by decide +kernel) (by decide +kernel) (by decide +kernel), _, rfl, .inr (.inl ⟨b, _, 0, _, rfl, rfl, SqT.of hb, atI_nat (j := 0) rfl, _, rfl, .inr (.inl ⟨b, _, 1, _, rfl, rfl, SqT.of hb, atI_nat (j := 1) rfl, ?_⟩)⟩)⟩
  refine ⟨me, dx, vl, ar, ah, ld, h.1, h.2, rfl, lt.ob, lt.lv, lt.ok, hm, fun H2 a xs hna s2 ha hW => ?_⟩
  refine ⟨a, xs, rfl, SqL.of ha, fun e it he hit hne n1 n2 => ?_⟩
  refine ⟨e, it, a, rfl, (by rw [upd_ne hne]; exact upd_same), upd_same, hne, n1, n2, ?_⟩
  have sd := same_drop (o1 := EnO it e) (o2 := IlO a it) he hit
  generalize hH3 : ItX.dropH (ItX.dropH (upd (upd H2 e (EnO it e)) it (IlO a it)) e) it = H3 at sd
  have s3 := s2.trans sd
  have lw := hW.len
  have few := ways_few lt.ok h
  have hW3 := hW.tk (tk_same sd)
  refine fun D nD => lc_acc walk_enum [] (fun j acc H' => EndsAt H' acc (((waysL ld h).take j).filter (goodW C))) nD (fun _ _ H4 k _ _ => SqL.of ((Kp.nil k) _ _ (sd _ _ ha))) (fun _ _ _ _ _ _ hD p => p.tk (tk_lst hD)) .nil ?_ (by simp) ?_ ?_
  · rw [lw]; exact Nat.lt_of_le_of_lt few (by decide)
  · rintro j z acc H4 H5 hj kp tk hD hl pw ⟨tp, y1, y, rfl, hT, rfl, e1, e2⟩ N E1 hN hE
    cases e1
    have e2 : xs[j]? = some y := e2
    obtain ⟨w, hw, b2, ps, rfl, hb2, hps⟩ := (hW3.tk tk).get e2
    have s5 := same_new hT (.tup [.int (j : Nat), .ref b2])
    generalize hH5 : upd H4 tp (.tup [.int (j : Nat), .ref b2]) = H5 at s5
    have et5 : H5 tp = some (.tup [.int (j : Nat), .ref b2]) := by rw [← hH5]; exact upd_same
    have s35 := s3.trans ((Kp.nil kp).trans s5)
    have lt5 := lt.same s35
    have hb5 := s5 _ _ hb2
    have hps5 := hps.tk (tk_same s5)
    have wl := way_len (List.mem_of_getElem? hw)
    have pl := hps.len
    have ef : ((waysL ld h).take (j + 1)).filter (goodW C) = ((waysL ld h).take j).filter (goodW C) ++ (if goodW C w = true then [w] else []) := by
      rw [take_snoc hw, List.filter_append]; simp [List.filter_cons]
    refine ⟨tp, _, rfl, SqT.of et5, rfl, _, _, rfl, _, _, rfl, rfl, rfl, ?_⟩
    refine ⟨_, rfl, b2, rfl, ⟨_, SqT.of hb5⟩, fun D2 nD2 => lc_acc walk_tup [] (fun k acc _ => acc = ((w.take k).map fun p => V.bl (decide (p ∈ C)))) nD2 (fun _ _ H1 _ t _ => SqT.of (t.t _ _ hb5)) (fun _ _ _ _ _ _ _ p => p) rfl ?_ (by simp) ?_ ?_⟩
    · rw [pl]; exact Nat.lt_of_le_of_lt wl (by decide)
    · rintro k y2 acc2 H6 H6' hk2 kp2 tk2 hD2 hl2 rfl ⟨rfl, hy⟩ N2 E2 hN2 _
      obtain ⟨h2, hh, b3, rfl, hb3⟩ := (hps5.tk tk2).get hy
      have lt6 := lt5.same (Kp.nil kp2)
      refine ⟨rfl, tyes ⟨_, rfl, _, rfl, me, _, dx, _, _, rfl, lt6.ob, T.cl_Lot, T.n_Lot_homes, lot_homes _ _ _, ah, _, rfl, DGet.t (k := hmK h2) ((Kp.nil kp2) _ _ (s35 _ _ hk1)) hb3, ?_⟩⟩
      rw [keyed_some ‹keyed kvs C›]
      exact hN2 _ _ (.refl _ _) (.refl _) (by rw [take_snoc hh]; simp)
    · rintro H6 acc2 kp2 tk2 hD2 _ rfl
      have s56 := Kp.nil kp2
      have et2 : w.take ps.length = w := by rw [pl, List.take_length]
      rw [et2] at hD2
      refine ⟨D2, w.map fun p => decide (p ∈ C), rfl, SqL.of (by rw [hD2]; simp), _, rfl, ?_⟩
      rw [← goodW_take]
      have s46 := s5.trans s56
      by_cases hg : goodW C w = true
      · refine ift hg ⟨_, rfl, _, rfl, (by show 2 ≤ sizeLine; decide), fun t7 ht7 => ?_⟩
        have s7 := same_new ht7 (.tup [.int (j : Nat), .ref b2])
        have s47 := s46.trans s7
        refine hN _ _ (.of s47) (tk_same s47) ?_
        rw [ef, if_pos hg]
        exact (pw.tk (tk_same s47)).snoc ⟨t7, _, _, rfl, upd_same, b2, ps, rfl, s47 _ _ hb2, hps.tk (tk_same s47)⟩
      · have hg : goodW C w = false := by simpa using hg
        refine iff' hg (hE _ (.of s46) (tk_same s46) ?_)
        rw [ef, hg]
        simpa using pw.tk (tk_same s46)
  · rintro H4 acc kp tk hD _ pw
    have e : (waysL ld h).take xs.length = waysL ld h := by rw [lw, List.take_length]
    rw [e] at pw
    have nDH : H D = none := by
      rcases q0 : H D with _ | o
      · rfl
      · rw [s3 _ _ q0] at nD; cases nD
    exact q H4 D acc nDH (s3.trans (Kp.nil kp)) hD pw
end
end PK

set_option linter.all false
set_option Elab.async false
set_option maxRecDepth 100000
set_option maxHeartbeats 4000000
/-! KV: the lot, made. -/
namespace PK
open PySem PySem.Spec PyProof.Rows L2
/-- the users of each part in lists of their own; none of the lists is among S -/
def UsersAt (S : Addr → Prop) (H : Hp) (du : Addr) (o : List (Hm × Hm)) : Prop := ∃ kvs : List (List L2.Key × V), H du = some (.dT kvs) ∧ kvs.length ≤ o.length ∧ (∀ k : Hm, valV kvs (hmK k) = none → usersO o k = []) ∧
  (∀ (k : Hm) v, valV kvs (hmK k) = some v → ∃ l xs, v = .ref l ∧ ¬ S l ∧ H l = some (.lst xs) ∧ HmsAt H xs (usersO o k)) ∧ (∀ (k1 k2 : Hm) v, valV kvs (hmK k1) = some v → valV kvs (hmK k2) = some v → k1 = k2)
theorem usersO_one (p h k : Hm) : usersO [(p, h)] k = if p = k then [h] else [] := by
  unfold usersO
  by_cases e : p = k <;> simp [e]
theorem HmsAt.snoc {H : Hp} {vs : List V} {v : V} {ws : List Hm} {w : Hm} (a : HmsAt H vs ws) (b : HmAt H v w) : HmsAt H (vs ++ [v]) (ws ++ [w]) := a.append (.cons b .nil)
/-- one more use, the list stands there -/
theorem users_old {S : Addr → Prop} {H : Hp} {du l0 tt l : Addr} {o : List (Hm × Hm)} {kvs : List (List L2.Key × V)} {xs : List V} {part home : Hm} (hu : UsersAt S H du o) (hS : ∀ b, S b → H b ≠ none) (hk : H du = some (.dT kvs)) (hv : valV kvs (hmK part) = some (.ref l)) (hl : H l = some (.lst xs))
    (h0 : H l0 = none) (h1 : (upd H l0 (.lst [])) tt = none) (H3 : Hp) (e3 : H3 = upd (upd (upd H l0 (.lst [])) tt (.tup (hmV home))) l (.lst (xs ++ [.ref tt]))) :
    (∀ b ob, S b → b ≠ du → H b = some ob → H3 b = some ob) ∧ Tk H H3 ∧ UsersAt S H3 du (o ++ [(part, home)]) ∧ ∀ b, S b → H3 b ≠ none := by
  obtain ⟨kvs', k1, k2, k3, k4, k5⟩ := hu
  rw [hk] at k1
  cases k1
  obtain ⟨l', xs', el, hSl, hl', hh⟩ := k4 part _ hv
  cases el
  rw [hl] at hl'
  cases hl'
  have s0 := same_new h0 (.lst [])
  have s1 := same_new h1 (.tup (hmV home))
  have s01 := s0.trans s1
  have nSb : ∀ b, S b → b ≠ l := fun b hb e => hSl (by rw [← e]; exact hb)
  have t3 : Tk (upd (upd H l0 (.lst [])) tt (.tup (hmV home))) H3 := by rw [e3]; exact tk_lst (s01 _ _ hl)
  have t03 : Tk H H3 := (tk_same s01).trans t3
  have ndl : du ≠ l := ne_of hk hl nofun
  have htt : H3 tt = some (.tup (hmV home)) := t3.t _ _ upd_same
  refine ⟨fun b ob hb _ e => by rw [e3, upd_ne (nSb b hb)]; exact s01 _ _ e, t03, ⟨kvs, by rw [e3, upd_ne ndl]; exact s01 _ _ hk, by rw [List.length_append]; omega, fun k e => ?_, fun k v e => ?_, k5⟩, fun b hb => ?_⟩
  · rw [usersO_append, k3 k e, usersO_one]
    have : part ≠ k := fun z => by rw [z, e] at hv; cases hv
    simp [this]
  · obtain ⟨m, ys, rfl, q1, q2, q3⟩ := k4 k v e
    by_cases em : m = l
    · subst em
      have : k = part := k5 k part _ e hv
      subst this
      rw [hl] at q2
      cases q2
      refine ⟨m, _, rfl, q1, by rw [e3]; exact upd_same, ?_⟩
      rw [usersO_append, usersO_one, if_pos rfl]
      exact (q3.tk t03).snoc ⟨tt, rfl, htt⟩
    · refine ⟨m, ys, rfl, q1, by rw [e3, upd_ne em]; exact s01 _ _ q2, ?_⟩
      have : part ≠ k := fun z => by
        subst z
        rw [hv] at e
        cases e
        exact em rfl
      rw [usersO_append, usersO_one, if_neg this, List.append_nil]
      exact q3.tk t03
  · rw [e3, upd_ne (nSb b hb)]
    have := hS b hb
    intro z
    rcases q : H b with _ | ob
    · exact this q
    · rw [s01 _ _ q] at z; cases z
/-- one more use, the first of its part -/
theorem users_new {S : Addr → Prop} {H : Hp} {du l0 tt : Addr} {o : List (Hm × Hm)} {kvs : List (List L2.Key × V)} {part home : Hm} (hu : UsersAt S H du o) (hS : ∀ b, S b → H b ≠ none) (hk : H du = some (.dT kvs)) (hv : valV kvs (hmK part) = none)
    (h0 : H l0 = none) (h1 : (upd (upd H l0 (.lst [])) du (.dT (putK kvs (hmK part) (.ref l0)))) tt = none) (H3 : Hp) (e3 : H3 = upd (upd (upd (upd H l0 (.lst [])) du (.dT (putK kvs (hmK part) (.ref l0)))) tt (.tup (hmV home))) l0 (.lst [.ref tt])) :
    (∀ b ob, S b → b ≠ du → H b = some ob → H3 b = some ob) ∧ Tk H H3 ∧ UsersAt S H3 du (o ++ [(part, home)]) ∧ ∀ b, S b → H3 b ≠ none := by
  obtain ⟨kvs', k1, k2, k3, k4, k5⟩ := hu
  rw [hk] at k1
  cases k1
  have ndl : du ≠ l0 := ne_of_none hk h0
  have nt0 : tt ≠ l0 := fun e => by rw [e, upd_ne ndl.symm, upd_same] at h1; cases h1
  have ntd : tt ≠ du := fun e => by rw [e, upd_same] at h1; cases h1
  have htH : H tt = none := by rw [upd_ne ntd, upd_ne nt0] at h1; exact h1
  have at3 : ∀ b, b ≠ du → b ≠ l0 → b ≠ tt → H3 b = H b := fun b a1 a2 a3 => by rw [e3, upd_ne a2, upd_ne a3, upd_ne a1, upd_ne a2]
  have keep : ∀ b ob, b ≠ du → H b = some ob → H3 b = some ob := fun b ob hb e => by rw [at3 b hb (ne_of_none e h0) (ne_of_none e htH)]; exact e
  have hdu : H3 du = some (.dT (putK kvs (hmK part) (.ref l0))) := by rw [e3, upd_ne ndl, upd_ne ntd.symm, upd_same]
  have htt : H3 tt = some (.tup (hmV home)) := by rw [e3, upd_ne nt0, upd_same]
  have hl0 : H3 l0 = some (.lst [.ref tt]) := by rw [e3, upd_same]
  have t03 : Tk H H3 := ⟨fun a ys e => keep a _ (ne_of e hk nofun) e, fun a ob u e => keep a _ (ne_of e hk nofun) e⟩
  have hS0 : ¬ S l0 := fun z => hS l0 z h0
  refine ⟨fun b ob _ hb e => keep b ob hb e, t03, ⟨_, hdu, ?_, fun k e => ?_, fun k v e => ?_, fun a b v ea eb => ?_⟩, fun b hb => ?_⟩
  · rw [List.length_append]
    have := length_putK kvs (hmK part) (V.ref l0)
    simp only [List.length_singleton]
    omega
  · rw [valV_put] at e
    by_cases ek : k = part
    · rw [if_pos (by rw [ek])] at e; cases e
    · rw [if_neg (fun z => ek (hmK_inj z))] at e
      rw [usersO_append, k3 k e, usersO_one, if_neg (fun z => ek z.symm)]; rfl
  · rw [valV_put] at e
    by_cases ek : k = part
    · rw [if_pos (by rw [ek])] at e
      cases e
      subst ek
      refine ⟨l0, _, rfl, hS0, hl0, ?_⟩
      rw [usersO_append, k3 k hv, usersO_one, if_pos rfl]
      exact .cons ⟨tt, rfl, htt⟩ .nil
    · rw [if_neg (fun z => ek (hmK_inj z))] at e
      obtain ⟨m, ys, rfl, q1, q2, q3⟩ := k4 k v e
      refine ⟨m, ys, rfl, q1, keep m _ (ne_of q2 hk nofun) q2, ?_⟩
      rw [usersO_append, usersO_one, if_neg (fun z => ek z.symm), List.append_nil]
      exact q3.tk t03
  · rw [valV_put] at ea eb
    by_cases e1 : a = part <;> by_cases e2 : b = part
    · rw [e1, e2]
    · rw [if_pos (by rw [e1])] at ea
      rw [if_neg (fun z => e2 (hmK_inj z))] at eb
      cases ea
      obtain ⟨m, ys, e, q1, q2, _⟩ := k4 b _ eb
      cases e
      rw [h0] at q2; cases q2
    · rw [if_neg (fun z => e1 (hmK_inj z))] at ea
      rw [if_pos (by rw [e2])] at eb
      cases eb
      obtain ⟨m, ys, e, q1, q2, _⟩ := k4 a _ ea
      cases e
      rw [h0] at q2; cases q2
    · rw [if_neg (fun z => e1 (hmK_inj z))] at ea
      rw [if_neg (fun z => e2 (hmK_inj z))] at eb
      exact k5 a b v ea eb
  · intro z
    by_cases hb2 : b = du
    · rw [hb2, hdu] at z; cases z
    · have := hS b hb
      rcases q : H b with _ | ob
      · exact this q
      · rw [keep b ob hb2 q] at z; cases z
theorem UsersAt.same {S : Addr → Prop} {H H' : Hp} {du : Addr} {o : List (Hm × Hm)} (h : UsersAt S H du o) (s : Same H H') : UsersAt S H' du o := by
  obtain ⟨kvs, k1, k2, k3, k4, k5⟩ := h
  exact ⟨kvs, s _ _ k1, k2, k3, fun k v e => let ⟨l, xs, a, b, c, d⟩ := k4 k v e; ⟨l, xs, a, b, s _ _ c, d.tk (tk_same s)⟩, k5⟩
theorem UsersAt.weak {S S' : Addr → Prop} {H : Hp} {du : Addr} {o : List (Hm × Hm)} (h : UsersAt S H du o) (w : ∀ b, S' b → S b) : UsersAt S' H du o := by
  obtain ⟨kvs, k1, k2, k3, k4, k5⟩ := h
  exact ⟨kvs, k1, k2, k3, fun k v e => let ⟨l, xs, a, b, c, d⟩ := k4 k v e; ⟨l, xs, a, fun z => b (w _ z), c, d⟩, k5⟩
/-- a thing made later is none of the lists -/
theorem UsersAt.more {S : Addr → Prop} {H H' : Hp} {du a : Addr} {o : List (Hm × Hm)} (h : UsersAt S H du o) (s : Same H H') (ha : H a = none) : UsersAt (fun b => S b ∨ b = a) H' du o := by
  obtain ⟨kvs, k1, k2, k3, k4, k5⟩ := h
  refine ⟨kvs, s _ _ k1, k2, k3, fun k v e => ?_, k5⟩
  obtain ⟨l, xs, rfl, b, c, d⟩ := k4 k v e
  exact ⟨l, xs, rfl, fun z => z.elim b (ne_of_none c ha), s _ _ c, d.tk (tk_same s)⟩
def occH (ld : Ld) (h : Hm) : List (Hm × Hm) := (waysL ld h).flatMap fun w => w.map fun part => (part, h)
def occK (ld : Ld) (k : Nat) : List (Hm × Hm) := (List.range k).flatMap fun k => (List.range (plsL ld k).length).flatMap fun i => occH ld (k, i)
theorem occ_all (ld : Ld) : occK ld ld.length = occL ld := by
  unfold occK occL homesL occH
  rw [List.flatMap_assoc]
  congr 1
  funext k
  rw [List.flatMap_map]
theorem occK_succ (ld : Ld) (k : Nat) : occK ld (k + 1) = occK ld k ++ (List.range (plsL ld k).length).flatMap fun i => occH ld (k, i) := by
  unfold occK; rw [List.range_succ, List.flatMap_append]; simp
theorem range_flat {α : Type} (f : Nat → List α) (n : Nat) : (List.range (n + 1)).flatMap f = (List.range n).flatMap f ++ f n := by rw [List.range_succ, List.flatMap_append]; simp
/-! ### the program, laid: no holes -/
def ldOf (p : Prog) : Ld := (laidOf p).map fun r => (r.1, r.2.filterMap id)
theorem full_map {m : Nat} {ps : Pls} (h : ∀ o ∈ ps, ∃ x, o = some x) : ps = (ps.filterMap id).map some := by
  induction ps with
  | nil => rfl
  | cons o r ih =>
    obtain ⟨x, rfl⟩ := h o List.mem_cons_self
    have := ih fun q hq => h q (List.mem_cons_of_mem _ hq)
    rw [List.filterMap_cons]
    simp only [id, List.map_cons]
    rw [← this]
theorem okO_some {m : Nat} {o : Option Pl} (h : okO m o) : ∃ x, o = some x := by
  cases o with
  | none => exact h.elim
  | some x => exact ⟨x, rfl⟩
theorem ix_lt {P : List Str} {L : List Str} : ∀ x ∈ P, (ixOf L P).h x < P.length := fun x hx => List.idxOf_lt_length_iff.mpr hx
theorem ld_len (p : Prog) : (ldOf p).length = p.ps.length := by unfold ldOf laidOf; rw [List.length_map, List.length_map]
theorem ld_at {p : Prog} {k : Nat} {q : Str × Bod} (h : p.ps[k]? = some q) : begL (ldOf p) k = (layP (ixOf p.ls p.heads) q.2).1 ∧ plsL (ldOf p) k = (layP (ixOf p.ls p.heads) q.2).2.filterMap id := by
  have e : (ldOf p)[k]? = some ((layP (ixOf p.ls p.heads) q.2).1, (layP (ixOf p.ls p.heads) q.2).2.filterMap id) := by
    unfold ldOf laidOf
    rw [List.getElem?_map, List.getElem?_map, h]; rfl
  unfold begL plsL
  rw [List.getD_eq_getElem?_getD, e]
  exact ⟨rfl, rfl⟩
theorem ld_shape {p : Prog} (v : Valid p) {k : Nat} {q : Str × Bod} (h : p.ps[k]? = some q) : ∃ r : Pls, (layP (ixOf p.ls p.heads) q.2).2 = some .fin :: r ∧ (∀ o ∈ r, okO p.ps.length o) ∧ plsL (ldOf p) k = .fin :: r.filterMap id ∧ r = (r.filterMap id).map some := by
  have hm := List.mem_of_getElem? h
  obtain ⟨r, e, hr⟩ := layP_ok (I := ixOf p.ls p.heads) (m := p.ps.length) (P := p.heads) (L := p.ls) (fun x hx => by have := ix_lt (L := p.ls) x hx; rwa [List.length_map] at this) (v.wf q hm)
  refine ⟨r, e, hr, ?_, full_map (m := 0) fun o ho => okO_some (hr o ho)⟩
  rw [(ld_at h).2, e]
  rw [List.filterMap_cons]; rfl
theorem ld_ok {p : Prog} (v : Valid p) : LdOk (ldOf p) := by
  have at_ : ∀ k, k < (ldOf p).length → ∃ q, p.ps[k]? = some q := fun k hk => by rw [ld_len] at hk; exact ⟨_, List.getElem?_eq_getElem hk⟩
  have none_ : ∀ (k i : Nat), ¬ k < (ldOf p).length → (plsL (ldOf p) k)[i]? = none := fun k i hk => by
    unfold plsL
    have e0 : (ldOf p)[k]? = none := List.getElem?_eq_none (by omega)
    rw [List.getD_eq_getElem?_getD, e0]; rfl
  have ok_ : ∀ (k i : Nat) (x : Pl), (plsL (ldOf p) k)[i]? = some x → k < (ldOf p).length ∧ ((i = 0 ∧ x = .fin) ∨ (i ≠ 0 ∧ okO p.ps.length (some x))) := fun k i x e => by
    by_cases hk : k < (ldOf p).length
    · refine ⟨hk, ?_⟩
      obtain ⟨q, hq⟩ := at_ k hk
      obtain ⟨r, _, hr, e2, e3⟩ := ld_shape v hq
      rw [e2] at e
      cases i with
      | zero => simp at e; exact .inl ⟨rfl, e.symm⟩
      | succ i =>
        refine .inr ⟨by simp, hr _ ?_⟩
        rw [e3]
        have e : (r.filterMap id)[i]? = some x := by simpa using e
        exact List.mem_map.mpr ⟨x, List.mem_of_getElem? e, rfl⟩
    · rw [none_ k i hk] at e; cases e
  refine ⟨by rw [ld_len]; exact v.p2, fun k hk => ?_, fun k i => ⟨fun e => ?_, fun ⟨hk, hi⟩ => ?_⟩, fun k i q n e => ?_, fun k i ns e => ?_⟩
  · obtain ⟨q, hq⟩ := at_ k hk
    obtain ⟨r, e1, hr, e2, e3⟩ := ld_shape v hq
    have hl := layP_len (ixOf p.ls p.heads) q.2
    have pl := v.pl q (List.mem_of_getElem? hq)
    rw [e1] at hl
    rw [e2]
    have e4 := congrArg List.length e3
    rw [List.length_map] at e4
    rw [List.length_cons] at hl ⊢
    omega
  · obtain ⟨hk, h⟩ := ok_ k i _ e
    rcases h with ⟨hi, _⟩ | ⟨_, h⟩
    · exact ⟨hk, hi⟩
    · exact h.elim
  · subst hi
    obtain ⟨q, hq⟩ := at_ k hk
    obtain ⟨r, e1, hr, e2, e3⟩ := ld_shape v hq
    rw [e2]; rfl
  · obtain ⟨hk, h⟩ := ok_ k i _ e
    rcases h with ⟨_, h⟩ | ⟨_, h⟩
    · cases h
    · rw [ld_len]; exact h
  · obtain ⟨hk, h⟩ := ok_ k i _ e
    rcases h with ⟨_, h⟩ | ⟨_, h⟩
    · cases h
    · exact h
theorem laid_ld {p : Prog} (v : Valid p) : laidD (laidOf p) = ldD (ldOf p) := by
  unfold laidD ldD ldOf
  rw [List.map_map]
  congr 1
  refine List.map_congr_left fun r hr => ?_
  obtain ⟨q, hq, rfl⟩ := List.mem_map.mp hr
  obtain ⟨k, hk⟩ := List.getElem?_of_mem hq
  obtain ⟨r, e1, hr2, e2, e3⟩ := ld_shape v hk
  show PyData.tuple [natD _, .tuple (_)] = PyData.tuple [natD _, .tuple _]
  have : (layP (ixOf p.ls p.heads) q.2).2.map oplD = ((layP (ixOf p.ls p.heads) q.2).2.filterMap id).map plD := by
    have e4 : (layP (ixOf p.ls p.heads) q.2).2 = ((layP (ixOf p.ls p.heads) q.2).2.filterMap id).map some := full_map (m := 0) fun o ho => by
      rw [e1] at ho
      rcases List.mem_cons.mp ho with rfl | ho
      · exact ⟨_, rfl⟩
      · exact okO_some (hr2 o ho)
    conv => lhs; rw [e4]
    rw [List.map_map]; rfl
  rw [this]
theorem lot_l1 {vl : V} : (putF ("laid" : Str) vl []).length < 1000 := by
  have : (putF ("laid" : Str) vl []).length ≤ 1 := by simp only [putF]; simp
  omega
theorem lot_l2 {vl x : V} : (putF ("rows" : Str) x (putF "laid" vl [])).length < 1000 := by
  have : (putF ("rows" : Str) x (putF "laid" vl [])).length ≤ 2 := by simp only [putF]; split <;> simp
  omega
theorem lot_put (vl : V) (ar ah : Addr) : putF "homes" (.ref ah) (putF "rows" (.ref ar) (putF "laid" vl [])) = lotF vl ar ah := by
  have e1 : ¬ (("laid" : Str) = "rows") := by decide +kernel
  have e2 : ¬ (("laid" : Str) = "homes") := by decide +kernel
  have e3 : ¬ (("rows" : Str) = "homes") := by decide +kernel
  simp only [putF, if_neg e1, if_neg e2, if_neg e3, lotF]
theorem occ_pre {ld : Ld} (ok : LdOk ld) {k i j m : Nat} (hk : k < ld.length) (hi : i ≤ 300) {w : List Hm} (wl : w.length ≤ 2) : (((occK ld k ++ (List.range i).flatMap fun i => occH ld (k, i)) ++ ((waysL ld (k, i)).take j).flatMap fun w => w.map fun part => (part, ((k, i) : Hm))) ++ (w.take m).map fun part => (part, ((k, i) : Hm))).length ≤ 100000 := by
  have h1 := sum_flat (fun i => occH ld (k, i)) 8 (List.range i) fun i _ => way_parts ok (k, i)
  have h2 : (occK ld k).length ≤ 2400 * (List.range k).length := sum_flat _ 2400 _ fun k' hk' => by
    have a := sum_flat (fun i => occH ld (k', i)) 8 (List.range (plsL ld k').length) fun i _ => way_parts ok (k', i)
    have b := (ok.len k' (Nat.lt_trans (List.mem_range.mp hk') hk)).2
    rw [List.length_range] at a
    omega
  have h3 := sum_flat (fun w : List Hm => w.map fun part => (part, ((k, i) : Hm))) 2 ((waysL ld (k, i)).take j) fun w hw => by
    rw [List.length_map]; exact way_len (List.mem_of_mem_take hw)
  have h4 := ways_few ok (k, i)
  have h5 := ok.n
  rw [List.length_range] at h1 h2
  rw [List.length_take] at h3
  rw [List.length_append, List.length_append, List.length_append, List.length_map, List.length_take]
  omega
theorem run_next {ld : Ld} {n : Nat} {h : Hm} (e : (runL ld n).2[n]? = some h) : runL ld (n + 1) = if h ∉ (runL ld n).1 ∧ (waysL ld h).any (goodW (runL ld n).1) = true then ((runL ld n).1 ++ [h], (runL ld n).2 ++ usersL ld h) else runL ld n := by
  show stp ld n (runL ld n) = _
  unfold stp
  rw [e]
def spLotInit (K : Fg) (Cl : Addr) : Sp := fun vs H Q _ => ∃ (me dx : Addr) (v : V) (p : Prog), vs = [.ref me, v] ∧ H me = some (.ins Cl dx []) ∧ Dat K H v (progD p) ∧ Valid p ∧
  ∀ H' vl ar ah, Kp [me] H H' → Tk H H' → LotAt K Cl me dx vl ar ah (ldOf p) (chosenL (ldOf p)) H' → Q .non H'
section
variable {P : Program} {w : World} {K : Fg} {mg : Str → Option Value} {base : Heap}
theorem ok_lotInit (T : Tp K mg) (F : Std K "__init__" "Lot.__init__" s_Lot_init (He.ma K (He.ga K "Lot") "__init__")) (D_laid : Dn P w K mg base 60 (He.ga K "laid") ["program"] (spLaid K))
    (D_Lot_ways : Dn P w K mg base 1 (He.ma K (He.ga K "Lot") "ways") ["self", "procedure", "place"] (spWays K (He.ga K "Lot"))) (D_Lot_choose : Dn P w K mg base 2 (He.ma K (He.ga K "Lot") "choose") ["self", "procedure", "place"] (spChoose K (He.ga K "Lot"))) :
    Dn P w K mg base 61 (He.ma K (He.ga K "Lot") "__init__") ["self", "program"] (spLotInit K (He.ga K "Lot")) := by
  refine dn_mk F sc_Lot_init
    (fun _ _ _ _ _ _ us hl => match us, hl with | [_, _], _ => rfl)
    (fun vs H Q E h => ?_) fun cdv A outer s H vs Q E hr h => ?_
  · obtain ⟨me, dx, v, p, rfl, _⟩ := h; rfl
  obtain ⟨me, dx, v, p, rfl, ho, hd, vp, q⟩ := h
  have hu := hu_of hr
  have lok := ld_ok vp
  generalize hld : ldOf p = ld at q lok
  refine ⟨_, (pss_cons (ps_fld (pv 0) (pe_f D_laid (hr.mono (by omega)) T.g_laid (pa_cons (pv 1) pa_nil)) rfl)
    (pss_cons (ps_asg (pe_tup (pa_cons (pe_lst pa_nil) (pa_cons pe_dnewT pa_nil))) (pg_tup (by rfl) (pgs_cons (pg_fld (pv 0)) (pgs_cons (pg_fld (pv 0)) pgs_nil))))
    (pss_cons (ps_par (i := 3) (j := 4) (by rfl) sc_Lot_init.nd rfl rfl (by decide) rfl rfl (pa_cons pe_dnewT (pa_cons (pe_lc (own := [("procedure", 2)]) (tt := tYes) rfl sc_Lot_init.nd (pi_range1 rfl T.b_range (pa_cons (pe_callB (cLenK (K := K) rfl) (by rfl) T.b_len PySem.boot_len (pa_cons (fldK (K := K) rfl (pv 0) rfl) pa_nil)) pa_nil)) (blkOk_by (N := N_Lot_init) (sc := defScope s_Lot_init) (own := [("procedure", 2)]) (by decide +kernel)) (fun _ _ _ _ _ => (pg_name (i := 2) sc_Lot_init.nd rfl (Or.inl rfl))) (fun _ _ _ _ _ => pts_nil) (fun _ _ _ _ _ => (pe_tup (pa_cons (pv 2) (pa_cons pe_int pa_nil))))) pa_nil)) (by rfl))
    (pss_cons (ps_for PassesOwn.never rfl (pi_enumA rfl T.b_enumerate (pa_cons (fldK (K := K) rfl (pv 0) rfl) pa_nil)) (pg_tup (by rfl) (pgs_cons (pg_name (i := 2) sc_Lot_init.nd rfl (Or.inl rfl)) (pgs_cons (pg_tup (by rfl) (pgs_cons (pg_name (i := 5) sc_Lot_init.nd rfl (Or.inl rfl)) (pgs_cons (pg_name (i := 6) sc_Lot_init.nd rfl (Or.inl rfl)) pgs_nil))) pgs_nil))) (pss_one (ps_for PassesOwn.never rfl (pi_range1 rfl T.b_range (pa_cons (pe_callB (cLenK (K := K) rfl) (by rfl) T.b_len PySem.boot_len (pa_cons (pv 6) pa_nil)) pa_nil)) (pg_name (i := 7) sc_Lot_init.nd rfl (Or.inl rfl)) (pss_one (ps_for PassesOwn.never rfl (iLstK (K := K) rfl (pe_m D_Lot_ways (hr.mono (by omega)) (pv 0) T.cl_Lot T.m_Lot_ways (pa_cons (pv 2) (pa_cons (pv 7) pa_nil)))) (pg_name (i := 8) sc_Lot_init.nd rfl (Or.inl rfl)) (pss_one (ps_for PassesOwn.never rfl (iTupK (K := K) rfl (pv 8)) (pg_name (i := 9) sc_Lot_init.nd rfl (Or.inl rfl)) (pss_one (ps_expr (pe_bm PySem.F.plainAttrs_list PySem.F.slot_list_append PySem.F.type_list_append mt_append (pe_bm PySem.F.plainAttrs_dict PySem.F.slot_dict_setdefault PySem.F.type_dict_setdefault (mt_setdT hu) (pv 3) (pa_cons (pv 9) (pa_cons (pe_lst pa_nil) pa_nil))) (pa_cons (pe_tup (pa_cons (pv 2) (pa_cons (pv 7) pa_nil))) pa_nil)))))))))))
    (pss_cons (ps_set (i := 10) sc_Lot_init.nd rfl (Or.inl rfl) pe_int)
    (pss_one (ps_while PassesOwn.never (pt_cmpR op_lt (pv 10) (pe_callB (cLenK (K := K) rfl) (by rfl) T.b_len PySem.boot_len (pa_cons (pv 4) pa_nil)) (nomark _)) (pss_cons (ps_if (pt_val (pe_m D_Lot_choose (hr.mono (by omega)) (pv 0) T.cl_Lot T.m_Lot_choose (pa_cons (pe_ix (ixK (K := K) rfl) (pe_ix (ixK (K := K) rfl) (pv 4) (pv 10) (fun _ _ => rfl)) pe_int (fun _ _ => rfl)) (pa_cons (pe_ix (ixK (K := K) rfl) (pe_ix (ixK (K := K) rfl) (pv 4) (pv 10) (fun _ _ => rfl)) pe_int (fun _ _ => rfl)) pa_nil)))) (pss_one (ps_expr (pe_bm PySem.F.plainAttrs_list PySem.F.slot_list_extend PySem.F.type_list_extend mt_extend (pv 4) (pa_cons (pe_dget2 hu (pv 3) (pe_ix (ixK (K := K) rfl) (pv 4) (pv 10) (fun _ _ => rfl)) (pe_lst pa_nil) ⟨rfl, rfl, rfl, rfl⟩) pa_nil)))) pss_nil)
    (pss_one (ps_aug (i := 10) sc_Lot_init.nd rfl (Or.inl rfl) pe_int ip_add)))))))))), ?_⟩
  refine ⟨_, rfl, v, p, rfl, hd, vp, fun vl H1 s1 hl1 => ?_⟩
  rw [laid_ld vp, hld] at hl1
  have ho1 := s1 _ _ ho
  refine ⟨_, rfl, me, _, dx, [], rfl, ho1, T.cl_Lot, T.n_Lot_laid, (by show 0 < 1000; decide), ?_⟩
  have t2 := tk_ins (o' := .ins (He.ga K "Lot") dx (putF "laid" vl [])) ho1
  have k2 : Kp [me] H1 (upd H1 me (.ins (He.ga K "Lot") dx (putF "laid" vl []))) := kp_upd (by simp) _
  generalize hH2 : upd H1 me (.ins (He.ga K "Lot") dx (putF "laid" vl [])) = H2 at t2 k2
  have ho2 : H2 me = some (.ins (He.ga K "Lot") dx (putF "laid" vl [])) := by rw [← hH2]; exact upd_same
  refine ⟨Nat.zero_le _, fun ar har => ?_⟩
  have s3 := same_new har (.lst [])
  generalize hH3 : upd H2 ar (.lst []) = H3 at s3
  have er3 : H3 ar = some (.lst []) := by rw [← hH3]; exact upd_same
  refine fun ah hah => ?_
  have s4 := same_new hah (.dT [])
  generalize hH4 : upd H3 ah (.dT []) = H4 at s4
  have eh4 : H4 ah = some (.dT []) := by rw [← hH4]; exact upd_same
  refine ⟨(by show 2 ≤ sizeLine; decide), fun tt htt => ?_⟩
  have s5 := same_new htt (.tup [.ref ar, .ref ah])
  generalize hH5 : upd H4 tt (.tup [.ref ar, .ref ah]) = H5 at s5
  have et5 : H5 tt = some (.tup [.ref ar, .ref ah]) := by rw [← hH5]; exact upd_same
  have s25 := s3.trans (s4.trans s5)
  have ho5 := s25 _ _ ho2
  refine ⟨tt, _, rfl, SqT.of et5, rfl, _, _, rfl, _, rfl, me, _, dx, _, rfl, ho5, T.cl_Lot, T.n_Lot_rows, lot_l1, ?_⟩
  refine ⟨_, _, rfl, _, rfl, me, _, dx, _, rfl, upd_same, T.cl_Lot, T.n_Lot_homes, lot_l2, rfl, ?_⟩
  rw [upd_upd, lot_put]
  have t6 := tk_ins (o' := .ins (He.ga K "Lot") dx (lotF vl ar ah)) ho5
  have k6 : Kp [me] H5 (upd H5 me (.ins (He.ga K "Lot") dx (lotF vl ar ah))) := kp_upd (by simp) _
  generalize hH6 : upd H5 me (.ins (He.ga K "Lot") dx (lotF vl ar ah)) = H6 at t6 k6
  have ho6 : H6 me = some (.ins (He.ga K "Lot") dx (lotF vl ar ah)) := by rw [← hH6]; exact upd_same
  have nra : ar ≠ me := (ne_of_none ho2 har).symm
  have nha : ah ≠ me := (ne_of_none (s3 _ _ ho2) hah).symm
  have er6 : H6 ar = some (.lst []) := k6 _ _ (s5 _ _ (s4 _ _ er3)) (by simpa using nra)
  have eh6 : H6 ah = some (.dT []) := k6 _ _ (s5 _ _ eh4) (by simpa using nha)
  have t16 : Tk H1 H6 := t2.trans ((tk_same s25).trans t6)
  have hl6 := hl1.tk t16
  -- users, waiting
  refine fun du hdu => ?_
  have s7 := same_new hdu (.dT [])
  generalize hH7 : upd H6 du (.dT []) = H7 at s7
  have eu7 : H7 du = some (.dT []) := by rw [← hH7]; exact upd_same
  have hl7 := hl6.tk (tk_same s7)
  obtain ⟨al, ls, rfl, hL, hLl, hg⟩ := ld_get hl7
  have lsn : ls.length ≤ 40 := by rw [hLl]; exact lok.n
  refine ⟨_, rfl, me, _, dx, _, _, rfl, s7 _ _ ho6, T.cl_Lot, T.n_Lot_laid, lot_laid _ _ _, _, _, rfl, .inr ⟨_, hL, rfl⟩, _, rfl, by omega, by omega, fun aw naw => lc_acc (walk_range (lo := 0)) [] (fun j acc H' => HmsAt H' acc ((List.range j).map fun k => ((k, 0) : Hm))) naw (fun _ _ _ _ _ _ => trivial) (fun _ _ _ _ _ _ hD p => p.tk (tk_lst hD)) .nil ?_ (by simp) ?_ ?_⟩
  · rw [Int.toNat_natCast]; exact Nat.lt_of_le_of_lt lsn (by decide)
  · rintro j y acc H8 H8' hj kp tk hD hl2 pw ⟨rfl, hy⟩ N E1 hN _
    have ez : (0 : Int) + (j : Int) = ((j : Nat) : Int) := by omega
    have hy : y = V.int ((j : Nat) : Int) := by rw [hy]; show V.int (0 + (j : Int)) = _; rw [ez]
    subst hy
    refine ⟨rfl, tyes ⟨_, rfl, (by show 2 ≤ sizeLine; decide), fun t1 ht1 => ?_⟩⟩
    have s1 := same_new ht1 (.tup [.int (j : Nat), .int 0])
    refine hN _ _ (.of s1) (tk_same s1) ?_
    rw [List.range_succ, List.map_append]
    exact (pw.tk (tk_same s1)).snoc ⟨t1, rfl, upd_same⟩
  rintro H8 xs0 kp8 tk8 ew8 _ pw8
  rw [Int.toNat_natCast, hLl] at pw8
  have s8 := Kp.nil kp8
  have pw8 : HmsAt H8 xs0 (startsL ld) := pw8
  refine ⟨_, _, rfl, ?_⟩
  have ho8 := s8 _ _ (s7 _ _ ho6)
  have er8 := s8 _ _ (s7 _ _ er6)
  have eh8 := s8 _ _ (s7 _ _ eh6)
  have eu8 := s8 _ _ eu7
  have hl8 := hl7.tk (tk_same s8)
  have hL8 := (tk_same s8).seq hL
  have nmd : me ≠ du := ne_of ho8 eu8 nofun
  have nwd : aw ≠ du := ne_of ew8 eu8 nofun
  have nrd : ar ≠ du := ne_of er8 eu8 nofun
  have nhd : ah ≠ du := (ne_of_none eh6 hdu)
  -- the users
  refine ⟨_, rfl, me, _, dx, _, _, rfl, ho8, T.cl_Lot, T.n_Lot_laid, lot_laid _ _ _, al, ls, rfl, .inr ⟨hL8, for_it walk_enumT (fun k σ H' => ∃ v2 v5 v6 v7 v8 v9, σ = [some (.ref me), some v, v2, some (.ref du), some (.ref aw), v5, v6, v7, v8, v9, none] ∧ Kp [du] H8 H' ∧ Tk H8 H' ∧ UsersAt (fun b => H8 b ≠ none) H' du (occK ld k))
    ⟨none, none, none, none, none, none, rfl, .refl _ _, .refl _, [], eu8, Nat.le_refl _, fun _ _ => rfl, (fun _ _ e => by cases e), (fun _ _ _ e => by cases e)⟩ (fun k σ H' _ ⟨_, _, _, _, _, _, _, _, t, _⟩ => t.seq hL8) ?_ ?_⟩⟩
  · rintro k z σ H9 H10 hk ⟨v2, v5, v6, v7, v8, v9, rfl, k9, t9, u9⟩ ⟨tp, y1, y, rfl, hT, rfl, e1, e2⟩
    cases e1
    have e2 : ls[k]? = some y := e2
    have hkl : k < ld.length := by omega
    obtain ⟨b, cc, ys, hx, hB, hC, hD⟩ := hg k hkl
    rw [hx] at e2
    cases e2
    have s10 := same_new hT (.tup [.int (k : Nat), .ref b])
    generalize hH10 : upd H9 tp (.tup [.int (k : Nat), .ref b]) = H10 at s10
    have et10 : H10 tp = some (.tup [.int (k : Nat), .ref b]) := by rw [← hH10]; exact upd_same
    have t10 := t9.trans (tk_same s10)
    have k10 : Kp [du] H8 H10 := k9.trans (.of s10)
    have u10 := u9.same s10
    have t78 := (tk_same s8).trans t10
    have lys : ys.length = (plsL ld k).length := by rw [hD.length, List.length_map]
    have yl := (lok.len k hkl).2
    refine ⟨tp, _, rfl, SqT.of et10, rfl, _, _, rfl, _, _, rfl, b, _, rfl, t78.seq hB, rfl, _, _, rfl, _, _, rfl, rfl, rfl, ?_⟩
    refine ⟨_, rfl, _, _, rfl, .inr ⟨_, t78.seq hC, rfl⟩, _, rfl, by omega, by omega, for_it (walk_range (lo := 0)) (fun i σ H' => ∃ v7 v8 v9, σ = [some (.ref me), some v, some (.int (k : Nat)), some (.ref du), some (.ref aw), some (.int (begL ld k : Nat)), some (.ref cc), v7, v8, v9, none] ∧ Kp [du] H8 H' ∧ Tk H10 H' ∧ UsersAt (fun b => H8 b ≠ none) H' du (occK ld k ++ (List.range i).flatMap fun i => occH ld (k, i)))
      ⟨v7, v8, v9, rfl, k10, .refl _, by simpa using u10⟩ (fun _ _ _ _ _ => trivial) ?_ ?_⟩
    · rintro i z σ H110 H11 hi ⟨v7, v8, v9, rfl, k11, t11, u11⟩ ⟨rfl, hz⟩
      rw [Int.toNat_natCast] at hi
      have ez : (0 : Int) + (i : Int) = ((i : Nat) : Int) := by omega
      have hz : z = V.int ((i : Nat) : Int) := by rw [hz]; show V.int (0 + (i : Int)) = _; rw [ez]
      subst hz
      have mem : ((k, i) : Hm) ∈ homesL ld := mem_homes.mpr ⟨hkl, by show i < (plsL ld k).length; omega⟩
      have ho11 := k11 _ _ ho8 (by simpa using nmd)
      have t811 := t10.trans t11
      refine ⟨_, rfl, me, dx, _, rfl, ho11, lot_no _ _ _ (by decide +kernel) (by decide +kernel) (by decide +kernel), _, rfl, _, rfl, me, dx, .ref al, ar, ah, ld, k, i, rfl, ho11, hl8.tk t811, lok, mem, fun H12 a xs hna s12 ha hW => ?_⟩
      have u12 := u11.more s12 hna
      have k12 : Kp [du] H8 H12 := k11.trans (.of s12)
      have nda : a ≠ du := by
        obtain ⟨kvs, e, _⟩ := u12
        exact ne_of ha e nofun
      have hS1 : ∀ H' : Hp, Kp [du] H8 H' → (∃ kvs, H' du = some (.dT kvs)) → H' a = some (.lst xs) → ∀ b, (H8 b ≠ none ∨ b = a) → H' b ≠ none := fun H' kk ⟨kvs, e⟩ ea b hb z => by
        rcases hb with hb | rfl
        · by_cases eb : b = du
          · subst eb; rw [e] at z; cases z
          · rcases q0 : H8 b with _ | ob
            · exact hb q0
            · rw [kk _ _ q0 (by simpa using eb)] at z; cases z
        · rw [ea] at z; cases z
      have lw := hW.len
      have few := ways_few lok (k, i)
      refine ⟨a, rfl, ⟨_, SqL.of ha⟩, for_it walk_list (fun j σ H' => ∃ v8 v9, σ = [some (.ref me), some v, some (.int (k : Nat)), some (.ref du), some (.ref aw), some (.int (begL ld k : Nat)), some (.ref cc), some (.int (i : Nat)), v8, v9, none] ∧ Kp [du] H8 H' ∧ Tk H12 H' ∧ H' a = some (.lst xs) ∧ UsersAt (fun b => H8 b ≠ none ∨ b = a) H' du ((occK ld k ++ (List.range i).flatMap fun i => occH ld (k, i)) ++ ((waysL ld (k, i)).take j).flatMap fun w => w.map fun part => (part, ((k, i) : Hm))))
        ⟨v8, v9, rfl, k12, .refl _, ha, by simpa using u12⟩ (fun _ _ _ _ ⟨_, _, _, _, _, ea, _⟩ => SqL.of ea) ?_ ?_⟩
      · rintro j z σ H130 H13 hj ⟨v8, v9, rfl, k13, t13, ea13, u13⟩ ⟨rfl, hz⟩
        obtain ⟨w, hw, b2, ps, rfl, hb2, hps⟩ := hW.get hz
        have wl := way_len (List.mem_of_getElem? hw)
        have pl := hps.len
        have hb3 := t13.t _ _ hb2
        have hps3 := hps.tk t13
        refine ⟨_, rfl, b2, rfl, ⟨_, SqT.of hb3⟩, for_it walk_tup (fun m σ H' => ∃ v9, σ = [some (.ref me), some v, some (.int (k : Nat)), some (.ref du), some (.ref aw), some (.int (begL ld k : Nat)), some (.ref cc), some (.int (i : Nat)), some (.ref b2), v9, none] ∧ Kp [du] H8 H' ∧ Tk H13 H' ∧ H' a = some (.lst xs) ∧ UsersAt (fun b => H8 b ≠ none ∨ b = a) H' du (((occK ld k ++ (List.range i).flatMap fun i => occH ld (k, i)) ++ ((waysL ld (k, i)).take j).flatMap fun w => w.map fun part => (part, ((k, i) : Hm))) ++ (w.take m).map fun part => (part, ((k, i) : Hm))))
          ⟨v9, rfl, k13, .refl _, ea13, by simpa using u13⟩ (fun _ _ _ _ ⟨_, _, _, t, _⟩ => SqT.of (t.t _ _ hb3)) ?_ ?_⟩
        · rintro m z σ H140 H14 hm ⟨v9, rfl, k14, t14, ea14, u14⟩ ⟨rfl, hz⟩
          obtain ⟨part, hpart, pb, rfl, hpb⟩ := (hps3.tk t14).get hz
          have ol := occ_pre lok hkl (i := i) (by omega) (j := j) (w := w) wl (m := m)
          generalize ho3 : (((occK ld k ++ (List.range i).flatMap fun i => occH ld (k, i)) ++ ((waysL ld (k, i)).take j).flatMap fun w => w.map fun part => (part, ((k, i) : Hm))) ++ (w.take m).map fun part => (part, ((k, i) : Hm))) = o3 at u14 ol
          have u14' := u14
          obtain ⟨kvs, hk1, hk2, hk3, hk4, hk5⟩ := u14'
          have sz : 200000 < sizeLine := by decide
          have hS := hS1 H14 k14 ⟨_, hk1⟩ ea14
          have fin : ∀ H3 : Hp, (∀ b ob, (H8 b ≠ none ∨ b = a) → b ≠ du → H14 b = some ob → H3 b = some ob) → Tk H14 H3 → UsersAt (fun b => H8 b ≠ none ∨ b = a) H3 du (o3 ++ [(part, ((k, i) : Hm))]) →
              ∃ v9, [some (V.ref me), some v, some (V.int (k : Nat)), some (V.ref du), some (V.ref aw), some (V.int (begL ld k : Nat)), some (V.ref cc), some (V.int (i : Nat)), some (V.ref b2), some (V.ref pb), none] = [some (.ref me), some v, some (.int (k : Nat)), some (.ref du), some (.ref aw), some (.int (begL ld k : Nat)), some (.ref cc), some (.int (i : Nat)), some (.ref b2), v9, none] ∧ Kp [du] H8 H3 ∧ Tk H13 H3 ∧ H3 a = some (.lst xs) ∧ UsersAt (fun b => H8 b ≠ none ∨ b = a) H3 du (((occK ld k ++ (List.range i).flatMap fun i => occH ld (k, i)) ++ ((waysL ld (k, i)).take j).flatMap fun w => w.map fun part => (part, ((k, i) : Hm))) ++ (w.take (m + 1)).map fun part => (part, ((k, i) : Hm))) := fun H3 kk tt uu => by
            refine ⟨_, rfl, fun b ob e hb => kk b ob (.inl (by rw [e]; simp)) (by simpa using hb) (k14 _ _ e hb), t14.trans tt, kk _ _ (.inr rfl) nda ea14, ?_⟩
            rw [take_snoc hpart, List.map_append, ← List.append_assoc, ho3]
            exact uu
          refine ⟨_, rfl, .inr (.inr (.inl ⟨rfl, .inr ⟨kvs, hk1⟩⟩)), _, rfl, Nat.zero_le _, fun l0 hl0 => ?_⟩
          have s0 := same_new hl0 (.lst [])
          refine ⟨du, kvs, hmK part, pb, .ref l0, rfl, rfl, s0 _ _ hk1, s0 _ _ hpb, by omega, fun vv hv => ?_, fun hn => ?_⟩
          · obtain ⟨l, ys, rfl, hSl, hl, hh⟩ := hk4 part vv hv
            have lys2 : ys.length ≤ o3.length := by rw [hh.len]; unfold usersO; rw [List.length_map]; exact List.length_filter_le _ _
            refine ⟨.inl ⟨rfl, _, SqL.of (s0 _ _ hl)⟩, _, rfl, _, rfl, (by show 2 ≤ sizeLine; decide), fun tt htt => ?_⟩
            obtain ⟨c1, c2, c3, _⟩ := users_old (home := (k, i)) u14 hS hk1 hv hl hl0 htt _ rfl
            refine ⟨l, ys, _, rfl, rfl, ?_, by omega, fin _ c1 c2 c3⟩
            exact (same_new htt _) _ _ (s0 _ _ hl)
          · refine ⟨.inl ⟨rfl, [], SqL.of ?_⟩, _, rfl, _, rfl, (by show 2 ≤ sizeLine; decide), fun tt htt => ?_⟩
            · rw [upd_ne (ne_of_none hk1 hl0).symm]; exact upd_same
            obtain ⟨c1, c2, c3, _⟩ := users_new (home := (k, i)) u14 hS hk1 hn hl0 htt _ rfl
            refine ⟨l0, [], _, rfl, rfl, ?_, by show 0 < sizeLine; decide, fin _ c1 c2 c3⟩
            exact (same_new htt _) _ _ (by rw [upd_ne (ne_of_none hk1 hl0).symm]; exact upd_same)
        · rintro σ H14 ⟨v9, rfl, k14, t14, ea14, u14⟩
          refine ⟨_, _, rfl, k14, t13.trans t14, ea14, ?_⟩
          rw [take_snoc hw, List.flatMap_append]
          rw [pl, List.take_length, List.append_assoc] at u14
          simpa using u14
      · rintro σ H13 ⟨v8, v9, rfl, k13, t13, ea13, u13⟩
        refine ⟨_, _, _, rfl, k13, t11.trans ((tk_same s12).trans t13), ?_⟩
        rw [lw, List.take_length, List.append_assoc] at u13
        rw [range_flat]
        exact u13.weak fun b h => .inl h
    · rintro σ H11 ⟨v7, v8, v9, rfl, k11, t11, u11⟩
      rw [Int.toNat_natCast, lys, ← occK_succ] at u11
      exact ⟨_, _, _, _, _, _, rfl, k11, t10.trans t11, u11⟩
  rintro σ H9 ⟨v2, v5, v6, v7, v8, v9, rfl, k9, t9, u9⟩
  rw [hLl, occ_all] at u9
  have ho9 := k9 _ _ ho8 (by simpa using nmd)
  have ew9 := k9 _ _ ew8 (by simpa using nwd)
  have er9 := k9 _ _ er8 (by simpa using nrd)
  have eh9 := k9 _ _ eh8 (by simpa using nhd)
  -- the turns
  have nwr : aw ≠ ar := (ne_of_none (s7 _ _ er6) naw).symm
  have nwh : aw ≠ ah := (ne_of_none (s7 _ _ eh6) naw).symm
  have nmw : me ≠ aw := ne_of ho8 ew8 nofun
  have hs0 : ∀ k, k < ld.length → ((k, 0) : Hm) ∈ homesL ld := fun k hk => mem_homes.mpr ⟨hk, (lok.len k hk).1⟩
  obtain ⟨kvs, hk1, hk2, hk3, hk4, hk5⟩ := u9
  have nda : du ≠ aw := nwd.symm
  obtain ⟨W, eW⟩ : ∃ W : Nat → L2.St → Hp → Prop, W = fun m σ H' => ∃ (n : Nat) (xs : List V), m + n = 100000 ∧ n ≤ (runL ld n).2.length ∧ σ = [some (.ref me), some v, v2, some (.ref du), some (.ref aw), v5, v6, v7, v8, v9, some (.int (n : Nat))] ∧ Kp [aw, ar, ah] H9 H' ∧ Tk H9 H' ∧
    H' aw = some (.lst xs) ∧ HmsAt H' xs (runL ld n).2 ∧ LotAt K (He.ga K "Lot") me dx (.ref al) ar ah ld (runL ld n).1 H' := ⟨_, rfl⟩
  refine ⟨W, ⟨100000, ?_⟩, ?_⟩
  · rw [eW]
    exact ⟨0, xs0, rfl, Nat.zero_le _, rfl, .refl _ _, .refl _, ew9, pw8.tk t9, ho9, hl8.tk t9, lok, ⟨[], eh9, rfl, fun _ _ e => by cases e⟩, ⟨[], er9, rfl⟩⟩
  intro m σ H10 hw
  rw [eW] at hw
  obtain ⟨n, xs, hmn, hn, rfl, k10, t10, ew10, pw10, lt10⟩ := hw
  have rb := run_bound lok n
  have lx := pw10.len
  refine ⟨_, rfl, _, rfl, _, _, rfl, .inl ⟨_, SqL.of ew10, rfl⟩, _, _, rfl, rfl, _, rfl, ?_⟩
  by_cases hlt : n < (runL ld n).2.length
  · refine ift (decide_eq_true (by omega)) ⟨W (m - 1), fun σ' H' h => ⟨m - 1, by omega, h⟩, ?_⟩
    have hx : xs[n]? = some (xs[n]'(by omega)) := List.getElem?_eq_getElem (by omega)
    obtain ⟨h, hh, b, eb, hb⟩ := pw10.get hx
    rw [eb] at hx
    have mem := run_mem_wait ld hs0 n h (List.mem_of_getElem? hh)
    have cl := run_len lok n
    have rn := run_next hh
    refine ⟨_, rfl, me, dx, _, rfl, lt10.ob, lot_no _ _ _ (by decide +kernel) (by decide +kernel) (by decide +kernel), _, rfl, _, rfl, .inl ⟨aw, _, n, _, rfl, rfl, SqL.of ew10, atI_nat hx, .inr (.inl ⟨b, _, 0, _, rfl, rfl, SqT.of hb, atI_nat (j := 0) rfl, _, rfl, _, rfl, .inl ⟨aw, _, n, _, rfl, rfl, SqL.of ew10, atI_nat hx, .inr (.inl ⟨b, _, 1, _, rfl, rfl, SqT.of hb, atI_nat (j := 1) rfl, ?_⟩)⟩⟩)⟩⟩
    refine ⟨me, dx, .ref al, ar, ah, ld, _, h.1, h.2, rfl, lt10, mem, by omega, fun hno H11 s11 => ?_, fun hyes H11 k11 t11 lt11 => ?_⟩
    · refine ⟨_, rfl, iteF ?_⟩
      refine ⟨_, rfl, _, _, rfl, rfl, ?_⟩
      rw [if_neg hno] at rn
      rw [eW]
      refine ⟨n + 1, xs, by omega, by rw [rn]; omega, congrArg (fun z => [some (V.ref me), some v, v2, some (V.ref du), some (V.ref aw), v5, v6, v7, v8, v9, some (V.int z)]) (by dsimp only; omega), k10.trans (.of s11), t10.trans (tk_same s11), s11 _ _ ew10, by rw [rn]; exact pw10.tk (tk_same s11), by rw [rn]; exact lt10.same s11⟩
    · refine ⟨_, rfl, iteT ?_⟩
      rw [if_pos hyes] at rn
      have k911 : Kp [aw, ar, ah] H9 H11 := k10.trans (k11.mono (by simp))
      have ew11 := k11 _ _ ew10 (by simp [nwr, nwh])
      have hb11 := t11.t _ _ hb
      have hk11 := k911 _ _ hk1 (by simp [nda, nrd.symm, nhd.symm])
      have t911 := t10.trans t11
      refine ⟨_, rfl, .inl ⟨rfl, _, SqL.of ew11⟩, _, rfl, du, rfl, .inr ⟨kvs, .inl hk11⟩, _, rfl, _, rfl, .inl ⟨aw, _, n, _, rfl, rfl, SqL.of ew11, atI_nat hx, Nat.zero_le _, fun l0 hl0 => ?_⟩⟩
      have s12 := same_new hl0 (.lst [])
      generalize hH12 : upd H11 l0 (.lst []) = H12 at s12
      have el0 : H12 l0 = some (.lst []) := by rw [← hH12]; exact upd_same
      have ew12 := s12 _ _ ew11
      have dg := DGet.t (k := hmK h) (s12 _ _ hk11) (s12 _ _ hb11)
      have fin : ∀ (zs : List V), HmsAt H12 zs (usersL ld h) → W (m - 1) [some (.ref me), some v, v2, some (.ref du), some (.ref aw), v5, v6, v7, v8, v9, some (.int ((n : Int) + 1))] (upd H12 aw (.lst (xs ++ zs))) := fun zs hz => by
        have t13 := tk_lst (o' := .lst (xs ++ zs)) ew12
        have t1013 := t11.trans ((tk_same s12).trans t13)
        have rb2 := run_bound lok (n + 1)
        rw [eW]
        refine ⟨n + 1, xs ++ zs, by omega, by rw [rn]; show n + 1 ≤ ((runL ld n).2 ++ usersL ld h).length; rw [List.length_append]; omega, congrArg (fun z => [some (V.ref me), some v, v2, some (V.ref du), some (V.ref aw), v5, v6, v7, v8, v9, some (V.int z)]) (by omega), k911.trans ((Kp.of s12).trans (kp_upd (by simp) _)), t10.trans t1013, upd_same, ?_, ?_⟩
        · rw [rn]
          exact (pw10.tk t1013).append (hz.tk t13)
        · rw [rn]
          exact (lt11.same s12).kp (kp_upd (M := [aw]) (by simp) _) t13 (by simpa using nmw) (by simpa using nwh.symm) (by simpa using nwr.symm)
      have lz : ∀ zs : List V, HmsAt H12 zs (usersL ld h) → xs.length + zs.length ≤ sizeLine := fun zs hz => by
        have rb2 := run_bound lok (n + 1)
        rw [rn, List.length_append] at rb2
        have : 96040 ≤ sizeLine := by decide
        rw [lx, hz.len]; omega
      rcases hv : valV kvs (hmK h) with _ | vv
      · rw [hv] at dg
        have e0 : usersL ld h = [] := hk3 h hv
        have hz : HmsAt H12 [] (usersL ld h) := by rw [e0]; exact .nil
        exact ⟨none, dg, aw, l0, xs, [], rfl, rfl, ew12, el0, lz _ hz, _, rfl, _, _, rfl, rfl, fin _ hz⟩
      · rw [hv] at dg
        obtain ⟨l, zs, rfl, hSl, hl, hz⟩ := hk4 h vv hv
        have n1 : l ≠ aw := fun e => hSl (by rw [e]; show H8 aw ≠ none; rw [ew8]; simp)
        have n2 : l ≠ ar := fun e => hSl (by rw [e]; show H8 ar ≠ none; rw [er8]; simp)
        have n3 : l ≠ ah := fun e => hSl (by rw [e]; show H8 ah ≠ none; rw [eh8]; simp)
        have hl12 := s12 _ _ (k911 _ _ hl (by simp [n1, n2, n3]))
        have hz12 : HmsAt H12 zs (usersL ld h) := hz.tk (t911.trans (tk_same s12))
        exact ⟨some (.ref l), dg, aw, l, xs, zs, rfl, rfl, ew12, hl12, lz _ hz12, _, rfl, _, _, rfl, rfl, fin _ hz12⟩
  · refine iff' (decide_eq_false (by omega)) ?_
    have ec := chosen_at (ld := ld) (n := n) (by omega) (by omega)
    refine q H10 (.ref al) ar ah (fun b o e hb => ?_) ((tk_same s1).trans (t16.trans ((tk_same s7).trans ((tk_same s8).trans (t9.trans t10))))) (by rw [ec]; exact lt10)
    have e1 := s1 _ _ e
    have e2 := k2 _ _ e1 hb
    have e6 := k6 _ _ (s25 _ _ e2) hb
    have e7 := s7 _ _ e6
    have e9 := k9 _ _ (s8 _ _ e7) (by simpa using ne_of_none e6 hdu)
    exact k10 _ _ e9 (by simp [ne_of_none e7 naw, ne_of_none e2 har, ne_of_none (s3 _ _ e2) hah])
end
end PK

set_option linter.all false
set_option Elab.async false
set_option maxRecDepth 100000
set_option maxHeartbeats 4000000
/-! KU: the useful homes. -/
namespace PK
open PySem PySem.Spec PyProof.Rows L2
theorem HmsAt.take {H : Hp} {vs : List V} {hs : List Hm} (a : HmsAt H vs hs) : ∀ n : Nat, HmsAt H (vs.take n) (hs.take n) := by
  induction a with
  | nil => intro n; simpa using HmsAt.nil
  | cons h _ ih =>
    intro n
    cases n with
    | zero => exact .nil
    | succ n => exact .cons h (ih n)
def hmD (h : Hm) : PyData := .tuple [natD h.1, natD h.2]
theorem dat_hm {K : Fg} {H : Hp} {v : V} {h : Hm} (a : HmAt H v h) : Dat K H v (hmD h) := by
  obtain ⟨b, rfl, e⟩ := a
  exact .tup (SqT.of e) (.cons (.int _) (.cons (.int _) .nil))
theorem dats_hms {K : Fg} {H : Hp} {vs : List V} {hs : List Hm} (a : HmsAt H vs hs) : Dats K H vs (hs.map hmD) := by
  induction a with
  | nil => exact .nil
  | cons h _ ih => exact .cons (dat_hm h) ih
theorem lay_hms (hs : List Hm) : PyData.canLayAll0 (hs.map hmD) = true := by
  induction hs with
  | nil => rfl
  | cons h r ih =>
    show (PyData.canLay0 (hmD h) && PyData.canLayAll0 (r.map hmD)) = true
    rw [ih]; rfl
def Expd (ld : Ld) (C l : List Hm) (h : Hm) : Prop := ∀ w ∈ waysL ld h, goodW C w = true → ∀ p ∈ w, p ∈ l
/-- on the way: l found, wl waits, ex: under way -/
structure Fnd (ld : Ld) (C : List Hm) (f : Hm) (l wl : List Hm) (ex : Hm → Prop) : Prop where
  nd : l.Nodup
  r : ∀ h ∈ l, Rch ld C f h
  b : f ∈ C → f ∈ l
  w : ∀ h ∈ wl, h ∈ l
  e : ∀ h ∈ l, h ∈ wl ∨ ex h ∨ Expd ld C l h
theorem Fnd.add {ld : Ld} {C : List Hm} {f : Hm} {l wl : List Hm} {ex : Hm → Prop} (a : Fnd ld C f l wl ex) {p : Hm} (hp : p ∉ l) (hr : Rch ld C f p) : Fnd ld C f (l ++ [p]) (wl ++ [p]) ex := by
  refine ⟨?_, fun h hh => ?_, fun h => List.mem_append.mpr (.inl (a.b h)), fun h hh => ?_, fun h hh => ?_⟩
  · rw [List.nodup_append]
    refine ⟨a.nd, by simp, fun x hx y hy e => ?_⟩
    rw [List.mem_singleton.mp hy] at e
    subst e
    exact hp hx
  · rcases List.mem_append.mp hh with hh | hh
    · exact a.r h hh
    · rw [List.mem_singleton.mp hh]; exact hr
  · rcases List.mem_append.mp hh with hh | hh
    · exact List.mem_append.mpr (.inl (a.w h hh))
    · exact List.mem_append.mpr (.inr hh)
  · rcases List.mem_append.mp hh with hh | hh
    · rcases a.e h hh with q | q | q
      · exact .inl (List.mem_append.mpr (.inl q))
      · exact .inr (.inl q)
      · exact .inr (.inr fun w hw g p hp => List.mem_append.mpr (.inl (q w hw g p hp)))
    · exact .inl (List.mem_append.mpr (.inr hh))
theorem Fnd.few {ld : Ld} (ok : LdOk ld) {f : Hm} {l wl : List Hm} {ex : Hm → Prop} (a : Fnd ld (chosenL ld) f l wl ex) : l.length ≤ 12000 := Nat.le_trans (nd_len a.nd fun h hh => (a.r h hh).mem) (chosen_len ok)
theorem Rch.first {ld : Ld} {C : List Hm} {f h : Hm} (r : Rch ld C f h) : f ∈ C := by
  induction r with
  | base m => exact m
  | step _ _ _ _ ih => exact ih
theorem Fnd.done {ld : Ld} {C : List Hm} {f : Hm} {l : List Hm} (a : Fnd ld C f l [] fun _ => False) (h : Hm) : h ∈ l ↔ Rch ld C f h := by
  refine ⟨a.r h, fun r => ?_⟩
  induction r with
  | base m => exact a.b m
  | step _ hw g hp ih =>
    rcases a.e _ ih with q | q | q
    · cases q
    · exact q.elim
    · exact q _ hw g _ hp
/-- the last is taken out -/
theorem Fnd.pop {ld : Ld} {C : List Hm} {f : Hm} {l wl : List Hm} {h : Hm} (a : Fnd ld C f l (wl ++ [h]) fun _ => False) : Fnd ld C f l wl (fun x => x = h) :=
  ⟨a.nd, a.r, a.b, fun x hx => a.w x (List.mem_append.mpr (.inl hx)), fun x hx => by
    rcases a.e x hx with q | q | q
    · rcases List.mem_append.mp q with q | q
      · exact .inl q
      · exact .inr (.inl (List.mem_singleton.mp q))
    · exact q.elim
    · exact .inr (.inr q)⟩
theorem Fnd.push {ld : Ld} {C : List Hm} {f : Hm} {l wl : List Hm} {h : Hm} (a : Fnd ld C f l wl (fun x => x = h)) (e : Expd ld C l h) : Fnd ld C f l wl fun _ => False :=
  ⟨a.nd, a.r, a.b, a.w, fun x hx => by
    rcases a.e x hx with q | q | q
    · exact .inl q
    · subst q; exact .inr (.inr e)
    · exact .inr (.inr q)⟩
def spLotUseful (K : Fg) (Cl : Addr) : Sp := fun vs H Q _ => ∃ (me dx : Addr) (vl : V) (ar ah : Addr) (ld : Ld) (i : Nat), vs = [.ref me, .int i] ∧ LotAt K Cl me dx vl ar ah ld (chosenL ld) H ∧ i < ld.length ∧
  ∀ H' d kvs l, Same H H' → H' d = some (.dT kvs) → keyed kvs l → l.Nodup → (∀ h, h ∈ l ↔ Rch ld (chosenL ld) (i, begL ld i) h) → Q (.ref d) H'
section
variable {P : Program} {w : World} {K : Fg} {mg : Str → Option Value} {base : Heap}
theorem ok_lotUseful (T : Tp K mg) (F : Std K "useful" "Lot.useful" s_Lot_useful (He.ma K (He.ga K "Lot") "useful")) (D_Lot_begin : Dn P w K mg base 1 (He.ma K (He.ga K "Lot") "begin") ["self", "index"] (spBegin K (He.ga K "Lot")))
    (D_Lot_ended : Dn P w K mg base 2 (He.ma K (He.ga K "Lot") "ended") ["self", "home"] (spEnded K (He.ga K "Lot"))) : Dn P w K mg base 3 (He.ma K (He.ga K "Lot") "useful") ["self", "index"] (spLotUseful K (He.ga K "Lot")) := by
  refine dn_mk F sc_Lot_useful
    (fun _ _ _ _ _ _ us hl => match us, hl with | [_, _], _ => rfl)
    (fun vs H Q E h => ?_) fun cdv A outer s H vs Q E hr h => ?_
  · obtain ⟨me, dx, vl, ar, ah, ld, i, rfl, _⟩ := h; rfl
  obtain ⟨me, dx, vl, ar, ah, ld, i, rfl, lt, hi, q⟩ := h
  have hu := hu_of hr
  generalize hf : ((i, begL ld i) : Hm) = f at q
  generalize hC : chosenL ld = C at lt q
  refine ⟨_, (pss_cons (ps_set (i := 2) sc_Lot_useful.nd rfl (Or.inl rfl) (pe_m D_Lot_begin (hr.mono (by omega)) (pv 0) T.cl_Lot T.m_Lot_begin (pa_cons (pv 1) pa_nil)))
    (pss_cons (ps_par (i := 3) (j := 4) (by rfl) sc_Lot_useful.nd rfl rfl (by decide) rfl rfl (pa_cons (pe_ifExp (pt_cmp (pc_din hu (pv 2) (fldK (K := K) rfl (pv 0) rfl))) (pe_disp1T hu (pv 2) pe_non) pe_dnewT) (pa_cons (pe_lst (pa_cons (pv 2) pa_nil)) pa_nil)) (by rfl))
    (pss_cons (ps_while PassesOwn.never (PW.pt (pw_and (pt_cmpR (oNeE (hu64 hr)) (pv 3) pe_dnewT (nomark _)) (pw_and1 (pt_cmpR (oNeNilL (K := K) rfl (hu64 hr)) (pv 4) (pe_lst pa_nil) (nomark _))))) (pss_cons (ps_set (i := 5) sc_Lot_useful.nd rfl (Or.inl rfl) (pe_bm0 PySem.F.plainAttrs_list PySem.F.slot_list_pop PySem.F.type_list_pop mt_pop (pv 4)))
    (pss_one (ps_for PassesOwn.never rfl (iLstK (K := K) rfl (pe_m D_Lot_ended (hr.mono (by omega)) (pv 0) T.cl_Lot T.m_Lot_ended (pa_cons (pv 5) pa_nil))) (pg_tup (by rfl) (pgs_cons (pg_name (i := 6) sc_Lot_useful.nd rfl (Or.inl rfl)) (pgs_cons (pg_name (i := 7) sc_Lot_useful.nd rfl (Or.inl rfl)) pgs_nil))) (pss_one (ps_for PassesOwn.never rfl (iTupK (K := K) rfl (pv 7)) (pg_name (i := 8) sc_Lot_useful.nd rfl (Or.inl rfl)) (pss_one (ps_if (pt_cmp (pc_dnotin hu (pv 8) (pv 3))) (pss_cons (ps_dput hu (pv 3) (pv 8) (pv 5) rfl)
    (pss_one (ps_expr (pe_bm PySem.F.plainAttrs_list PySem.F.slot_list_append PySem.F.type_list_append mt_append (pv 4) (pa_cons (pv 8) pa_nil))))) pss_nil))))))))
    (pss_one (ps_ret (pv 3)))))), ?_⟩
  refine ⟨_, rfl, me, dx, _, rfl, lt.ob, lot_no _ _ _ (by decide +kernel) (by decide +kernel) (by decide +kernel), _, rfl, me, dx, vl, ar, ah, ld, i, rfl, lt.ob, lt.lv, hi, fun H1 bf hbf s1 eb => ?_⟩
  rw [hf] at eb
  have lt1 := lt.same s1
  obtain ⟨kh, hk1, hk2, hk3⟩ := lt1.hm
  refine ⟨_, rfl, _, rfl, me, _, dx, _, _, rfl, lt1.ob, T.cl_Lot, T.n_Lot_homes, lot_homes _ _ _, ah, _, rfl, DGet.t (k := hmK f) hk1 eb, _, rfl, ?_⟩
  rw [keyed_some hk2]
  have st : ∀ (Hd : Hp) (df : Addr), H1 df = none → (∃ kvs l, Hd = upd H1 df (.dT kvs) ∧ keyed kvs l ∧ ((l = [] ∧ f ∉ C) ∨ l = [f] ∧ f ∈ C)) → Same H1 Hd ∧ ∃ kvs l, Hd df = some (.dT kvs) ∧ keyed kvs l ∧ ((l = [] ∧ f ∉ C) ∨ l = [f] ∧ f ∈ C) := fun Hd df hn ⟨kvs, l, e, k1, k2⟩ => by
    subst e
    exact ⟨same_new hn _, kvs, l, upd_same, k1, k2⟩
  by_cases hin : f ∈ C
  case' pos =>
    refine ift (decide_eq_true hin) fun df hdf => ⟨_, rfl, _, _, rfl, upd_same, bf, hmK f, rfl, (same_new hdf _) _ _ eb, ?_⟩
    rw [upd_upd]
    obtain ⟨sd, kvs, l, ed, kk, cs⟩ := st _ df hdf ⟨[(hmK f, .non)], [f], rfl, rfl, .inr ⟨rfl, hin⟩⟩
    generalize hHd : upd H1 df (.dT [(hmK f, .non)]) = Hd at sd ed
  case' neg =>
    refine iff' (decide_eq_false hin) fun df hdf => ?_
    obtain ⟨sd, kvs, l, ed, kk, cs⟩ := st _ df hdf ⟨[], [], rfl, rfl, .inl ⟨rfl, hin⟩⟩
    generalize hHd : upd H1 df (.dT []) = Hd at sd ed
  all_goals
    refine ⟨_, rfl, (by show 1 ≤ sizeLine; decide), fun aw haw => ⟨_, _, rfl, ?_⟩⟩
    have sw := same_new haw (.lst [.ref bf])
    generalize hH3 : upd Hd aw (.lst [.ref bf]) = H3 at sw
    have ew3 : H3 aw = some (.lst [.ref bf]) := by rw [← hH3]; exact upd_same
    have ed3 := sw _ _ ed
    have s3 := s1.trans (sd.trans sw)
    have lt3 := lt.same s3
    have eb3 := sw _ _ (sd _ _ eb)
    have ob := lt1.ob
    have nmd : me ≠ df := ne_of_none ob hdf
    have nmw : me ≠ aw := ne_of_none (sd _ _ ob) haw
    have nhd : ah ≠ df := ne_of_none hk1 hdf
    have nhw : ah ≠ aw := ne_of_none (sd _ _ hk1) haw
    have nr : ar ≠ df ∧ ar ≠ aw := by
      obtain ⟨rows, e, _⟩ := lt1.rw
      exact ⟨ne_of_none e hdf, ne_of_none (sd _ _ e) haw⟩
    have ndw : df ≠ aw := ne_of ed3 ew3 nofun
    have ltk : ∀ H', Kp [df, aw] H3 H' → Tk H3 H' → LotAt K (He.ga K "Lot") me dx vl ar ah ld C H' := fun H' k t => lt3.kp k t (by simp [nmd, nmw]) (by simp [nhd, nhw]) (by simp [nr.1, nr.2])
    have back : ∀ H', Kp [df, aw] H3 H' → Same H H' := fun H' k b o e => k _ _ (s3 _ _ e) (by
      have h1 := s1 _ _ e
      simp [ne_of_none h1 hdf, ne_of_none (sd _ _ h1) haw])
    obtain ⟨W, eW⟩ : ∃ W : Nat → L2.St → Hp → Prop, W = fun m σ H' => ∃ (kvs : List (List L2.Key × V)) (l : List Hm) (xs : List V) (wl : List Hm) (v5 v6 v7 v8 : Option V), 2 * (12000 - l.length) + wl.length ≤ m ∧ m ≤ 100000 ∧ σ = [some (.ref me), some (.int (i : Nat)), some (.ref bf), some (.ref df), some (.ref aw), v5, v6, v7, v8] ∧
      Kp [df, aw] H3 H' ∧ Tk H3 H' ∧ H' df = some (.dT kvs) ∧ keyed kvs l ∧ H' aw = some (.lst xs) ∧ HmsAt H' xs wl ∧ ((l = [] ∧ f ∉ C) ∨ Fnd ld C f l wl fun _ => False) := ⟨_, rfl⟩
    refine ⟨W, ⟨100000, ?_⟩, ?_⟩
    · rw [eW]
      refine ⟨kvs, l, [.ref bf], [f], none, none, none, none, ?_, Nat.le_refl _, rfl, .refl _ _, .refl _, ed3, kk, ew3, .cons ⟨bf, rfl, eb3⟩ .nil, ?_⟩
      · simp only [List.length_singleton]; omega
      · rcases cs with cs | ⟨rfl, hc⟩
        · exact .inl cs
        · refine .inr ⟨by simp, fun h hh => ?_, fun _ => by simp, fun h hh => hh, fun h hh => .inl hh⟩
          rw [List.mem_singleton.mp hh]; exact .base hc
    intro m σ H4 hw
    rw [eW] at hw
    obtain ⟨kvs, l, xs, wl, v5, v6, v7, v8, hm, hm2, rfl, k4, t4, ed4, kk4, ew4, pw4, cs4⟩ := hw
    refine ⟨_, rfl, fun p hp => ?_⟩
    have s5 := same_new hp (.dT [])
    generalize hH5 : upd H4 p (.dT []) = H5 at s5
    have ep5 : H5 p = some (.dT []) := by rw [← hH5]; exact upd_same
    refine ⟨df, p, kvs, rfl, rfl, s5 _ _ ed4, ep5, _, rfl, ?_⟩
    have k5 : Kp [df, aw] H3 H5 := k4.trans (.of s5)
    have t5 := t4.trans (tk_same s5)
    by_cases he : kvs = []
    · subst he
      refine iff' rfl (iteF ?_)
      have el : l = [] := by
        have := keyed_len kk4
        exact List.eq_nil_of_length_eq_zero this.symm
      subst el
      refine ⟨_, rfl, q H5 df [] [] (back _ k5) (s5 _ _ ed4) rfl List.nodup_nil fun h => ⟨fun z => (by cases z), fun r => ?_⟩⟩
      rcases cs4 with ⟨_, hc⟩ | fd
      · exact (hc r.first).elim
      · exact absurd (fd.b r.first) (by simp)
    have hke : (!kvs.isEmpty) = true := by
      cases kvs with
      | nil => exact absurd rfl he
      | cons _ _ => rfl
    refine ift hke ?_
    have fd : Fnd ld C f l wl fun _ => False := by
      rcases cs4 with ⟨rfl, _⟩ | fd
      · have := keyed_len kk4
        exact absurd (List.eq_nil_of_length_eq_zero this) he
      · exact fd
    refine ⟨_, rfl, Nat.zero_le _, fun p2 hp2 => ?_⟩
    have s6 := same_new hp2 (.lst [])
    generalize hH6 : upd H5 p2 (.lst []) = H6 at s6
    have ep6 : H6 p2 = some (.lst []) := by rw [← hH6]; exact upd_same
    have s46 := s5.trans s6
    have ew6 := s46 _ _ ew4
    have ed6 := s46 _ _ ed4
    have pw6 := pw4.tk (tk_same s46)
    have k6 : Kp [df, aw] H3 H6 := k4.trans (.of s46)
    have t6 := t4.trans (tk_same s46)
    refine ⟨aw, p2, wl.map hmD, rfl, rfl, .lst (SqL.of ew6) (dats_hms pw6).dp, SqL.of ep6, lay_hms wl, _, rfl, ?_⟩
    have lw := pw6.len
    by_cases hwl : wl = []
    · subst hwl
      refine iff' rfl ?_
      exact ⟨_, rfl, q H6 df kvs l (back _ k6) ed6 kk4 fd.nd fd.done⟩
    obtain ⟨wl, h, rfl⟩ : ∃ w' h, wl = w' ++ [h] := ⟨wl.dropLast, wl.getLast hwl, (List.dropLast_concat_getLast hwl).symm⟩
    refine ift (by rw [List.map_append]; simp) ?_
    have hlen : xs.length = wl.length + 1 := by rw [lw]; simp
    have hx : xs[xs.length - 1]? = some (xs[xs.length - 1]'(by omega)) := List.getElem?_eq_getElem (by omega)
    obtain ⟨h', hh, b, eb', hb⟩ := pw6.get hx
    have eh : h' = h := by
      have e : xs.length - 1 = wl.length := by omega
      rw [e, List.getElem?_append_right (Nat.le_refl _), Nat.sub_self] at hh
      exact (Option.some.inj hh).symm
    subst eh
    rw [eb'] at hx
    have mem : h' ∈ homesL ld := by
      have := (fd.r h' (fd.w h' (by simp))).mem
      rw [← hC] at this
      exact chosen_homes this
    refine ⟨W (m - 1), fun σ' H' h => ⟨m - 1, by simp at hm; omega, h⟩, ?_⟩
    refine ⟨_, rfl, .inl ⟨rfl, _, SqL.of ew6⟩, aw, xs, _, rfl, rfl, ew6, hx, ?_⟩
    have t67 := tk_lst (o' := .lst xs.dropLast) ew6
    have k67 : Kp [df, aw] H6 (upd H6 aw (.lst xs.dropLast)) := kp_upd (by simp) _
    generalize hH7 : upd H6 aw (.lst xs.dropLast) = H7 at t67 k67
    have ew7 : H7 aw = some (.lst xs.dropLast) := by rw [← hH7]; exact upd_same
    have ed7 : H7 df = some (.dT kvs) := by rw [← hH7, upd_ne ndw]; exact ed6
    have k7 := k6.trans k67
    have t7 := t6.trans t67
    have pw7 : HmsAt H7 xs.dropLast wl := by
      have := (pw6.tk t67).take wl.length
      rw [List.take_left' rfl] at this
      rw [List.dropLast_eq_take, hlen]
      exact this
    have hb7 := t67.t _ _ hb
    have lt7 := ltk H7 k7 t7
    have fd7 := fd.pop
    have hin7 := fd.w h' (by simp)
    refine ⟨_, rfl, me, dx, _, rfl, lt7.ob, lot_no _ _ _ (by decide +kernel) (by decide +kernel) (by decide +kernel), _, rfl, me, dx, vl, ar, ah, ld, C, .ref b, h', rfl, lt7, ⟨b, rfl, hb7⟩, mem, fun H8 a es hna s8 ha hE => ?_⟩
    have nad : a ≠ df := (ne_of_none ed7 hna).symm
    have naw : a ≠ aw := (ne_of_none ew7 hna).symm
    have k8 : Kp [df, aw] H3 H8 := k7.trans (.of s8)
    have t8 := t7.trans (tk_same s8)
    have le := hE.len
    refine ⟨a, rfl, ⟨_, SqL.of ha⟩, for_it walk_list (fun j σ H' => ∃ (kvs : List (List L2.Key × V)) (l : List Hm) (xs : List V) (wl2 : List Hm) (v6 v7 v8 : Option V), 2 * (12000 - l.length) + wl2.length + 1 ≤ m ∧ σ = [some (.ref me), some (.int (i : Nat)), some (.ref bf), some (.ref df), some (.ref aw), some (.ref b), v6, v7, v8] ∧
      Kp [df, aw] H8 H' ∧ Tk H8 H' ∧ H' df = some (.dT kvs) ∧ keyed kvs l ∧ H' aw = some (.lst xs) ∧ HmsAt H' xs wl2 ∧ Fnd ld C f l wl2 (fun x => x = h') ∧ h' ∈ l ∧ ∀ (k : Nat) (w : List Hm), k < j → ((waysL ld h').filter (goodW C))[k]? = some w → ∀ p ∈ w, p ∈ l)
      ⟨kvs, l, _, wl, v6, v7, v8, by simp at hm; omega, rfl, .refl _ _, .refl _, s8 _ _ ed7, kk4, s8 _ _ ew7, pw7.tk (tk_same s8), fd7, hin7, fun k w hk => by omega⟩
      (fun _ _ _ _ ⟨_, _, _, _, _, _, _, _, _, kk, _⟩ => SqL.of (kk _ _ ha (by simp [nad, naw]))) ?_ ?_⟩
    · rintro j z σ H90 H9 hj ⟨kvs9, l9, xs9, wl9, v6, v7, v8, hm9, rfl, k9, t9, ed9, kk9, ew9, pw9, fd9, hin9, al9⟩ ⟨rfl, hz⟩
      obtain ⟨w, hw, tp, ii, u, rfl, htp, b2, ps, rfl, hb2, hps⟩ := hE.get hz
      have hwm := List.mem_filter.mp (List.mem_of_getElem? hw)
      have hb29 := t9.t _ _ hb2
      have hps9 := hps.tk t9
      have pl := hps.len
      refine ⟨tp, _, rfl, SqT.of (t9.t _ _ htp), rfl, _, _, rfl, _, _, rfl, rfl, ?_⟩
      refine ⟨_, rfl, b2, rfl, ⟨_, SqT.of hb29⟩, for_it walk_tup (fun n σ H' => ∃ (kvs : List (List L2.Key × V)) (l : List Hm) (xs : List V) (wl2 : List Hm) (v8 : Option V), 2 * (12000 - l.length) + wl2.length + 1 ≤ m ∧ σ = [some (.ref me), some (.int (i : Nat)), some (.ref bf), some (.ref df), some (.ref aw), some (.ref b), some (.int ii), some (.ref b2), v8] ∧
        Kp [df, aw] H8 H' ∧ Tk H9 H' ∧ H' df = some (.dT kvs) ∧ keyed kvs l ∧ H' aw = some (.lst xs) ∧ HmsAt H' xs wl2 ∧ Fnd ld C f l wl2 (fun x => x = h') ∧ h' ∈ l ∧ (∀ (k : Nat) (w : List Hm), k < j → ((waysL ld h').filter (goodW C))[k]? = some w → ∀ p ∈ w, p ∈ l) ∧ ∀ p ∈ w.take n, p ∈ l)
        ⟨kvs9, l9, xs9, wl9, v8, hm9, rfl, k9, .refl _, ed9, kk9, ew9, pw9, fd9, hin9, al9, fun p hp => by simp at hp⟩ (fun _ _ _ _ ⟨_, _, _, _, _, _, _, _, tt, _⟩ => SqT.of (tt.t _ _ hb29)) ?_ ?_⟩
      · rintro n z σ H100 H10 hn ⟨kvsA, lA, xsA, wlA, v8, hmA, rfl, kA, tA, edA, kkA, ewA, pwA, fdA, hinA, alA, tkA⟩ ⟨rfl, hz⟩
        obtain ⟨part, hpart, pb, rfl, hpb⟩ := (hps9.tk tA).get hz
        refine ⟨_, rfl, _, rfl, df, _, rfl, DGet.t (k := hmK part) edA hpb, _, rfl, ?_⟩
        rw [keyed_some kkA]
        by_cases hp : part ∈ lA
        · refine iff' (by rw [decide_eq_true hp]; rfl) ⟨kvsA, lA, xsA, wlA, _, hmA, rfl, kA, tA, edA, kkA, ewA, pwA, fdA, hinA, alA, fun p hp2 => ?_⟩
          rw [take_snoc hpart] at hp2
          rcases List.mem_append.mp hp2 with hp2 | hp2
          · exact tkA p hp2
          · rw [List.mem_singleton.mp hp2]; exact hp
        · refine ift (by rw [decide_eq_false hp]; rfl) ?_
          have hr2 : Rch ld C f part := .step (fdA.r h' hinA) hwm.1 hwm.2 (List.mem_of_getElem? hpart)
          have fdB := fdA.add hp hr2
          have fewB : (lA ++ [part]).length ≤ 12000 := by
            rw [← hC] at fdB
            exact fdB.few lt.ok
          rw [List.length_append] at fewB
          have fewB : lA.length + 1 ≤ 12000 := fewB
          have sz : 100000 < sizeLine := by decide
          refine ⟨_, rfl, _, rfl, _, rfl, df, _, rfl, DPut.t (k := hmK part) edA hpb (by rw [keyed_len kkA]; omega), ?_⟩
          have tB := tk_dT (o' := .dT (putK kvsA (hmK part) (.ref b))) edA
          have kB : Kp [df, aw] H10 (upd H10 df (.dT (putK kvsA (hmK part) (.ref b)))) := kp_upd (by simp) _
          generalize hHB : upd H10 df (.dT (putK kvsA (hmK part) (.ref b))) = HB at tB kB
          have edB : HB df = some (.dT (putK kvsA (hmK part) (.ref b))) := by rw [← hHB]; exact upd_same
          have ewB : HB aw = some (.lst xsA) := by rw [← hHB, upd_ne ndw.symm]; exact ewA
          have lA2 := pwA.len
          refine ⟨_, rfl, .inl ⟨rfl, _, SqL.of ewB⟩, _, rfl, aw, xsA, _, rfl, rfl, ewB, by omega, ?_⟩
          have tC := tk_lst (o' := .lst (xsA ++ [.ref pb])) ewB
          have tBC := tB.trans tC
          refine ⟨_, lA ++ [part], _, wlA ++ [part], _, by simp; omega, rfl, kA.trans (kB.trans (kp_upd (by simp) _)), tA.trans tBC, by rw [upd_ne ndw]; exact edB, keyed_put kkA hp _, upd_same, (pwA.tk tBC).snoc ⟨pb, rfl, tBC.t _ _ hpb⟩, fdB, List.mem_append.mpr (.inl hinA), fun k w2 hk hw2 p hp2 => List.mem_append.mpr (.inl (alA k w2 hk hw2 p hp2)), fun p hp2 => ?_⟩
          rw [take_snoc hpart] at hp2
          rcases List.mem_append.mp hp2 with hp2 | hp2
          · exact List.mem_append.mpr (.inl (tkA p hp2))
          · exact List.mem_append.mpr (.inr hp2)
      · rintro σ H10 ⟨kvsA, lA, xsA, wlA, v8, hmA, rfl, kA, tA, edA, kkA, ewA, pwA, fdA, hinA, alA, tkA⟩
        refine ⟨kvsA, lA, xsA, wlA, _, _, _, hmA, rfl, kA, t9.trans tA, edA, kkA, ewA, pwA, fdA, hinA, fun k w2 hk hw2 => ?_⟩
        rw [pl, List.take_length] at tkA
        rcases Nat.lt_or_ge k j with lkj | lkj
        · exact alA k w2 lkj hw2
        · have : k = j := by omega
          subst this
          rw [hw] at hw2
          cases hw2; exact tkA
    · rintro σ H9 ⟨kvs9, l9, xs9, wl9, v6, v7, v8, hm9, rfl, k9, t9, ed9, kk9, ew9, pw9, fd9, hin9, al9⟩
      rw [eW]
      refine ⟨kvs9, l9, xs9, wl9, _, _, _, _, by omega, by omega, rfl, k8.trans k9, t8.trans t9, ed9, kk9, ew9, pw9, .inr (fd9.push fun w hw g p hp => ?_)⟩
      obtain ⟨k, hk⟩ := List.getElem?_of_mem (List.mem_filter.mpr ⟨hw, g⟩)
      exact al9 k w (by rw [le]; exact (List.getElem?_eq_some_iff.mp hk).1) hk p hp
end
end PK

set_option linter.all false
set_option Elab.async false
set_option maxRecDepth 100000
set_option maxHeartbeats 4000000
/-! KM: useful. -/
namespace PK
open PySem PySem.Spec PyProof.Rows L2
def keyP : List L2.Key → Int × Int
  | [.inl a, .inl b] => (a, b)
  | _ => (0, 0)
theorem keyed_keys {kvs : List (List L2.Key × V)} {l : List Hm} (h : keyed kvs l) : ∀ p ∈ kvs, p.1 = [.inl (keyP p.1).1, .inl (keyP p.1).2] := fun p hp => by
  have hm : p.1 ∈ l.map hmK := by rw [← h]; exact List.mem_map.mpr ⟨p, hp, rfl⟩
  obtain ⟨x, _, e⟩ := List.mem_map.mp hm
  rw [← e]; rfl
theorem keys_hms {H : Hp} {kvs : List (List L2.Key × V)} {bs : List Addr} {l : List Hm} (h : IsKeys H kvs bs) (k : keyed kvs l) : HmsAt H (bs.map V.ref) l := by
  unfold IsKeys at h
  induction h generalizing l with
  | nil =>
    cases l with
    | nil => exact .nil
    | cons _ _ => cases k
  | @cons p b ps qs a t ih =>
    cases l with
    | nil => cases k
    | cons x r =>
      unfold keyed at k
      rw [List.map_cons, List.map_cons] at k
      injection k with k1 k2
      refine .cons ⟨b, rfl, ?_⟩ (ih k2)
      rw [hmV_K, ← k1]; exact a
def hmOf (k : V → Int × Int) (y : V) : Hm := ((k y).1.toNat, (k y).2.toNat)
theorem hm_of {H : Hp} {k : V → Int × Int} {y : V} {h : Hm} (a : HmAt H y h) (b : ∃ b, y = .ref b ∧ H b = some (.tup [.int (k y).1, .int (k y).2])) : k y = ((h.1 : Int), (h.2 : Int)) := by
  obtain ⟨c, rfl, e⟩ := a
  obtain ⟨d, e1, e2⟩ := b
  cases e1
  rw [e] at e2
  injection e2 with e2
  injection e2 with e2
  injection e2 with e3 e4
  injection e4 with e4
  injection e3 with e3
  injection e4 with e4
  exact Prod.ext e3.symm e4.symm
theorem hms_of {H : Hp} {k : V → Int × Int} {ys : List V} {l : List Hm} (a : HmsAt H ys l) (b : ∀ y ∈ ys, ∃ b, y = .ref b ∧ H b = some (.tup [.int (k y).1, .int (k y).2])) : ys.map (hmOf k) = l := by
  induction a with
  | nil => rfl
  | cons h t ih =>
    rw [List.map_cons, ih fun y hy => b y (List.mem_cons_of_mem _ hy)]
    have e := hm_of h (b _ List.mem_cons_self)
    unfold hmOf
    rw [e]; simp
/-- sorted: the homes, in order -/
theorem sorted_hms {H : Hp} {bs : List Addr} {l : List Hm} {k : V → Int × Int} {ys : List V} (hl : HmsAt H (bs.map V.ref) l) (nd : l.Nodup) (hb : ∀ b ∈ bs, H b = some (.tup [.int (k (.ref b)).1, .int (k (.ref b)).2])) (s : SrtO.Srtd (ltP k) ys) (p : ys.Perm (bs.map V.ref)) :
    ∃ l', HmsAt H ys l' ∧ l'.Pairwise ltH ∧ ∀ h, h ∈ l' ↔ h ∈ l := by
  have all : ∀ y ∈ bs.map V.ref, ∃ b, y = .ref b ∧ H b = some (.tup [.int (k y).1, .int (k y).2]) := fun y hy => by
    obtain ⟨b, m, rfl⟩ := List.mem_map.mp hy
    exact ⟨b, rfl, hb b m⟩
  have e := hms_of hl all
  have pm : (ys.map (hmOf k)).Perm l := by rw [← e]; exact p.map _
  have nat : ∀ y ∈ bs.map V.ref, HmAt H y (hmOf k y) := fun y hy => by
    obtain ⟨i, hi⟩ := List.getElem?_of_mem hy
    obtain ⟨h, _, ha⟩ := hl.get hi
    have := hm_of ha (all y hy)
    have e2 : hmOf k y = h := by unfold hmOf; rw [this]; simp
    rw [e2]; exact ha
  refine ⟨ys.map (hmOf k), ?_, ?_, fun h => pm.mem_iff⟩
  · have : ∀ zs : List V, (∀ z ∈ zs, z ∈ bs.map V.ref) → HmsAt H zs (zs.map (hmOf k)) := by
      intro zs
      induction zs with
      | nil => intro _; exact .nil
      | cons z r ih => intro hz; exact .cons (nat z (hz z List.mem_cons_self)) (ih fun y hy => hz y (List.mem_cons_of_mem _ hy))
    exact this ys fun z hz => p.mem_iff.mp hz
  · have nd2 : (ys.map (hmOf k)).Nodup := pm.nodup_iff.mpr nd
    rw [List.pairwise_map]
    have nd3 := List.pairwise_map.mp nd2
    refine List.Pairwise.imp_of_mem (fun {x y} hx hy hxy => ?_) (List.Pairwise.and s nd3)
    obtain ⟨h1, h2⟩ := hxy
    obtain ⟨bx, ex, _⟩ := all x (p.mem_iff.mp hx)
    have kx : ∀ z ∈ bs.map V.ref, k z = (((hmOf k z).1 : Int), ((hmOf k z).2 : Int)) := fun z hz => hm_of (nat z hz) (all z hz)
    have k1 := kx x (p.mem_iff.mp hx)
    have k2 := kx y (p.mem_iff.mp hy)
    have lx : SrtO.lexB (k y) (k x) = false := h1
    have nlt : ¬ ((k y).1 < (k x).1 ∨ ((k y).1 = (k x).1 ∧ (k y).2 < (k x).2)) := fun z => by
      rw [SrtO.lexB_iff.mpr z] at lx; cases lx
    rw [k1, k2] at nlt
    have nlt : ¬ ((((hmOf k y).1 : Nat) : Int) < ((hmOf k x).1 : Nat) ∨ ((((hmOf k y).1 : Nat) : Int) = ((hmOf k x).1 : Nat) ∧ (((hmOf k y).2 : Nat) : Int) < ((hmOf k x).2 : Nat))) := nlt
    have ne : ¬ ((hmOf k x).1 = (hmOf k y).1 ∧ (hmOf k x).2 = (hmOf k y).2) := fun z => h2 (Prod.ext z.1 z.2)
    unfold ltH
    omega
def spUseful (K : Fg) : Sp := fun vs H Q _ => ∃ (v : V) (p : Prog) (i : Nat) (x : Str), vs = [v, .str x] ∧ Dat K H v (progD p) ∧ Valid p ∧ p.heads[i]? = some x ∧ ∀ H' r l, Same H H' → Usf (ldOf p) i l → Dat K H' r (.tuple (l.map hmD)) → Q r H'
section
variable {P : Program} {w : World} {K : Fg} {mg : Str → Option Value} {base : Heap}
theorem ok_useful (T : Tp K mg) (F : Std K "useful" "useful" s_useful (He.ga K "useful")) (D_need_index : Dn P w K mg base 24 (He.ga K "need_index") ["program", "name"] (spIndex K))
    (D_Lot_init : Dn P w K mg base 61 (He.ma K (He.ga K "Lot") "__init__") ["self", "program"] (spLotInit K (He.ga K "Lot")))
    (D_Lot_useful : Dn P w K mg base 3 (He.ma K (He.ga K "Lot") "useful") ["self", "index"] (spLotUseful K (He.ga K "Lot"))) : DnK P w K mg base 63 (He.ga K "useful") ["program", "name"] ["name", "program"] (spUseful K) := by
  refine dn_mkK F sc_useful
    (fun _ _ _ _ _ _ us hl => match us, hl with | [_, _], _ => rfl)
    (fun _ _ _ _ _ _ ws hl => match ws, hl with | [_, _], _ => rfl) (fun vs H Q E h => ?_) fun cdv A outer s H vs Q E hr h => ?_
  · obtain ⟨v, p, i, x, rfl, _⟩ := h; rfl
  obtain ⟨v, p, i, x, rfl, hd, vp, hi, q⟩ := h
  refine ⟨_, (pss_cons (ps_set (i := 2) sc_useful.nd rfl (Or.inl rfl) (pe_f D_need_index (hr.mono (by omega)) T.g_need_index (pa_cons (pv 0) (pa_cons (pv 1) pa_nil))))
    (pss_one (ps_ret (pe_callTy (tupK (K := K) rfl) (by rfl) T.b_tuple (by decide +kernel) (pa_cons (pe_callB (cr_sortDT rfl) (by rfl) T.b_sorted (by decide +kernel) (pa_cons (pe_m D_Lot_useful (hr.mono (by omega)) (pe_mk D_Lot_init (hr.mono (by omega)) T.k_Lot T.g_Lot (pa_cons (pv 0) pa_nil)) T.cl_Lot T.m_Lot_useful (pa_cons (pv 2) pa_nil)) pa_nil)) pa_nil))))), ?_⟩
  refine ⟨_, rfl, _, rfl, v, p, i, x, rfl, hd, vp, hi, fun H1 s1 => ?_⟩
  refine ⟨_, rfl, fun me dx hme hdx hne => ?_⟩
  have sx := same_new hdx (.own me)
  have nme : (upd H1 dx (.own me)) me = none := by rw [upd_ne hne.symm]; exact hme
  have sy := same_new nme (.ins (He.ga K "Lot") dx [])
  generalize hH2 : upd (upd H1 dx (.own me)) me (.ins (He.ga K "Lot") dx []) = H2 at sy
  have e2 : H2 me = some (.ins (He.ga K "Lot") dx []) := by rw [← hH2]; exact upd_same
  have s12 := sx.trans sy
  refine ⟨me, dx, v, p, rfl, e2, hd.tk (tk_same (s1.trans s12)), vp, fun H3 vl ar ah k3 t3 lt => ⟨rfl, ?_⟩⟩
  have il : i < (ldOf p).length := by
    rw [ld_len]
    have := (List.getElem?_eq_some_iff.mp hi).1
    simpa using this
  refine ⟨me, dx, _, rfl, lt.ob, lot_no _ _ _ (by decide +kernel) (by decide +kernel) (by decide +kernel), _, rfl, me, dx, vl, ar, ah, ldOf p, i, rfl, lt, il, fun H4 d kvs l s4 ed kk nd hm => ?_⟩
  refine ⟨d, kvs, keyP, rfl, ed, keyed_keys kk, fun bs k ys lp hk hb hs hst hlp => ?_⟩
  obtain ⟨l', h1, h2, h3⟩ := sorted_hms (keys_hms hk kk) nd hb hs hst.perm
  refine ⟨lp, ys, rfl, .inl ⟨SqL.of upd_same, fun r hr => ?_⟩⟩
  have s5 := same_new hlp (.lst ys)
  have s6 := same_new hr (.tup ys)
  have s56 := s5.trans s6
  refine q _ _ l' (fun b o e => s56 _ _ (s4 _ _ (k3 _ _ (s12 _ _ (s1 _ _ e)) ?_))) ⟨h2, fun h => (h3 h).trans (hm h)⟩ (.tup (SqT.of upd_same) (dats_hms (h1.tk (tk_same s56))))
  have h1 := s1 _ _ e
  have : b ≠ me := ne_of_none h1 hme
  simpa using this
end
end PK

set_option linter.all false
set_option Elab.async false
set_option maxRecDepth 100000
set_option maxHeartbeats 4000000
/-! KG: the law's own ways and homes. -/
namespace PK
open PySem PySem.Spec PyProof.Rows L2
/-- the laid program as the law has it: lists -/
def LvAt (K : Fg) (H : Hp) (v : V) (ld : Ld) : Prop := ∃ a xs, v = .ref a ∧ H a = some (.lst xs) ∧ xs.length = ld.length ∧ ∀ q, q < ld.length → ∃ b c ys, xs[q]? = some (.ref b) ∧ SqT K H b [.int (begL ld q : Nat), .ref c] ∧ H c = some (.lst ys) ∧ Dats K H ys ((plsL ld q).map plD)
theorem LvAt.same {K : Fg} {H H' : Hp} {v : V} {ld : Ld} (h : LvAt K H v ld) (s : Same H H') : LvAt K H' v ld := by
  obtain ⟨a, xs, rfl, h1, h2, h3⟩ := h
  refine ⟨a, xs, rfl, s _ _ h1, h2, fun q hq => ?_⟩
  obtain ⟨b, c, ys, k1, k2, k3, k4⟩ := h3 q hq
  exact ⟨b, c, ys, k1, (tk_same s).seq k2, s _ _ k3, k4.tk (tk_same s)⟩
def spLWays (K : Fg) : Sp := fun vs H Q _ => ∃ (v y : V) (ld : Ld) (h : Hm), vs = [v, y] ∧ LvAt K H v ld ∧ LdOk ld ∧ HmAt H y h ∧ h ∈ homesL ld ∧
  ∀ H' a xs, H a = none → Same H H' → H' a = some (.lst xs) → WaysAt H' xs (waysL ld h) → Q (.ref a) H'
def spLHomes (K : Fg) : Sp := fun vs H Q _ => ∃ (v : V) (ld : Ld), vs = [v] ∧ LvAt K H v ld ∧ LdOk ld ∧ ∀ H' a xs, H a = none → Same H H' → H' a = some (.lst xs) → HmsAt H' xs (homesL ld) → Q (.ref a) H'
def spLUsers (K : Fg) : Sp := fun vs H Q _ => ∃ (v : V) (ld : Ld), vs = [v] ∧ LvAt K H v ld ∧ LdOk ld ∧ ∀ H' du, H du = none → Same H H' → UsersAt (fun b => H b ≠ none) H' du (occL ld) → Q (.ref du) H'
/-- one more use, a home that stands there -/
theorem use_old {S : Addr → Prop} {H : Hp} {du l0 l : Addr} {o : List (Hm × Hm)} {kvs : List (List L2.Key × V)} {xs : List V} {part home : Hm} {y : V} (hu : UsersAt S H du o) (hS : ∀ b, S b → H b ≠ none) (hk : H du = some (.dT kvs)) (hv : valV kvs (hmK part) = some (.ref l)) (hl : H l = some (.lst xs))
    (h0 : H l0 = none) (hy : HmAt H y home) (H3 : Hp) (e3 : H3 = upd (upd H l0 (.lst [])) l (.lst (xs ++ [y]))) :
    (∀ b ob, S b → b ≠ du → H b = some ob → H3 b = some ob) ∧ Tk H H3 ∧ UsersAt S H3 du (o ++ [(part, home)]) := by
  obtain ⟨kvs', k1, k2, k3, k4, k5⟩ := hu
  rw [hk] at k1
  cases k1
  obtain ⟨l', xs', el, hSl, hl', hh⟩ := k4 part _ hv
  cases el
  rw [hl] at hl'
  cases hl'
  have s0 := same_new h0 (.lst [])
  have nSb : ∀ b, S b → b ≠ l := fun b hb e => hSl (by rw [← e]; exact hb)
  have t3 : Tk (upd H l0 (.lst [])) H3 := by rw [e3]; exact tk_lst (s0 _ _ hl)
  have t03 : Tk H H3 := (tk_same s0).trans t3
  have ndl : du ≠ l := ne_of hk hl nofun
  refine ⟨fun b ob hb _ e => by rw [e3, upd_ne (nSb b hb)]; exact s0 _ _ e, t03, ⟨kvs, by rw [e3, upd_ne ndl]; exact s0 _ _ hk, by rw [List.length_append]; omega, fun k e => ?_, fun k v e => ?_, k5⟩⟩
  · rw [usersO_append, k3 k e, usersO_one]
    have : part ≠ k := fun z => by rw [z, e] at hv; cases hv
    simp [this]
  · obtain ⟨m, ys, rfl, q1, q2, q3⟩ := k4 k v e
    by_cases em : m = l
    · subst em
      have : k = part := k5 k part _ e hv
      subst this
      rw [hl] at q2
      cases q2
      refine ⟨m, _, rfl, q1, by rw [e3]; exact upd_same, ?_⟩
      rw [usersO_append, usersO_one, if_pos rfl]
      exact (q3.tk t03).snoc (hy.tk t03)
    · refine ⟨m, ys, rfl, q1, by rw [e3, upd_ne em]; exact s0 _ _ q2, ?_⟩
      have : part ≠ k := fun z => by
        subst z
        rw [hv] at e
        cases e
        exact em rfl
      rw [usersO_append, usersO_one, if_neg this, List.append_nil]
      exact q3.tk t03
theorem use_new {S : Addr → Prop} {H : Hp} {du l0 : Addr} {o : List (Hm × Hm)} {kvs : List (List L2.Key × V)} {part home : Hm} {y : V} (hu : UsersAt S H du o) (hS : ∀ b, S b → H b ≠ none) (hk : H du = some (.dT kvs)) (hv : valV kvs (hmK part) = none)
    (h0 : H l0 = none) (hy : HmAt H y home) (H3 : Hp) (e3 : H3 = upd (upd (upd H l0 (.lst [])) du (.dT (putK kvs (hmK part) (.ref l0)))) l0 (.lst [y])) :
    (∀ b ob, S b → b ≠ du → H b = some ob → H3 b = some ob) ∧ Tk H H3 ∧ UsersAt S H3 du (o ++ [(part, home)]) := by
  obtain ⟨kvs', k1, k2, k3, k4, k5⟩ := hu
  rw [hk] at k1
  cases k1
  have ndl : du ≠ l0 := ne_of_none hk h0
  have at3 : ∀ b, b ≠ du → b ≠ l0 → H3 b = H b := fun b a1 a2 => by rw [e3, upd_ne a2, upd_ne a1, upd_ne a2]
  have keep : ∀ b ob, b ≠ du → H b = some ob → H3 b = some ob := fun b ob hb e => by rw [at3 b hb (ne_of_none e h0)]; exact e
  have hdu : H3 du = some (.dT (putK kvs (hmK part) (.ref l0))) := by rw [e3, upd_ne ndl, upd_same]
  have hl0 : H3 l0 = some (.lst [y]) := by rw [e3, upd_same]
  have t03 : Tk H H3 := ⟨fun a ys e => keep a _ (ne_of e hk nofun) e, fun a ob u e => keep a _ (ne_of e hk nofun) e⟩
  have hS0 : ¬ S l0 := fun z => hS l0 z h0
  refine ⟨fun b ob _ hb e => keep b ob hb e, t03, ⟨_, hdu, ?_, fun k e => ?_, fun k v e => ?_, fun a b v ea eb => ?_⟩⟩
  · rw [List.length_append]
    have := length_putK kvs (hmK part) (V.ref l0)
    simp only [List.length_singleton]
    omega
  · rw [valV_put] at e
    by_cases ek : k = part
    · rw [if_pos (by rw [ek])] at e; cases e
    · rw [if_neg (fun z => ek (hmK_inj z))] at e
      rw [usersO_append, k3 k e, usersO_one, if_neg (fun z => ek z.symm)]; rfl
  · rw [valV_put] at e
    by_cases ek : k = part
    · rw [if_pos (by rw [ek])] at e
      cases e
      subst ek
      refine ⟨l0, _, rfl, hS0, hl0, ?_⟩
      rw [usersO_append, k3 k hv, usersO_one, if_pos rfl]
      exact .cons (hy.tk t03) .nil
    · rw [if_neg (fun z => ek (hmK_inj z))] at e
      obtain ⟨m, ys, rfl, q1, q2, q3⟩ := k4 k v e
      refine ⟨m, ys, rfl, q1, keep m _ (ne_of q2 hk nofun) q2, ?_⟩
      rw [usersO_append, usersO_one, if_neg (fun z => ek z.symm), List.append_nil]
      exact q3.tk t03
  · have off : ∀ (c : Hm), valV kvs (hmK c) = some (.ref l0) → False := fun c ec => by
      obtain ⟨m, ys, e, q1, q2, _⟩ := k4 c _ ec
      cases e
      rw [h0] at q2; cases q2
    rw [valV_put] at ea eb
    by_cases e1 : a = part <;> by_cases e2 : b = part
    · rw [e1, e2]
    · rw [if_pos (by rw [e1])] at ea
      rw [if_neg (fun z => e2 (hmK_inj z))] at eb
      cases ea
      exact (off b eb).elim
    · rw [if_neg (fun z => e1 (hmK_inj z))] at ea
      rw [if_pos (by rw [e2])] at eb
      cases eb
      exact (off a ea).elim
    · rw [if_neg (fun z => e1 (hmK_inj z))] at ea
      rw [if_neg (fun z => e2 (hmK_inj z))] at eb
      exact k5 a b v ea eb
theorem occ_pre2 {ld : Ld} (ok : LdOk ld) {h : Hm} {k j m : Nat} {w : List Hm} (wl : w.length ≤ 2) : (((((homesL ld).take k).flatMap fun h => occH ld h) ++ ((waysL ld h).take j).flatMap fun w => w.map fun part => (part, h)) ++ (w.take m).map fun part => (part, h)).length ≤ 100000 := by
  have h1 := sum_flat (fun h => occH ld h) 8 ((homesL ld).take k) fun h _ => way_parts ok h
  have h3 := sum_flat (fun w : List Hm => w.map fun part => (part, h)) 2 ((waysL ld h).take j) fun w hw => by
    rw [List.length_map]; exact way_len (List.mem_of_mem_take hw)
  have h4 := ways_few ok h
  have h5 := homes_len ok
  rw [List.length_take] at h1 h3
  rw [List.length_append, List.length_append, List.length_map, List.length_take]
  omega
section
variable {P : Program} {w : World} {K : Fg} {mg : Str → Option Value} {base : Heap}
theorem ok_Lways (T : Tp K mg) (F : Std K "_law_ways" "_law_ways" s_Lways (He.ga K "_law_ways")) : Dn P w K mg base 1 (He.ga K "_law_ways") ["laid_v", "home"] (spLWays K) := by
  refine dn_mk F sc_Lways
    (fun _ _ _ _ _ _ us hl => match us, hl with | [_, _], _ => rfl)
    (fun vs H Q E h => ?_) fun cdv A outer s H vs Q E hr h => ?_
  · obtain ⟨v, y, ld, h, rfl, _⟩ := h; rfl
  obtain ⟨v, y, ld, ⟨c, i⟩, rfl, ⟨al, ls, rfl, hL, hLl, hg⟩, ok, ⟨hb, rfl, hh⟩, hm, q⟩ := h
  obtain ⟨m1, m2⟩ := mem_homes.mp hm
  obtain ⟨b, cc, ys, hx, hB, hC, hD⟩ := hg c m1
  obtain ⟨y, hy, hyd⟩ : ∃ y, ys[i]? = some y ∧ Dat K H y (plD ((plsL ld c)[i]'m2)) := hD.got (by rw [List.getElem?_map, List.getElem?_eq_getElem m2]; rfl)
  have ew : waysL ld (c, i) = wayP ld c ((plsL ld c)[i]'m2) := by unfold waysL; rw [List.getElem?_eq_getElem m2]
  refine ⟨_, (pss_cons (ps_set (i := 2) sc_Lways.nd rfl (Or.inl rfl) (pe_ix (ixK (K := K) rfl) (pe_ix (ixK (K := K) rfl) (pe_ix (ixK (K := K) rfl) (pv 0) (pe_ix (ixK (K := K) rfl) (pv 1) pe_int (fun _ _ => rfl)) (fun _ _ => rfl)) pe_int (fun _ _ => rfl)) (pe_ix (ixK (K := K) rfl) (pv 1) pe_int (fun _ _ => rfl)) (fun _ _ => rfl)))
    (pss_cons (ps_if (pt_cmpR (oEqK (K := K) rfl (hu64 hr)) (pe_ix (ixK (K := K) rfl) (pv 2) pe_int (fun _ _ => rfl)) pe_str (nomark _)) (pss_one (ps_ret (pe_lc (own := [("one", 3)]) (tt := tYes) rfl sc_Lways.nd (iTupK (K := K) rfl (pe_ix (ixK (K := K) rfl) (pv 2) pe_int (fun _ _ => rfl))) (blkOk_by (N := N_Lways) (sc := defScope s_Lways) (own := [("one", 3)]) (by decide +kernel)) (fun _ _ _ _ _ => (pg_name (i := 3) sc_Lways.nd rfl (Or.inl rfl))) (fun _ _ _ _ _ => pts_nil) (fun _ _ _ _ _ => (pe_tup (pa_cons (pe_tup (pa_cons (pe_ix (ixK (K := K) rfl) (pv 1) pe_int (fun _ _ => rfl)) (pa_cons (pv 3) pa_nil))) pa_nil)))))) pss_nil)
    (pss_cons (ps_if (pt_cmpR (oEqK (K := K) rfl (hu64 hr)) (pe_ix (ixK (K := K) rfl) (pv 2) pe_int (fun _ _ => rfl)) pe_str (nomark _)) (pss_one (ps_ret (pe_lst (pa_cons (pe_tup (pa_cons (pe_tup (pa_cons (pe_ix (ixK (K := K) rfl) (pv 2) pe_int (fun _ _ => rfl)) (pa_cons (pe_ix (ixK (K := K) rfl) (pe_ix (ixK (K := K) rfl) (pv 0) (pe_ix (ixK (K := K) rfl) (pv 2) pe_int (fun _ _ => rfl)) (fun _ _ => rfl)) pe_int (fun _ _ => rfl)) pa_nil))) (pa_cons (pe_tup (pa_cons (pe_ix (ixK (K := K) rfl) (pv 1) pe_int (fun _ _ => rfl)) (pa_cons (pe_ix (ixK (K := K) rfl) (pv 2) pe_int (fun _ _ => rfl)) pa_nil))) pa_nil))) pa_nil)))) pss_nil)
    (pss_one (ps_ret (pe_ifExp (pt_cmpR (oEqK (K := K) rfl (hu64 hr)) (pe_ix (ixK (K := K) rfl) (pv 2) pe_int (fun _ _ => rfl)) pe_str (nomark _)) (pe_lst (pa_cons (pe_tup (pa_cons (pe_tup (pa_cons (pe_ix (ixK (K := K) rfl) (pv 1) pe_int (fun _ _ => rfl)) (pa_cons (pe_ix (ixK (K := K) rfl) (pv 2) pe_int (fun _ _ => rfl)) pa_nil))) pa_nil)) pa_nil)) (pe_lst (pa_cons (pe_tup pa_nil) pa_nil)))))))), ?_⟩
  refine ⟨_, rfl, _, rfl, .inr (.inl ⟨hb, _, 0, _, rfl, rfl, SqT.of hh, atI_nat (j := 0) rfl, .inl ⟨al, _, c, _, rfl, rfl, SqL.of hL, atI_nat hx, .inr (.inl ⟨b, _, 1, _, rfl, rfl, hB, atI_nat (j := 1) rfl, _, rfl, .inr (.inl ⟨hb, _, 1, _, rfl, rfl, SqT.of hh, atI_nat (j := 1) rfl, .inl ⟨cc, _, i, _, rfl, rfl, SqL.of hC, atI_nat hy, ?_⟩⟩)⟩)⟩⟩)⟩
  generalize hp : (plsL ld c)[i]'m2 = p at hyd ew
  have free : ∀ {H1 : Hp} {l : Addr}, Same H H1 → H1 l = none → H l = none := fun s e => by
    rcases q0 : H _ with _ | o
    · rfl
    · rw [s _ _ q0] at e; cases e
  cases p with
  | fin =>
    obtain ⟨d, zs, rfl, hZ, hZd⟩ := hyd.inv_tup
    obtain ⟨z, zs, rfl, h3, h4⟩ := hZd.inv_cons
    cases h4.inv_nil
    rw [h3.inv_str] at hZ
    refine ⟨_, rfl, .inr (.inl ⟨d, _, 0, _, rfl, rfl, hZ, atI_nat (j := 0) rfl, .inl ⟨rfl, _, rfl, iff' (by decide +kernel) ?_⟩⟩)⟩
    refine ⟨_, rfl, .inr (.inl ⟨d, _, 0, _, rfl, rfl, hZ, atI_nat (j := 0) rfl, .inl ⟨rfl, _, rfl, iff' (by decide +kernel) ?_⟩⟩)⟩
    refine ⟨_, rfl, .inr (.inl ⟨d, _, 0, _, rfl, rfl, hZ, atI_nat (j := 0) rfl, .inl ⟨rfl, _, rfl, iff' (by decide +kernel) ?_⟩⟩)⟩
    refine ⟨Nat.zero_le _, fun t ht => ⟨(by show 1 ≤ sizeLine; decide), fun l hl2 => ?_⟩⟩
    have s1 := same_new ht (.tup [])
    have s2 := same_new hl2 (.lst [.ref t])
    exact q _ l _ (free s1 hl2) (s1.trans s2) upd_same (by rw [ew]; exact .cons ⟨t, [], rfl, s2 _ _ upd_same, .nil⟩ .nil)
  | fork ns =>
    obtain ⟨d, zs, rfl, hZ, hZd⟩ := hyd.inv_tup
    obtain ⟨z, zs, rfl, h3, h4⟩ := hZd.inv_cons
    obtain ⟨z2, zs, rfl, h5, h6⟩ := h4.inv_cons
    cases h6.inv_nil
    rw [h3.inv_str] at hZ
    obtain ⟨f, fs, rfl, hF, hFd⟩ := h5.inv_tup
    refine ⟨_, rfl, .inr (.inl ⟨d, _, 0, _, rfl, rfl, hZ, atI_nat (j := 0) rfl, .inl ⟨rfl, _, rfl, ift (by decide +kernel) ?_⟩⟩)⟩
    refine ⟨_, rfl, .inr (.inl ⟨d, _, 1, _, rfl, rfl, hZ, atI_nat (j := 1) rfl, f, rfl, ⟨_, hF⟩, fun D nD => lc_acc walk_tup [] (fun i acc H' => WaysAt H' acc ((ns.take i).map fun n => [(c, n)])) nD (fun _ _ H1 _ t _ => t.seq hF) (fun _ _ _ _ _ _ hD p => p.tk (tk_lst hD)) .nil ?_ (by simp) ?_ ?_⟩)⟩
    · have : fs.length = ns.length := by rw [hFd.length, List.length_map]
      rw [this]
      have := ok.fork c i ns (by rw [List.getElem?_eq_getElem m2, hp])
      exact Nat.lt_of_le_of_lt this (by decide)
    · rintro j y acc H3 H3' hj k t hD2 hl2 pw ⟨rfl, hy2⟩ N E1 hN _
      obtain ⟨n, hn, hnd⟩ := dats_at (f := natD) hFd hy2
      rw [hnd.inv_int]
      refine ⟨rfl, tyes ⟨_, rfl, .inr (.inl ⟨hb, _, 0, _, rfl, rfl, SqT.of (t.t _ _ hh), atI_nat (j := 0) rfl, _, rfl, (by show 2 ≤ sizeLine; decide), fun t1 ht1 => ⟨(by show 1 ≤ sizeLine; decide), fun t2 ht2 => ?_⟩⟩)⟩⟩
      have s1 := same_new ht1 (.tup [.int (c : Nat), .int (n : Nat)])
      have s2 := same_new ht2 (.tup [.ref t1])
      refine hN _ _ (.of (s1.trans s2)) (tk_same (s1.trans s2)) ?_
      rw [take_snoc hn, List.map_append]
      exact (pw.tk (tk_same (s1.trans s2))).snoc ⟨t2, _, rfl, upd_same, .cons ⟨t1, rfl, s2 _ _ upd_same⟩ .nil⟩
    · rintro H3 acc k t hD2 _ pw
      have e : ns.take fs.length = ns := by rw [hFd.length, List.length_map, List.take_length]
      rw [e] at pw
      exact q H3 D acc nD (Kp.nil k) hD2 (by rw [ew]; exact pw)
  | call p2 n =>
    obtain ⟨d, zs, rfl, hZ, hZd⟩ := hyd.inv_tup
    obtain ⟨z, zs, rfl, h3, h4⟩ := hZd.inv_cons
    obtain ⟨z2, zs, rfl, h5, h6⟩ := h4.inv_cons
    obtain ⟨z3, zs, rfl, h7, h8⟩ := h6.inv_cons
    cases h8.inv_nil
    rw [h3.inv_str, h5.inv_int, h7.inv_int] at hZ
    have hp2 := ok.call c i p2 n (by rw [List.getElem?_eq_getElem m2, hp])
    obtain ⟨b2, c2, ys2, hx2, hB2, _, _⟩ := hg p2 hp2
    refine ⟨_, rfl, .inr (.inl ⟨d, _, 0, _, rfl, rfl, hZ, atI_nat (j := 0) rfl, .inl ⟨rfl, _, rfl, iff' (by decide +kernel) ?_⟩⟩)⟩
    refine ⟨_, rfl, .inr (.inl ⟨d, _, 0, _, rfl, rfl, hZ, atI_nat (j := 0) rfl, .inl ⟨rfl, _, rfl, ift (by decide +kernel) ?_⟩⟩)⟩
    refine ⟨_, rfl, .inr (.inl ⟨d, _, 1, _, rfl, rfl, hZ, atI_nat (j := 1) rfl, _, rfl, _, rfl, .inr (.inl ⟨d, _, 1, _, rfl, rfl, hZ, atI_nat (j := 1) rfl, .inl ⟨al, _, p2, _, rfl, rfl, SqL.of hL, atI_nat hx2, .inr (.inl ⟨b2, _, 0, _, rfl, rfl, hB2, atI_nat (j := 0) rfl, ?_⟩)⟩⟩)⟩)⟩
    refine ⟨(by show 2 ≤ sizeLine; decide), fun t1 ht1 => ?_⟩
    have s1 := same_new ht1 (.tup [.int (p2 : Nat), .int (begL ld p2 : Nat)])
    have tk1 := tk_same s1
    refine ⟨_, rfl, .inr (.inl ⟨hb, _, 0, _, rfl, rfl, SqT.of (s1 _ _ hh), atI_nat (j := 0) rfl, _, rfl, .inr (.inl ⟨d, _, 2, _, rfl, rfl, tk1.seq hZ, atI_nat (j := 2) rfl, (by show 2 ≤ sizeLine; decide), fun t2 ht2 => ⟨(by show 2 ≤ sizeLine; decide), fun t3 ht3 => ⟨(by show 1 ≤ sizeLine; decide), fun l hl2 => ?_⟩⟩⟩)⟩)⟩
    have s2 := same_new ht2 (.tup [.int (c : Nat), .int (n : Nat)])
    have s3 := same_new ht3 (.tup [.ref t1, .ref t2])
    have s4 := same_new hl2 (.lst [.ref t3])
    have s123 := s1.trans (s2.trans s3)
    exact q _ l _ (free s123 hl2) (s123.trans s4) upd_same (by rw [ew]; exact .cons ⟨t3, _, rfl, s4 _ _ upd_same, .cons ⟨t1, rfl, s4 _ _ (s3 _ _ (s2 _ _ upd_same))⟩ (.cons ⟨t2, rfl, s4 _ _ (s3 _ _ upd_same)⟩ .nil)⟩ .nil)
  | ltr x n =>
    obtain ⟨d, zs, rfl, hZ, hZd⟩ := hyd.inv_tup
    obtain ⟨z, zs, rfl, h3, h4⟩ := hZd.inv_cons
    obtain ⟨z2, zs, rfl, h5, h6⟩ := h4.inv_cons
    obtain ⟨z3, zs, rfl, h7, h8⟩ := h6.inv_cons
    cases h8.inv_nil
    rw [h3.inv_str, h5.inv_int, h7.inv_int] at hZ
    refine ⟨_, rfl, .inr (.inl ⟨d, _, 0, _, rfl, rfl, hZ, atI_nat (j := 0) rfl, .inl ⟨rfl, _, rfl, iff' (by decide +kernel) ?_⟩⟩)⟩
    refine ⟨_, rfl, .inr (.inl ⟨d, _, 0, _, rfl, rfl, hZ, atI_nat (j := 0) rfl, .inl ⟨rfl, _, rfl, iff' (by decide +kernel) ?_⟩⟩)⟩
    refine ⟨_, rfl, .inr (.inl ⟨d, _, 0, _, rfl, rfl, hZ, atI_nat (j := 0) rfl, .inl ⟨rfl, _, rfl, ift (by decide +kernel) ?_⟩⟩)⟩
    refine ⟨_, rfl, .inr (.inl ⟨hb, _, 0, _, rfl, rfl, SqT.of hh, atI_nat (j := 0) rfl, _, rfl, .inr (.inl ⟨d, _, 2, _, rfl, rfl, hZ, atI_nat (j := 2) rfl, (by show 2 ≤ sizeLine; decide), fun t2 ht2 => ⟨(by show 1 ≤ sizeLine; decide), fun t3 ht3 => ⟨(by show 1 ≤ sizeLine; decide), fun l hl2 => ?_⟩⟩⟩)⟩)⟩
    have s2 := same_new ht2 (.tup [.int (c : Nat), .int (n : Nat)])
    have s3 := same_new ht3 (.tup [.ref t2])
    have s4 := same_new hl2 (.lst [.ref t3])
    have s123 := s2.trans s3
    exact q _ l _ (free s123 hl2) (s123.trans s4) upd_same (by rw [ew]; exact .cons ⟨t3, _, rfl, s4 _ _ upd_same, .cons ⟨t2, rfl, s4 _ _ (s3 _ _ upd_same)⟩ .nil⟩ .nil)
theorem ok_Lhomes (T : Tp K mg) (F : Std K "_law_homes" "_law_homes" s_Lhomes (He.ga K "_law_homes")) : Dn P w K mg base 1 (He.ga K "_law_homes") ["laid_v"] (spLHomes K) := by
  refine dn_mk F sc_Lhomes
    (fun _ _ _ _ _ _ us hl => match us, hl with | [_], _ => rfl)
    (fun vs H Q E h => ?_) fun cdv A outer s H vs Q E hr h => ?_
  · obtain ⟨v, ld, rfl, _⟩ := h; rfl
  obtain ⟨v, ld, rfl, lv, ok, q⟩ := h
  refine ⟨_, (pss_cons (ps_set (i := 1) sc_Lhomes.nd rfl (Or.inl rfl) (pe_lst pa_nil))
    (pss_cons (ps_for PassesOwn.never rfl (pi_range1 rfl T.b_range (pa_cons (pe_callB (cLenK (K := K) rfl) (by rfl) T.b_len PySem.boot_len (pa_cons (pv 0) pa_nil)) pa_nil)) (pg_name (i := 2) sc_Lhomes.nd rfl (Or.inr rfl)) (pss_one (ps_expr (pe_bm PySem.F.plainAttrs_list PySem.F.slot_list_extend PySem.F.type_list_extend mt_extend (pv 1) (pa_cons (pe_lc (own := [("place", 3)]) (tt := tYes) rfl sc_Lhomes.nd (pi_range1 rfl T.b_range (pa_cons (pe_callB (cLenK (K := K) rfl) (by rfl) T.b_len PySem.boot_len (pa_cons (pe_ix (ixK (K := K) rfl) (pe_ix (ixK (K := K) rfl) (pv 0) (pv 2) (fun _ _ => rfl)) pe_int (fun _ _ => rfl)) pa_nil)) pa_nil)) (blkOk_by (N := N_Lhomes) (sc := defScope s_Lhomes) (own := [("place", 3)]) (by decide +kernel)) (fun _ _ _ _ _ => (pg_name (i := 3) sc_Lhomes.nd rfl (Or.inl rfl))) (fun _ _ _ _ _ => pts_nil) (fun _ _ _ _ _ => (pe_tup (pa_cons (pv 2) (pa_cons (pv 3) pa_nil))))) pa_nil)))))
    (pss_one (ps_ret (pv 1))))), ?_⟩
  refine ⟨Nat.zero_le _, fun lf hlf => ?_⟩
  have s1 := same_new hlf (.lst [])
  generalize hH1 : upd H lf (.lst []) = H1 at s1
  have ef : H1 lf = some (.lst []) := by rw [← hH1]; exact upd_same
  have back : ∀ H', Kp [lf] H1 H' → Same H H' := fun H' k b o e => k _ _ (s1 _ _ e) (by simpa using ne_of_none e hlf)
  obtain ⟨al, ls, rfl, hL, hLl, hg⟩ := lv
  have n40 := ok.n
  have kept : ∀ H' : Hp, Kp [lf] H1 H' → H' al = some (.lst ls) ∧ ∀ q, q < ld.length → ∃ b c ys, ls[q]? = some (.ref b) ∧ SqT K H' b [.int (begL ld q : Nat), .ref c] ∧ H' c = some (.lst ys) ∧ ys.length = (plsL ld q).length := fun H' k => by
    have b0 := back H' k
    refine ⟨b0 _ _ hL, fun q hq => ?_⟩
    obtain ⟨b, c, ys, k1, k2, k3, k4⟩ := hg q hq
    exact ⟨b, c, ys, k1, (tk_same b0).seq k2, b0 _ _ k3, by rw [k4.length, List.length_map]⟩
  refine ⟨_, rfl, _, _, rfl, .inl ⟨_, SqL.of (s1 _ _ hL), rfl⟩, _, rfl, by omega, by omega, for_it (walk_range (lo := 0)) (fun k σ H' => ∃ (xs : List V) (v2 : Option V), σ = [some (.ref al), some (.ref lf), v2, none] ∧ Kp [lf] H1 H' ∧ H' lf = some (.lst xs) ∧ HmsAt H' xs ((List.range k).flatMap fun k => (List.range (plsL ld k).length).map fun i => ((k, i) : Hm)))
    ⟨[], none, rfl, .refl _ _, ef, .nil⟩ (fun _ _ _ _ _ => trivial) ?_ ?_⟩
  · rintro k z σ H20 H2 hk ⟨xs, v2, rfl, k2, e2, p2⟩ ⟨rfl, hz⟩
    rw [Int.toNat_natCast, hLl] at hk
    have hz : z = V.int ((k : Nat) : Int) := by rw [hz]; show V.int (0 + (k : Int)) = _; rw [Int.zero_add]
    subst hz
    obtain ⟨e2a, g2⟩ := kept H2 k2
    obtain ⟨b, c, ys, hx, hB, hC, hl⟩ := g2 k hk
    have yl := (ok.len k hk).2
    have xl := p2.len
    have sl := sum_flat (fun k => (List.range (plsL ld k).length).map fun i => ((k, i) : Hm)) 300 (List.range k) fun k' hk' => by
      rw [List.length_map, List.length_range]
      exact (ok.len k' (Nat.lt_trans (List.mem_range.mp hk') hk)).2
    rw [List.length_range] at sl
    refine ⟨_, rfl, .inl ⟨rfl, _, SqL.of e2⟩, _, rfl, _, rfl, .inl ⟨al, _, k, _, rfl, rfl, SqL.of e2a, atI_nat hx, .inr (.inl ⟨b, _, 1, _, rfl, rfl, hB, atI_nat (j := 1) rfl, _, _, rfl, .inl ⟨_, SqL.of hC, rfl⟩, _, rfl, by omega, by omega, fun D nD => lc_acc (walk_range (lo := 0)) [] (fun j acc H' => HmsAt H' acc ((List.range j).map fun i => ((k, i) : Hm))) nD (fun _ _ _ _ _ _ => trivial) (fun _ _ _ _ _ _ hD p => p.tk (tk_lst hD)) .nil ?_ (by simp) ?_ ?_⟩)⟩⟩
    · rw [Int.toNat_natCast, hl]; exact Nat.lt_of_le_of_lt yl (by decide)
    · rintro j y acc H3 H3' hj kp tk hD hl2 pw ⟨rfl, hy⟩ N E1 hN _
      have hy : y = V.int ((j : Nat) : Int) := by rw [hy]; show V.int (0 + (j : Int)) = _; rw [Int.zero_add]
      subst hy
      refine ⟨rfl, tyes ⟨_, rfl, _, rfl, (by show 2 ≤ sizeLine; decide), fun t1 ht1 => ?_⟩⟩
      have s3 := same_new ht1 (.tup [.int (k : Nat), .int (j : Nat)])
      refine hN _ _ (.of s3) (tk_same s3) ?_
      rw [List.range_succ, List.map_append]
      exact (pw.tk (tk_same s3)).snoc ⟨t1, rfl, upd_same⟩
    · rintro H3 acc kp tk hD la pw
      rw [Int.toNat_natCast, hl] at pw
      have s3 := Kp.nil kp
      have e3 := s3 _ _ e2
      have t4 := tk_lst (o' := .lst (xs ++ acc)) e3
      have al2 := pw.len
      rw [List.length_map, List.length_range] at al2
      have sz : 20000 ≤ sizeLine := by decide
      refine ⟨lf, D, xs, acc, rfl, rfl, e3, hD, by omega, xs ++ acc, _, rfl, k2.trans ((Kp.of s3).trans (kp_upd (by simp) _)), upd_same, ?_⟩
      rw [range_flat]
      exact ((p2.tk (tk_same s3)).tk t4).append (pw.tk t4)
  · rintro σ H2 ⟨xs, v2, rfl, k2, e2, p2⟩
    rw [Int.toNat_natCast, hLl] at p2
    exact ⟨_, rfl, q H2 lf xs hlf (back H2 k2) e2 p2⟩
theorem ok_Lusers (T : Tp K mg) (F : Std K "_law_users" "_law_users" s_Lusers (He.ga K "_law_users")) (D_Lhomes : Dn P w K mg base 1 (He.ga K "_law_homes") ["laid_v"] (spLHomes K)) (D_Lways : Dn P w K mg base 1 (He.ga K "_law_ways") ["laid_v", "home"] (spLWays K)) :
    Dn P w K mg base 2 (He.ga K "_law_users") ["laid_v"] (spLUsers K) := by
  refine dn_mk F sc_Lusers
    (fun _ _ _ _ _ _ us hl => match us, hl with | [_], _ => rfl)
    (fun vs H Q E h => ?_) fun cdv A outer s H vs Q E hr h => ?_
  · obtain ⟨v, ld, rfl, _⟩ := h; rfl
  obtain ⟨v, ld, rfl, lv, ok, q⟩ := h
  have hu := hu_of hr
  refine ⟨_, (pss_cons (ps_set (i := 1) sc_Lusers.nd rfl (Or.inl rfl) pe_dnewT)
    (pss_cons (ps_for PassesOwn.never rfl (iLstK (K := K) rfl (pe_f D_Lhomes (hr.mono (by omega)) T.g__law_homes (pa_cons (pv 0) pa_nil))) (pg_name (i := 2) sc_Lusers.nd rfl (Or.inl rfl)) (pss_one (ps_for PassesOwn.never rfl (iLstK (K := K) rfl (pe_f D_Lways (hr.mono (by omega)) T.g__law_ways (pa_cons (pv 0) (pa_cons (pv 2) pa_nil)))) (pg_name (i := 3) sc_Lusers.nd rfl (Or.inl rfl)) (pss_one (ps_for PassesOwn.never rfl (iTupK (K := K) rfl (pv 3)) (pg_name (i := 4) sc_Lusers.nd rfl (Or.inl rfl)) (pss_cons (ps_set (i := 5) sc_Lusers.nd rfl (Or.inl rfl) (pe_bm PySem.F.plainAttrs_dict PySem.F.slot_dict_setdefault PySem.F.type_dict_setdefault (mt_setdT hu) (pv 1) (pa_cons (pv 4) (pa_cons (pe_lst pa_nil) pa_nil))))
    (pss_one (ps_expr (pe_bm PySem.F.plainAttrs_list PySem.F.slot_list_append PySem.F.type_list_append mt_append (pv 5) (pa_cons (pv 2) pa_nil))))))))))
    (pss_one (ps_ret (pv 1))))), ?_⟩
  refine fun du hdu => ?_
  have s1 := same_new hdu (.dT [])
  generalize hH1 : upd H du (.dT []) = H1 at s1
  have eu : H1 du = some (.dT []) := by rw [← hH1]; exact upd_same
  refine ⟨_, rfl, v, ld, rfl, lv.same s1, ok, fun H2 ah hs hah s2 eh ph => ?_⟩
  have lv2 := lv.same (s1.trans s2)
  have ndh : du ≠ ah := ne_of_none eu hah
  have hl := ph.len
  refine ⟨ah, rfl, ⟨_, SqL.of eh⟩, for_it walk_list (fun k σ H' => ∃ v2 v3 v4 v5, σ = [some v, some (.ref du), v2, v3, v4, v5] ∧ Kp [du] H2 H' ∧ Tk H2 H' ∧ UsersAt (fun b => H2 b ≠ none) H' du (((homesL ld).take k).flatMap fun h => occH ld h))
    ⟨none, none, none, none, rfl, .refl _ _, .refl _, [], s2 _ _ eu, Nat.le_refl _, fun _ _ => rfl, (fun _ _ e => by cases e), (fun _ _ _ e => by cases e)⟩ (fun _ _ _ _ ⟨_, _, _, _, _, kk, _⟩ => SqL.of (kk _ _ eh (by simpa using ndh.symm))) ?_ ?_⟩
  · rintro k z σ H30 H3 hk ⟨v2, v3, v4, v5, rfl, k3, t3, u3⟩ ⟨rfl, hz⟩
    obtain ⟨h, hh, hmz⟩ := ph.get hz
    have mem := List.mem_of_getElem? hh
    have lv3 : LvAt K H3 v ld := lv.same fun b o e => k3 _ _ (s2 _ _ (s1 _ _ e)) (by simpa using ne_of_none e hdu)
    refine ⟨_, rfl, _, rfl, v, z, ld, h, rfl, lv3, ok, hmz.tk t3, mem, fun H4 a xs hna s4 ha hW => ?_⟩
    have u4 := u3.more s4 hna
    have k4 : Kp [du] H2 H4 := k3.trans (.of s4)
    have nda : a ≠ du := by
      obtain ⟨kvs, e, _⟩ := u4
      exact ne_of ha e nofun
    have hS1 : ∀ H' : Hp, Kp [du] H2 H' → (∃ kvs, H' du = some (.dT kvs)) → H' a = some (.lst xs) → ∀ b, (H2 b ≠ none ∨ b = a) → H' b ≠ none := fun H' kk ⟨kvs, e⟩ ea b hb z => by
      rcases hb with hb | rfl
      · by_cases eb : b = du
        · subst eb; rw [e] at z; cases z
        · rcases q0 : H2 b with _ | ob
          · exact hb q0
          · rw [kk _ _ q0 (by simpa using eb)] at z; cases z
      · rw [ea] at z; cases z
    have lw := hW.len
    refine ⟨a, rfl, ⟨_, SqL.of ha⟩, for_it walk_list (fun j σ H' => ∃ v3 v4 v5, σ = [some v, some (.ref du), some z, v3, v4, v5] ∧ Kp [du] H2 H' ∧ Tk H4 H' ∧ H' a = some (.lst xs) ∧ UsersAt (fun b => H2 b ≠ none ∨ b = a) H' du ((((homesL ld).take k).flatMap fun h => occH ld h) ++ ((waysL ld h).take j).flatMap fun w => w.map fun part => (part, h)))
      ⟨v3, v4, v5, rfl, k4, .refl _, ha, by simpa using u4⟩ (fun _ _ _ _ ⟨_, _, _, _, _, _, ea, _⟩ => SqL.of ea) ?_ ?_⟩
    · rintro j y σ H50 H5 hj ⟨v3, v4, v5, rfl, k5, t5, ea5, u5⟩ ⟨rfl, hy⟩
      obtain ⟨w, hw, b2, ps, rfl, hb2, hps⟩ := hW.get hy
      have wl := way_len (List.mem_of_getElem? hw)
      have pl := hps.len
      have hb5 := t5.t _ _ hb2
      have hps5 := hps.tk t5
      refine ⟨_, rfl, b2, rfl, ⟨_, SqT.of hb5⟩, for_it walk_tup (fun m σ H' => ∃ v4 v5, σ = [some v, some (.ref du), some z, some (.ref b2), v4, v5] ∧ Kp [du] H2 H' ∧ Tk H5 H' ∧ H' a = some (.lst xs) ∧ UsersAt (fun b => H2 b ≠ none ∨ b = a) H' du (((((homesL ld).take k).flatMap fun h => occH ld h) ++ ((waysL ld h).take j).flatMap fun w => w.map fun part => (part, h)) ++ (w.take m).map fun part => (part, h)))
        ⟨v4, v5, rfl, k5, .refl _, ea5, by simpa using u5⟩ (fun _ _ _ _ ⟨_, _, _, _, t, _⟩ => SqT.of (t.t _ _ hb5)) ?_ ?_⟩
      · rintro m y2 σ H60 H6 hm ⟨v4, v5, rfl, k6, t6, ea6, u6⟩ ⟨rfl, hy2⟩
        obtain ⟨part, hpart, pb, rfl, hpb⟩ := (hps5.tk t6).get hy2
        have hz6 : HmAt H6 z h := ((hmz.tk t3).tk (tk_same s4)).tk (t5.trans t6)
        have ol := occ_pre2 ok (h := h) (k := k) (j := j) (w := w) wl (m := m)
        generalize ho3 : (((((homesL ld).take k).flatMap fun h => occH ld h) ++ ((waysL ld h).take j).flatMap fun w => w.map fun part => (part, h)) ++ (w.take m).map fun part => (part, h)) = o3 at u6 ol
        have u6' := u6
        obtain ⟨kvs, hk1, hk2, hk3, hk4, hk5⟩ := u6'
        have sz : 200000 < sizeLine := by decide
        have hS := hS1 H6 k6 ⟨_, hk1⟩ ea6
        have fin : ∀ (H7 : Hp) (v5 : Option V), (∀ b ob, (H2 b ≠ none ∨ b = a) → b ≠ du → H6 b = some ob → H7 b = some ob) → Tk H6 H7 → UsersAt (fun b => H2 b ≠ none ∨ b = a) H7 du (o3 ++ [(part, h)]) →
            ∃ v4 v5', [some v, some (V.ref du), some z, some (V.ref b2), some (V.ref pb), v5] = [some v, some (.ref du), some z, some (.ref b2), v4, v5'] ∧ Kp [du] H2 H7 ∧ Tk H5 H7 ∧ H7 a = some (.lst xs) ∧ UsersAt (fun b => H2 b ≠ none ∨ b = a) H7 du (((((homesL ld).take k).flatMap fun h => occH ld h) ++ ((waysL ld h).take j).flatMap fun w => w.map fun part => (part, h)) ++ (w.take (m + 1)).map fun part => (part, h)) := fun H7 v5 kk tt uu => by
          refine ⟨_, _, rfl, fun b ob e hb => kk b ob (.inl (by rw [e]; simp)) (by simpa using hb) (k6 _ _ e hb), t6.trans tt, kk _ _ (.inr rfl) nda ea6, ?_⟩
          rw [take_snoc hpart, List.map_append, ← List.append_assoc, ho3]
          exact uu
        refine ⟨_, rfl, .inr (.inr (.inl ⟨rfl, .inr ⟨kvs, hk1⟩⟩)), _, rfl, Nat.zero_le _, fun l0 hl0 => ?_⟩
        have s0 := same_new hl0 (.lst [])
        refine ⟨du, kvs, hmK part, pb, .ref l0, rfl, rfl, s0 _ _ hk1, s0 _ _ hpb, by omega, fun vv hv => ?_, fun hn => ?_⟩
        · obtain ⟨l, ys, rfl, hSl, hl, hh2⟩ := hk4 part vv hv
          have lys2 : ys.length ≤ o3.length := by rw [hh2.len]; unfold usersO; rw [List.length_map]; exact List.length_filter_le _ _
          obtain ⟨c1, c2, c3⟩ := use_old u6 hS hk1 hv hl hl0 hz6 _ rfl
          exact ⟨_, rfl, .inl ⟨rfl, _, SqL.of (s0 _ _ hl)⟩, _, rfl, l, ys, _, rfl, rfl, s0 _ _ hl, by omega, fin _ _ c1 c2 c3⟩
        · obtain ⟨c1, c2, c3⟩ := use_new u6 hS hk1 hn hl0 hz6 _ rfl
          have el : (upd (upd H6 l0 (.lst [])) du (.dT (putK kvs (hmK part) (.ref l0)))) l0 = some (.lst []) := by rw [upd_ne (ne_of_none hk1 hl0).symm]; exact upd_same
          exact ⟨_, rfl, .inl ⟨rfl, [], SqL.of el⟩, _, rfl, l0, [], _, rfl, rfl, el, by show 0 < sizeLine; decide, fin _ _ c1 c2 c3⟩
      · rintro σ H6 ⟨v4, v5, rfl, k6, t6, ea6, u6⟩
        refine ⟨_, _, _, rfl, k6, t5.trans t6, ea6, ?_⟩
        rw [take_snoc hw, List.flatMap_append]
        rw [pl, List.take_length, List.append_assoc] at u6
        simpa using u6
    · rintro σ H5 ⟨v3, v4, v5, rfl, k5, t5, ea5, u5⟩
      refine ⟨_, _, _, _, rfl, k5, t3.trans ((tk_same s4).trans t5), ?_⟩
      rw [lw, List.take_length] at u5
      rw [take_snoc hh, List.flatMap_append]
      simpa [occH] using u5.weak fun b h => .inl h
  · rintro σ H3 ⟨v2, v3, v4, v5, rfl, k3, t3, u3⟩
    rw [hl, List.take_length] at u3
    refine ⟨_, rfl, q H3 du hdu (fun b o e => k3 _ _ (s2 _ _ (s1 _ _ e)) (by simpa using ne_of_none e hdu)) (u3.weak fun b hb z => ?_)⟩
    rcases q0 : H b with _ | ob
    · exact hb q0
    · rw [s2 _ _ (s1 _ _ q0)] at z; cases z
end
end PK

set_option linter.all false
set_option Elab.async false
set_option maxRecDepth 100000
set_option maxHeartbeats 4000000
/-! KC: the law's own closure. -/
namespace PK
open PySem PySem.Spec PyProof.Rows L2
def plKind : Pl → Str
  | .fin => "end"
  | .ltr _ _ => "letter"
  | .call _ _ => "call"
  | .fork _ => "fork"
theorem pl_get {K : Fg} {H : Hp} {y : V} {p : Pl} (h : Dat K H y (plD p)) : ∃ d zs, y = .ref d ∧ SqT K H d (.str (plKind p) :: zs) := by
  cases p <;> (obtain ⟨d, zs, rfl, hZ, hZd⟩ := h.inv_tup; obtain ⟨z, zs, rfl, h3, h4⟩ := hZd.inv_cons; rw [h3.inv_str] at hZ; exact ⟨d, zs, rfl, hZ⟩)
theorem end_iff {ld : Ld} (ok : LdOk ld) {h : Hm} {p : Pl} (e : (plsL ld h.1)[h.2]? = some p) : (plKind p = "end") ↔ h.2 = 0 := by
  constructor
  · intro k
    have : p = .fin := by
      cases p with
      | fin => rfl
      | ltr _ _ => exact absurd k (show ¬ ("letter" : Str) = "end" by decide +kernel)
      | call _ _ => exact absurd k (show ¬ ("call" : Str) = "end" by decide +kernel)
      | fork _ => exact absurd k (show ¬ ("fork" : Str) = "end" by decide +kernel)
    subst this
    exact ((ok.fin _ _).mp e).2
  · intro k
    have hk : h.1 < ld.length := by
      rcases Nat.lt_or_ge h.1 ld.length with l | l
      · exact l
      · unfold plsL at e
        rw [List.getD_eq_getElem?_getD, List.getElem?_eq_none l] at e
        cases e
    have := (ok.fin h.1 h.2).mpr ⟨hk, k⟩
    rw [this] at e
    cases e; rfl
theorem flatMap_congr2 {α β : Type} {f g : α → List β} {l : List α} (h : ∀ x ∈ l, f x = g x) : l.flatMap f = l.flatMap g := by
  induction l with
  | nil => rfl
  | cons x r ih => rw [List.flatMap_cons, List.flatMap_cons, h x List.mem_cons_self, ih fun y hy => h y (List.mem_cons_of_mem _ hy)]
theorem starts_eq {ld : Ld} (ok : LdOk ld) : (homesL ld).filter (fun h => decide (h.2 = 0)) = startsL ld := by
  unfold homesL startsL
  rw [List.filter_flatMap]
  have : ∀ k ∈ List.range ld.length, ((List.range (plsL ld k).length).map fun i => ((k, i) : Hm)).filter (fun h => decide (h.2 = 0)) = [(k, 0)] := fun k hk => by
    obtain ⟨n, hn⟩ : ∃ n, (plsL ld k).length = n + 1 := ⟨(plsL ld k).length - 1, by have := (ok.len k (List.mem_range.mp hk)).1; omega⟩
    rw [hn, List.range_succ_eq_map, List.map_cons, List.filter_cons]
    rw [if_pos (by simp)]
    congr 1
    rw [List.filter_eq_nil_iff]
    intro x hx
    simp only [List.map_map, List.mem_map, Function.comp] at hx
    obtain ⟨i, _, rfl⟩ := hx
    simp
  rw [flatMap_congr2 this]
  induction List.range ld.length with
  | nil => rfl
  | cons k r ih => rw [List.flatMap_cons, ih]; rfl
def goodK (C : List Hm) (ws : List (List Hm)) (k : Nat) : Bool := goodW C (ws.getD k [])
theorem good_any {C : List Hm} {ws : List (List Hm)} : (((List.range ws.length).filter (goodK C ws)).isEmpty = false) ↔ ws.any (goodW C) = true := by
  rw [List.any_eq_true]
  constructor
  · intro h
    have : (List.range ws.length).filter (goodK C ws) ≠ [] := fun e => by rw [e] at h; cases h
    obtain ⟨k, hk⟩ := List.exists_mem_of_ne_nil _ this
    obtain ⟨h1, h2⟩ := List.mem_filter.mp hk
    have h1 := List.mem_range.mp h1
    refine ⟨ws[k], List.getElem_mem h1, ?_⟩
    unfold goodK at h2
    rw [List.getD_eq_getElem?_getD, List.getElem?_eq_getElem h1] at h2
    exact h2
  · rintro ⟨w, hw, g⟩
    obtain ⟨k, hk⟩ := List.getElem?_of_mem hw
    have hl := (List.getElem?_eq_some_iff.mp hk).1
    have : k ∈ (List.range ws.length).filter (goodK C ws) := List.mem_filter.mpr ⟨List.mem_range.mpr hl, by unfold goodK; rw [List.getD_eq_getElem?_getD, hk]; exact g⟩
    cases e : (List.range ws.length).filter (goodK C ws) with
    | nil => rw [e] at this; cases this
    | cons _ _ => rfl
def spLChosen (K : Fg) : Sp := fun vs H Q _ => ∃ (v : V) (ld : Ld), vs = [v] ∧ LvAt K H v ld ∧ LdOk ld ∧ ∀ H' d kvs, Same H H' → H' d = some (.dT kvs) → keyed kvs (chosenL ld) → Q (.ref d) H'
theorem dats_ints {K : Fg} {H : Hp} : ∀ l : List Nat, Dats K H (l.map fun n : Nat => V.int n) (l.map natD)
  | [] => .nil
  | n :: r => .cons (.int _) (dats_ints r)
theorem lay_ints (l : List Nat) : PyData.canLayAll0 (l.map natD) = true := by
  induction l with
  | nil => rfl
  | cons n r ih => show (PyData.canLay0 (natD n) && PyData.canLayAll0 (r.map natD)) = true; rw [ih]; rfl
section
variable {P : Program} {w : World} {K : Fg} {mg : Str → Option Value} {base : Heap}
theorem ok_Lchosen (T : Tp K mg) (F : Std K "_law_chosen" "_law_chosen" s_Lchosen (He.ga K "_law_chosen")) (D_Lhomes : Dn P w K mg base 1 (He.ga K "_law_homes") ["laid_v"] (spLHomes K)) (D_Lways : Dn P w K mg base 1 (He.ga K "_law_ways") ["laid_v", "home"] (spLWays K))
    (D_Lusers : Dn P w K mg base 2 (He.ga K "_law_users") ["laid_v"] (spLUsers K)) : Dn P w K mg base 3 (He.ga K "_law_chosen") ["laid_v"] (spLChosen K) := by
  refine dn_mk F sc_Lchosen
    (fun _ _ _ _ _ _ us hl => match us, hl with | [_], _ => rfl)
    (fun vs H Q E h => ?_) fun cdv A outer s H vs Q E hr h => ?_
  · obtain ⟨v, ld, rfl, _⟩ := h; rfl
  obtain ⟨v, ld, rfl, lv, ok, q⟩ := h
  have hu := hu_of hr
  refine ⟨_, (pss_cons (ps_asg (pe_tup (pa_cons (pe_f D_Lusers (hr.mono (by omega)) T.g__law_users (pa_cons (pv 0) pa_nil)) (pa_cons pe_dnewT pa_nil))) (pg_tup (by rfl) (pgs_cons (pg_name (i := 1) sc_Lchosen.nd rfl (Or.inl rfl)) (pgs_cons (pg_name (i := 2) sc_Lchosen.nd rfl (Or.inr rfl)) pgs_nil))))
    (pss_cons (ps_setLc (i := 4) (own := [("home", 3)]) rfl sc_Lchosen.nd rfl rfl (sw_true rfl rfl rfl (by decide +kernel)) (iLstK (K := K) rfl (pe_f D_Lhomes (hr.mono (by omega)) T.g__law_homes (pa_cons (pv 0) pa_nil))) (blkOk_by (N := N_Lchosen) (sc := defScope s_Lchosen) (own := [("home", 3)]) (by decide +kernel)) (fun _ _ _ _ _ => (pg_name (i := 3) sc_Lchosen.nd rfl (Or.inl rfl))) (fun _ _ _ _ _ => (pts_one (pt_cmpR (oEqK (K := K) rfl (hu64 hr)) (pe_ix (ixK (K := K) rfl) (pe_ix (ixK (K := K) rfl) (pe_ix (ixK (K := K) rfl) (pe_ix (ixK (K := K) rfl) (pv 0) (pe_ix (ixK (K := K) rfl) (pv 3) pe_int (fun _ _ => rfl)) (fun _ _ => rfl)) pe_int (fun _ _ => rfl)) (pe_ix (ixK (K := K) rfl) (pv 3) pe_int (fun _ _ => rfl)) (fun _ _ => rfl)) pe_int (fun _ _ => rfl)) pe_str (nomark _)))) (fun _ _ _ _ _ => (pv 3)))
    (pss_cons (ps_for PassesOwn.never rfl (pi_range1 rfl T.b_range (pa_cons pe_int pa_nil)) (pg_name (i := 5) sc_Lchosen.nd rfl (Or.inl rfl)) (pss_cons (ps_if (pt_cmpR op_ge (pv 5) (pe_callB (cLenK (K := K) rfl) (by rfl) T.b_len PySem.boot_len (pa_cons (pv 4) pa_nil)) (nomark _)) (pss_one (ps_ret (pv 2))) pss_nil)
    (pss_cons (ps_set (i := 3) sc_Lchosen.nd rfl (Or.inl rfl) (pe_ix (ixK (K := K) rfl) (pv 4) (pv 5) (fun _ _ => rfl)))
    (pss_cons (ps_set (i := 6) sc_Lchosen.nd rfl (Or.inr rfl) (pe_ifExp (pt_cmp (pc_dnotin hu (pv 3) (pv 2))) (pe_f D_Lways (hr.mono (by omega)) T.g__law_ways (pa_cons (pv 0) (pa_cons (pv 3) pa_nil))) (pe_lst pa_nil)))
    (pss_cons (ps_setLc (i := 9) (own := [("k", 7)]) rfl sc_Lchosen.nd rfl rfl (sw_true rfl rfl rfl (by decide +kernel)) (pi_range1 rfl T.b_range (pa_cons (pe_callB (cLenK (K := K) rfl) (by rfl) T.b_len PySem.boot_len (pa_cons (pv 6) pa_nil)) pa_nil)) (blkOk_by (N := N_Lchosen) (sc := defScope s_Lchosen) (own := [("k", 7)]) (by decide +kernel)) (fun _ _ _ _ _ => (pg_name (i := 7) sc_Lchosen.nd rfl (Or.inl rfl))) (fun _ _ _ _ _ => (pts_one (pt_val (pe_callB (allK (K := K) rfl rfl) (by rfl) T.b_all (by decide +kernel) (pa_cons (pe_lc (own := [("part", 8)]) (tt := tYes) rfl sc_Lchosen.nd (iTupK (K := K) rfl (pe_ix (ixK (K := K) rfl) (pv 6) (pv 7) (fun _ _ => rfl))) (blkOk_by (N := N_Lchosen) (sc := _) (own := [("part", 8)]) rfl) (fun _ _ _ _ _ => (pg_name (i := 8) sc_Lchosen.nd rfl (Or.inl rfl))) (fun _ _ _ _ _ => pts_nil) (fun _ _ _ _ _ => (pe_cmp (pc_din hu (pv 8) (pv 2))))) pa_nil))))) (fun _ _ _ _ _ => (pv 7)))
    (pss_one (ps_if (pt_cmpR (oNeNilL (K := K) rfl (hu64 hr)) (pv 9) (pe_lst pa_nil) (nomark _)) (pss_cons (ps_dput hu (pv 2) (pv 3) (pe_tup (pa_cons (pe_ix (ixK (K := K) rfl) (pv 9) pe_int (fun _ _ => rfl)) (pa_cons (pe_ix (ixK (K := K) rfl) (pv 6) (pe_ix (ixK (K := K) rfl) (pv 9) pe_int (fun _ _ => rfl)) (fun _ _ => rfl)) pa_nil))) rfl)
    (pss_one (ps_expr (pe_bm PySem.F.plainAttrs_list PySem.F.slot_list_extend PySem.F.type_list_extend mt_extend (pv 4) (pa_cons (pe_dget2 hu (pv 1) (pv 3) (pe_lst pa_nil) ⟨rfl, rfl, rfl, rfl⟩) pa_nil))))) pss_nil)))))))
    (pss_one (ps_ret (pv 2)))))), ?_⟩
  refine ⟨_, rfl, v, ld, rfl, lv, ok, fun H1 du hdu s1 u1 => ?_⟩
  refine fun df hdf => ⟨(by show 2 ≤ sizeLine; decide), fun tt htt => ?_⟩
  have s2 := same_new hdf (.dT [])
  have s3 := same_new htt (.tup [.ref du, .ref df])
  generalize hH3 : upd (upd H1 df (.dT [])) tt (.tup [.ref du, .ref df]) = H3 at s3
  have et : H3 tt = some (.tup [.ref du, .ref df]) := by rw [← hH3]; exact upd_same
  have ef : H3 df = some (.dT []) := s3 _ _ upd_same
  have s13 := s2.trans s3
  refine ⟨tt, _, rfl, SqT.of et, rfl, _, _, rfl, _, _, rfl, rfl, ?_⟩
  have lv3 := lv.same (s1.trans s13)
  refine ⟨_, rfl, v, ld, rfl, lv3, ok, fun H4 ah hs hah s4 eh ph => ?_⟩
  have lv4 := lv3.same s4
  have hl := ph.len
  have few := homes_len ok
  refine ⟨ah, rfl, ⟨_, SqL.of eh⟩, fun aw naw => lc_acc walk_list [] (fun j acc H' => HmsAt H' acc (((homesL ld).take j).filter (fun h => decide (h.2 = 0)))) naw (fun _ _ _ k _ _ => SqL.of ((Kp.nil k) _ _ eh)) (fun _ _ _ _ _ _ hD p => p.tk (tk_lst hD)) .nil ?_ (by simp) ?_ ?_⟩
  · rw [hl]; exact Nat.lt_of_le_of_lt few (by decide)
  · rintro j z acc H5 H5' hj kp tk hD la pw ⟨rfl, hz⟩ N E1 hN hE
    obtain ⟨⟨c, i⟩, hh, b, rfl, hb⟩ := ph.get hz
    have hb := tk.t _ _ hb
    have mem := List.mem_of_getElem? hh
    obtain ⟨m1, m2⟩ := mem_homes.mp mem
    obtain ⟨al, ls, rfl, hL, hLl, hg⟩ := lv4.same (Kp.nil kp)
    obtain ⟨b2, cc, ys, hx, hB, hC, hD2⟩ := hg c m1
    obtain ⟨y, hy, hyd⟩ : ∃ y, ys[i]? = some y ∧ Dat K H5' y (plD ((plsL ld c)[i]'m2)) := hD2.got (by rw [List.getElem?_map, List.getElem?_eq_getElem m2]; rfl)
    obtain ⟨d, zs, rfl, hZ⟩ := pl_get hyd
    have ei := end_iff ok (h := (c, i)) (List.getElem?_eq_getElem m2)
    refine ⟨rfl, ?_⟩
    refine ⟨_, rfl, _, rfl, .inr (.inl ⟨b, _, 0, _, rfl, rfl, SqT.of hb, atI_nat (j := 0) rfl, .inl ⟨al, _, c, _, rfl, rfl, SqL.of hL, atI_nat hx, .inr (.inl ⟨b2, _, 1, _, rfl, rfl, hB, atI_nat (j := 1) rfl, _, rfl, .inr (.inl ⟨b, _, 1, _, rfl, rfl, SqT.of hb, atI_nat (j := 1) rfl, .inl ⟨cc, _, i, _, rfl, rfl, SqL.of hC, atI_nat hy, .inr (.inl ⟨d, _, 0, _, rfl, rfl, hZ, atI_nat (j := 0) rfl, .inl ⟨rfl, _, rfl, ?_⟩⟩)⟩⟩)⟩)⟩⟩)⟩
    have ef2 : ((homesL ld).take (j + 1)).filter (fun h => decide (h.2 = 0)) = ((homesL ld).take j).filter (fun h => decide (h.2 = 0)) ++ (if i = 0 then [(c, i)] else []) := by
      rw [take_snoc hh, List.filter_append, List.filter_cons]
      by_cases e : i = 0 <;> simp [e]
    by_cases e : i = 0
    · refine ift (decide_eq_true (congrArg V.str (ei.mpr e))) ⟨_, rfl, ?_⟩
      refine hN _ _ (.refl _ _) (.refl _) ?_
      rw [ef2, if_pos e]
      exact pw.snoc ⟨b, rfl, hb⟩
    · refine iff' (decide_eq_false fun z => e (ei.mp (V.str.inj z))) ?_
      refine hE _ (.refl _ _) (.refl _) ?_
      rw [ef2, if_neg e, List.append_nil]; exact pw
  rintro H5 xs0 kp5 tk5 ew5 _ pw5
  rw [hl, List.take_length, starts_eq ok] at pw5
  have s5 := Kp.nil kp5
  have s35 := s4.trans s5
  have ef5 := s35 _ _ ef
  have lv5 := lv4.same s5
  have ndw : df ≠ aw := ne_of ef5 ew5 nofun
  obtain ⟨ku, hk1, hk2, hk3, hk4, hk5⟩ := u1
  have s15 := s13.trans s35
  have nud : du ≠ df := ne_of_none hk1 hdf
  have hs0 : ∀ k, k < ld.length → ((k, 0) : Hm) ∈ homesL ld := fun k hk => mem_homes.mpr ⟨hk, (ok.len k hk).1⟩
  have naw1 : H1 aw = none := by
    rcases q0 : H1 aw with _ | o
    · rfl
    · rw [s4 _ _ (s13 _ _ q0)] at naw; cases naw
  have nuw : du ≠ aw := ne_of_none hk1 naw1
  have back : ∀ H', Kp [df, aw] H5 H' → Same H1 H' := fun H' k b o e => k _ _ (s15 _ _ e) (by simp [ne_of_none e hdf, ne_of_none e naw1])
  have e100 : ((100000 : Int)).toNat = 100000 := by decide
  refine ⟨100000, rfl, by decide, by decide, ?_⟩
  rw [e100]
  refine for_it (walk_range (lo := 0)) (fun n σ H' => ∃ (kvs : List (List L2.Key × V)) (xs : List V) (v3 v5 v6 v9 : Option V), σ = [some v, some (.ref du), some (.ref df), v3, some (.ref aw), v5, v6, none, none, v9] ∧ Kp [df, aw] H5 H' ∧ Tk H5 H' ∧ H' df = some (.dT kvs) ∧ keyed kvs (runL ld n).1 ∧ H' aw = some (.lst xs) ∧ HmsAt H' xs (runL ld n).2)
    ⟨[], xs0, none, none, none, none, rfl, .refl _ _, .refl _, ef5, rfl, ew5, pw5⟩ (fun _ _ _ _ _ => trivial) ?_ ?_
  · rintro n z σ H60 H6 hn ⟨kvs, xs, v3, v5, v6, v9, rfl, k6, t6, ed6, kk6, ew6, pw6⟩ ⟨rfl, hz⟩
    have hz : z = V.int ((n : Nat) : Int) := by rw [hz]; show V.int (0 + (n : Int)) = _; rw [Int.zero_add]
    subst hz
    have lx := pw6.len
    have rb := run_bound ok n
    have cl := run_len ok n
    refine ⟨_, rfl, _, rfl, _, _, rfl, .inl ⟨_, SqL.of ew6, rfl⟩, _, _, rfl, rfl, _, rfl, ?_⟩
    by_cases hlt : n < (runL ld n).2.length
    case neg =>
      refine ift (decide_eq_true (by omega)) ⟨_, rfl, q H6 df kvs (fun b o e => back H6 k6 _ _ (s1 _ _ e)) ed6 ?_⟩
      rw [chosen_at (n := n) (by omega) (by omega)]; exact kk6
    refine iff' (decide_eq_false (by omega)) ?_
    have hx : xs[n]? = some (xs[n]'(by omega)) := List.getElem?_eq_getElem (by omega)
    obtain ⟨h, hh, b, eb, hb⟩ := pw6.get hx
    rw [eb] at hx
    have mem := run_mem_wait ld hs0 n h (List.mem_of_getElem? hh)
    have rn := run_next hh
    refine ⟨_, rfl, _, rfl, .inl ⟨aw, _, n, _, rfl, rfl, SqL.of ew6, atI_nat hx, ?_⟩⟩
    refine ⟨_, rfl, _, rfl, df, _, rfl, DGet.t (k := hmK h) ed6 hb, _, rfl, ?_⟩
    rw [keyed_some kk6]
    have b6 := back H6 k6
    have lv6 : LvAt K H6 v ld := lv.same fun b' o e => b6 _ _ (s1 _ _ e)
    generalize hC : (runL ld n).1 = C at kk6 cl rn
    have st : ∀ (H7 : Hp) (a : Addr) (ys : List V) (ws : List (List Hm)), Same H6 H7 → H7 a = some (.lst ys) → WaysAt H7 ys ws → ((ws = waysL ld h ∧ h ∉ C) ∨ (ws = [] ∧ h ∈ C)) → Same H6 H7 ∧ H7 a = some (.lst ys) ∧ WaysAt H7 ys ws ∧ ((ws = waysL ld h ∧ h ∉ C) ∨ (ws = [] ∧ h ∈ C)) := fun _ _ _ _ a b c d => ⟨a, b, c, d⟩
    by_cases hin : h ∈ C
    case' neg =>
      refine ift (by rw [decide_eq_false hin]; rfl) ⟨_, rfl, _, rfl, v, .ref b, ld, h, rfl, lv6, ok, ⟨b, rfl, hb⟩, mem, fun H7 a ys hna s7 ha hW => ?_⟩
      obtain ⟨s7, ha, hW, cs⟩ := st H7 a ys _ s7 ha hW (.inl ⟨rfl, hin⟩)
      generalize hws : waysL ld h = ws at hW
      have fw : ws.length ≤ 8 := by rw [← hws]; exact ways_few ok h
      have wl : ∀ w ∈ ws, w.length ≤ 2 := fun w hw => way_len (by rw [hws]; exact hw)
      have step : runL ld (n + 1) = if ws.any (goodW C) = true then (C ++ [h], (runL ld n).2 ++ usersL ld h) else runL ld n := by
        rw [rn, hws]
        by_cases g : ws.any (goodW C) = true <;> simp [hin, g]
    case' pos =>
      refine iff' (by rw [decide_eq_true hin]; rfl) ⟨Nat.zero_le _, fun a han => ?_⟩
      have s7 := same_new han (.lst [])
      generalize hH7 : upd H6 a (.lst []) = H7 at s7
      have ha : H7 a = some (.lst []) := by rw [← hH7]; exact upd_same
      obtain ⟨s7, ha, hW, cs⟩ := st H7 a [] [] s7 ha .nil (.inr ⟨rfl, hin⟩)
      generalize hys : ([] : List V) = ys at ha hW
      generalize hws : ([] : List (List Hm)) = ws at hW
      have fw : ws.length ≤ 8 := by rw [← hws]; exact Nat.zero_le _
      have wl : ∀ w ∈ ws, w.length ≤ 2 := fun w hw => by rw [← hws] at hw; cases hw
      have step : runL ld (n + 1) = if ws.any (goodW C) = true then (C ++ [h], (runL ld n).2 ++ usersL ld h) else runL ld n := by
        rw [rn, ← hws]; simp [hin]
    all_goals
      clear cs st
      have lw := hW.len
      have hb7 := s7 _ _ hb
      have ed7 := s7 _ _ ed6
      have ew7 := s7 _ _ ew6
      have k7 : Kp [df, aw] H5 H7 := k6.trans (.of s7)
      have t7 := t6.trans (tk_same s7)
      refine ⟨_, rfl, _, _, rfl, .inl ⟨_, SqL.of ha, rfl⟩, _, rfl, by omega, by omega, fun ag nag => lc_acc (walk_range (lo := 0)) [] (fun k acc _ => acc = (((List.range k).filter (goodK C ws)).map fun n : Nat => V.int n)) nag (fun _ _ _ _ _ _ => trivial) (fun _ _ _ _ _ _ _ p => p) rfl ?_ (by simp) ?_ ?_⟩
      · rw [Int.toNat_natCast, lw]; exact Nat.lt_of_le_of_lt fw (by decide)
      · rintro k y acc H8 H8' hk kp8 tk8 hD8 la8 rfl ⟨rfl, hy⟩ N E1 hN hE
        rw [Int.toNat_natCast] at hk
        have hy : y = V.int ((k : Nat) : Int) := by rw [hy]; show V.int (0 + (k : Int)) = _; rw [Int.zero_add]
        subst hy
        have s8 := Kp.nil kp8
        have hyk : ys[k]? = some (ys[k]'hk) := List.getElem?_eq_getElem hk
        obtain ⟨w, hw, b2, ps, eb2, hb2, hps⟩ := (hW.tk tk8).get hyk
        rw [eb2] at hyk
        have pl := hps.len
        have wl2 := wl w (List.mem_of_getElem? hw)
        have eg : goodK C ws k = goodW C w := by unfold goodK; rw [List.getD_eq_getElem?_getD, hw]; rfl
        have er : (List.range (k + 1)).filter (goodK C ws) = (List.range k).filter (goodK C ws) ++ (if goodW C w = true then [k] else []) := by
          rw [List.range_succ, List.filter_append, List.filter_cons, eg]; simp
        refine ⟨rfl, ?_⟩
        refine ⟨_, rfl, _, rfl, .inl ⟨a, _, k, _, rfl, rfl, SqL.of (s8 _ _ ha), atI_nat hyk, b2, rfl, ⟨_, SqT.of hb2⟩, fun D2 nD2 => lc_acc walk_tup [] (fun m acc _ => acc = ((w.take m).map fun p => V.bl (decide (p ∈ C)))) nD2 (fun _ _ H1 _ t _ => SqT.of (t.t _ _ hb2)) (fun _ _ _ _ _ _ _ p => p) rfl ?_ (by simp) ?_ ?_⟩⟩
        · rw [pl]; exact Nat.lt_of_le_of_lt wl2 (by decide)
        · rintro m y2 acc2 H9 H9' hm kp9 tk9 hD9 hl9 rfl ⟨rfl, hy2⟩ N2 E2 hN2 _
          obtain ⟨h2, hh2, b3, rfl, hb3⟩ := (hps.tk tk9).get hy2
          refine ⟨rfl, tyes ⟨_, rfl, _, rfl, df, _, rfl, DGet.t (k := hmK h2) ((Kp.nil kp9) _ _ (s8 _ _ ed7)) hb3, ?_⟩⟩
          rw [keyed_some kk6]
          exact hN2 _ _ (.refl _ _) (.refl _) (by rw [take_snoc hh2]; simp)
        · rintro H9 acc2 kp9 tk9 hD9 _ rfl
          have et2 : w.take ps.length = w := by rw [pl, List.take_length]
          rw [et2] at hD9
          refine ⟨D2, w.map fun p => decide (p ∈ C), rfl, SqL.of (by rw [hD9]; simp), _, rfl, ?_⟩
          rw [← goodW_take]
          by_cases hg : goodW C w = true
          · refine ift hg ⟨_, rfl, hN _ _ kp9 tk9 ?_⟩
            rw [er, if_pos hg]; simp
          · have hg : goodW C w = false := by simpa using hg
            refine iff' hg (hE _ kp9 tk9 ?_)
            rw [er, hg]; simp
      rintro H8 acc kp8 tk8 eg8 _ rfl
      rw [Int.toNat_natCast, lw] at eg8
      have s8 := Kp.nil kp8
      have ga := good_any (C := C) (ws := ws)
      have gm : ∀ k ∈ (List.range ws.length).filter (goodK C ws), k < ws.length := fun k hk => List.mem_range.mp (List.mem_filter.mp hk).1
      generalize hgl : (List.range ws.length).filter (goodK C ws) = gl at eg8 ga gm
      refine ⟨_, rfl, Nat.zero_le _, fun p2 hp2 => ?_⟩
      have s9 := same_new hp2 (.lst [])
      generalize hH9 : upd H8 p2 (.lst []) = H9 at s9
      have ep9 : H9 p2 = some (.lst []) := by rw [← hH9]; exact upd_same
      have s89 := s8.trans s9
      have eg9 := s9 _ _ eg8
      have ed9 := s89 _ _ ed7
      have ew9 := s89 _ _ ew7
      have hb9 := s89 _ _ hb7
      have ha9 := s89 _ _ ha
      have k9 : Kp [df, aw] H5 H9 := k7.trans (.of s89)
      have t9 := t7.trans (tk_same s89)
      have pw9 := pw6.tk (tk_same (s7.trans s89))
      refine ⟨ag, p2, gl.map natD, rfl, rfl, .lst (SqL.of eg9) (dats_ints gl).dp, SqL.of ep9, lay_ints gl, _, rfl, ?_⟩
      cases gl with
      | nil =>
        have hno : ¬ ws.any (goodW C) = true := fun z => by have := ga.mpr z; cases this
        rw [if_neg hno] at step
        refine iff' rfl ⟨kvs, xs, _, _, _, _, rfl, k9, t9, ed9, ?_, ew9, ?_⟩
        · rw [step, hC]; exact kk6
        · rw [step]; exact pw9
      | cons k0 gr =>
        have hyes : ws.any (goodW C) = true := ga.mp rfl
        rw [if_pos hyes] at step
        have hin : h ∉ C := fun z => by
          have c0 := run_nd ld (n + 1)
          rw [step] at c0
          have c0 : (C ++ [h]).Nodup := c0
          rw [List.nodup_append] at c0
          exact c0.2.2 h z h (by simp) rfl
        have k0l := gm k0 (by simp)
        have hyk : ys[k0]? = some (ys[k0]'(by omega)) := List.getElem?_eq_getElem (by omega)
        refine ift rfl ?_
        refine ⟨_, rfl, .inl ⟨ag, _, 0, _, rfl, rfl, SqL.of eg9, atI_nat (j := 0) rfl, _, rfl, _, rfl, .inl ⟨ag, _, 0, _, rfl, rfl, SqL.of eg9, atI_nat (j := 0) rfl, .inl ⟨a, _, k0, _, rfl, rfl, SqL.of ha9, atI_nat hyk, (by show 2 ≤ sizeLine; decide), fun tp htp => ?_⟩⟩⟩⟩
        have s10 := same_new htp (.tup [.int (k0 : Nat), ys[k0]'(by omega)])
        generalize hH10 : upd H9 tp (.tup [.int (k0 : Nat), ys[k0]'(by omega)]) = H10 at s10
        have ed10 := s10 _ _ ed9
        have sz : 100000 < sizeLine := by decide
        refine ⟨_, rfl, _, rfl, df, _, rfl, DPut.t (k := hmK h) ed10 (s10 _ _ hb9) (by rw [keyed_len kk6]; omega), ?_⟩
        have t11 := tk_dT (o' := .dT (putK kvs (hmK h) (.ref tp))) ed10
        have k11 : Kp [df, aw] H10 (upd H10 df (.dT (putK kvs (hmK h) (.ref tp)))) := kp_upd (by simp) _
        generalize hH11 : upd H10 df (.dT (putK kvs (hmK h) (.ref tp))) = H11 at t11 k11
        have ed11 : H11 df = some (.dT (putK kvs (hmK h) (.ref tp))) := by rw [← hH11]; exact upd_same
        have ew11 : H11 aw = some (.lst xs) := by rw [← hH11, upd_ne ndw.symm]; exact s10 _ _ ew9
        have k511 : Kp [df, aw] H5 H11 := k9.trans ((Kp.of s10).trans k11)
        have t911 := (tk_same s10).trans t11
        have b11 := back H11 k511
        have hb11 := t911.t _ _ hb9
        refine ⟨_, rfl, .inl ⟨rfl, _, SqL.of ew11⟩, _, rfl, du, rfl, .inr ⟨ku, .inl (b11 _ _ hk1)⟩, _, rfl, Nat.zero_le _, fun l0 hl0 => ?_⟩
        have s12 := same_new hl0 (.lst [])
        generalize hH12 : upd H11 l0 (.lst []) = H12 at s12
        have el0 : H12 l0 = some (.lst []) := by rw [← hH12]; exact upd_same
        have ew12 := s12 _ _ ew11
        have dg := DGet.t (k := hmK h) (s12 _ _ (b11 _ _ hk1)) (s12 _ _ hb11)
        have rb2 := run_bound ok (n + 1)
        rw [step] at rb2
        have rb2 : ((runL ld n).2 ++ usersL ld h).length ≤ 96040 := rb2
        rw [List.length_append] at rb2
        have fin : ∀ (zs : List V) (v6 : Option V), HmsAt H12 zs (usersL ld h) → ∃ (kvs' : List (List L2.Key × V)) (xs' : List V) (w3 w5 w6 w9 : Option V), [some v, some (V.ref du), some (V.ref df), some (V.ref b), some (V.ref aw), some (V.int (n : Nat)), v6, none, none, some (V.ref ag)] = [some v, some (.ref du), some (.ref df), w3, some (.ref aw), w5, w6, none, none, w9] ∧
            Kp [df, aw] H5 (upd H12 aw (.lst (xs ++ zs))) ∧ Tk H5 (upd H12 aw (.lst (xs ++ zs))) ∧ (upd H12 aw (.lst (xs ++ zs))) df = some (.dT kvs') ∧ keyed kvs' (runL ld (n + 1)).1 ∧ (upd H12 aw (.lst (xs ++ zs))) aw = some (.lst xs') ∧ HmsAt (upd H12 aw (.lst (xs ++ zs))) xs' (runL ld (n + 1)).2 := fun zs v6 hz => by
          have t13 := tk_lst (o' := .lst (xs ++ zs)) ew12
          have t913 := t911.trans ((tk_same s12).trans t13)
          rw [step]
          refine ⟨_, _, _, _, _, _, rfl, k511.trans ((Kp.of s12).trans (kp_upd (by simp) _)), t9.trans t913, by rw [upd_ne ndw]; exact s12 _ _ ed11, keyed_put kk6 hin _, upd_same, ?_⟩
          exact (pw9.tk t913).append (hz.tk t13)
        rcases hv : valV ku (hmK h) with _ | vv
        · rw [hv] at dg
          have e0 : usersL ld h = [] := hk3 h hv
          have hz : HmsAt H12 [] (usersL ld h) := by rw [e0]; exact .nil
          exact ⟨none, dg, aw, l0, xs, [], rfl, rfl, ew12, el0, by rw [lx]; simp; omega, fin _ _ hz⟩
        · rw [hv] at dg
          obtain ⟨l, zs, rfl, hSl, hl, hz⟩ := hk4 h vv hv
          have hz12 : HmsAt H12 zs (usersL ld h) := hz.tk (tk_same (fun b' o e => s12 _ _ (b11 b' o e)))
          exact ⟨some (.ref l), dg, aw, l, xs, zs, rfl, rfl, ew12, s12 _ _ (b11 _ _ hl), by rw [lx, hz12.len]; omega, fin _ _ hz12⟩
  · rintro σ H6 ⟨kvs, xs, v3, v5, v6, v9, rfl, k6, t6, ed6, kk6, ew6, pw6⟩
    exact ⟨_, rfl, q H6 df kvs (fun b o e => back H6 k6 _ _ (s1 _ _ e)) ed6 kk6⟩
end
end PK

set_option linter.all false
set_option Elab.async false
set_option maxRecDepth 100000
set_option maxHeartbeats 4000000
/-! KI: the law's own useful homes. -/
namespace PK
open PySem PySem.Spec PyProof.Rows L2
def hmI (h : Hm) : List Int := [(h.1 : Int), (h.2 : Int)]
theorem hmI_inj {a b : Hm} (e : hmI a = hmI b) : a = b := by
  unfold hmI at e
  injection e with e1 e2
  injection e2 with e2 _
  exact Prod.ext (by omega) (by omega)
theorem hmI_V (h : Hm) : (hmI h).map V.int = hmV h := rfl
theorem HmsAt.keys {H : Hp} {vs : List V} {hs : List Hm} (a : HmsAt H vs hs) : ∃ ks : List (Addr × List Int), vs = ks.map (fun p => V.ref p.1) ∧ ks.map (·.2) = hs.map hmI ∧ ∀ p ∈ ks, H p.1 = some (.tup (p.2.map V.int)) := by
  induction a with
  | nil => exact ⟨[], rfl, rfl, fun p hp => by cases hp⟩
  | cons h _ ih =>
    obtain ⟨ks, e1, e2, e3⟩ := ih
    obtain ⟨b, rfl, hb⟩ := h
    refine ⟨(b, hmI _) :: ks, by rw [List.map_cons, ← e1], by rw [List.map_cons, List.map_cons, e2], fun p hp => ?_⟩
    rcases List.mem_cons.mp hp with rfl | hp
    · exact hb
    · exact e3 p hp
theorem HmsAt.refs {H : Hp} {vs : List V} {hs : List Hm} (a : HmsAt H vs hs) : ∃ bs : List Addr, vs = bs.map V.ref := by
  induction a with
  | nil => exact ⟨[], rfl⟩
  | cons h _ ih =>
    obtain ⟨bs, e⟩ := ih
    obtain ⟨b, rfl, _⟩ := h
    exact ⟨b :: bs, by rw [List.map_cons, ← e]⟩
theorem keys_back {H : Hp} {hs : List Hm} : ∀ {L : List (Addr × List Int)}, (∀ p ∈ L, H p.1 = some (.tup (p.2.map V.int)) ∧ p.2 ∈ hs.map hmI) → ∃ hs', HmsAt H (L.map fun p => V.ref p.1) hs' ∧ L.map (·.2) = hs'.map hmI ∧ ∀ h ∈ hs', h ∈ hs
  | [], _ => ⟨[], .nil, rfl, fun h hh => by cases hh⟩
  | p :: L, hp => by
    obtain ⟨hs', e1, e2, e3⟩ := keys_back (L := L) fun q hq => hp q (List.mem_cons_of_mem _ hq)
    obtain ⟨h1, h2⟩ := hp p List.mem_cons_self
    obtain ⟨h, hh, eh⟩ := List.mem_map.mp h2
    refine ⟨h :: hs', .cons ⟨p.1, rfl, by rw [h1, ← eh]; rfl⟩ e1, by rw [List.map_cons, List.map_cons, e2, eh], fun x hx => ?_⟩
    rcases List.mem_cons.mp hx with rfl | hx
    · exact hh
    · exact e3 x hx
theorem keyed_old {kvs : List (List L2.Key × V)} {l : List Hm} (h : keyed kvs l) {x : Hm} (hx : x ∈ l) (v : V) : keyed (putK kvs (hmK x) v) l := by
  have e := keyed_some h x
  rw [decide_eq_true hx] at e
  have : (kvs.any fun kv => decide (kv.1 = hmK x)) = true := by rw [valV_any]; exact e
  unfold keyed at h ⊢
  rw [← h]
  unfold putK
  rw [if_pos this, List.map_map]
  refine List.map_congr_left fun p _ => ?_
  show (if p.1 = hmK x then (p.1, v) else p).1 = p.1
  split <;> rfl
theorem prK_hm {H : Hp} {y : V} {h : Hm} (a : HmAt H y h) : ∃ t, y = .ref t ∧ H t = some (.tup [.int (prK H y).1, .int (prK H y).2]) := by
  obtain ⟨b, rfl, e⟩ := a
  refine ⟨b, rfl, ?_⟩
  have e : H b = some (.tup [.int (h.1 : Nat), .int (h.2 : Nat)]) := e
  have e2 : prK H (.ref b) = ((h.1 : Int), (h.2 : Int)) := by unfold prK; simp only [e]
  rw [e2]; exact e
/-- breadth first: l found, the first n of them under account -/
structure Bfs (ld : Ld) (C : List Hm) (f : Hm) (l : List Hm) (n : Nat) : Prop where
  nd : l.Nodup
  r : ∀ h ∈ l, Rch ld C f h
  b : f ∈ C → f ∈ l
  e : ∀ (k : Nat) (h : Hm), k < n → l[k]? = some h → Expd ld C l h
theorem Bfs.done {ld : Ld} {C : List Hm} {f : Hm} {l : List Hm} {n : Nat} (a : Bfs ld C f l n) (hn : l.length ≤ n) (h : Hm) : h ∈ l ↔ Rch ld C f h := by
  refine ⟨a.r h, fun r => ?_⟩
  induction r with
  | base m => exact a.b m
  | step _ hw g hp ih =>
    obtain ⟨k, hk⟩ := List.getElem?_of_mem ih
    have := (List.getElem?_eq_some_iff.mp hk).1
    exact a.e k _ (by omega) hk _ hw g _ hp
theorem Bfs.few {ld : Ld} (ok : LdOk ld) {f : Hm} {l : List Hm} {n : Nat} (a : Bfs ld (chosenL ld) f l n) : l.length ≤ 12000 := Nat.le_trans (nd_len a.nd fun h hh => (a.r h hh).mem) (chosen_len ok)
/-- news of a good way behind l -/
theorem Bfs.more {ld : Ld} {C : List Hm} {f home : Hm} {l ns w : List Hm} {n : Nat} (a : Bfs ld C f l n) (hn : n ≤ l.length) (hh : home ∈ l) (hw : w ∈ waysL ld home) (g : goodW C w = true) (nn : ns.Nodup) (nm : ∀ h ∈ ns, h ∈ w ∧ h ∉ l) : Bfs ld C f (l ++ ns) n := by
  refine ⟨?_, fun h hx => ?_, fun h => List.mem_append.mpr (.inl (a.b h)), fun k h hk e => ?_⟩
  · rw [List.nodup_append]
    exact ⟨a.nd, nn, fun x hx y hy e => (nm y hy).2 (by rw [← e]; exact hx)⟩
  · rcases List.mem_append.mp hx with hx | hx
    · exact a.r h hx
    · exact .step (a.r _ hh) hw g (nm h hx).1
  · rw [List.getElem?_append_left (by omega)] at e
    intro w2 hw2 g2 p hp
    exact List.mem_append.mpr (.inl (a.e k h hk e w2 hw2 g2 p hp))
/-- what is seen: the same homes -/
def SeenAt (H : Hp) (ds : Addr) (l : List Hm) : Prop := ∃ kvs l2, H ds = some (.dT kvs) ∧ keyed kvs l2 ∧ l2.Nodup ∧ ∀ h, h ∈ l2 ↔ h ∈ l
def spLUseful (K : Fg) : Sp := fun vs H Q _ => ∃ (v : V) (dc : Addr) (ld : Ld) (i : Nat) (kc : List (List L2.Key × V)), vs = [v, .ref dc, .int i] ∧ LvAt K H v ld ∧ LdOk ld ∧ H dc = some (.dT kc) ∧ keyed kc (chosenL ld) ∧ i < ld.length ∧
  ∀ H' a xs l, Same H H' → H' a = some (.lst xs) → HmsAt H' xs l → Usf ld i l → Q (.ref a) H'
section
variable {P : Program} {w : World} {K : Fg} {mg : Str → Option Value} {base : Heap}
theorem ok_Luseful (T : Tp K mg) (F : Std K "_law_useful" "_law_useful" s_Luseful (He.ga K "_law_useful")) (D_Lways : Dn P w K mg base 1 (He.ga K "_law_ways") ["laid_v", "home"] (spLWays K)) :
    Dn P w K mg base 2 (He.ga K "_law_useful") ["laid_v", "chosen", "index"] (spLUseful K) := by
  refine dn_mk F sc_Luseful
    (fun _ _ _ _ _ _ us hl => match us, hl with | [_, _, _], _ => rfl)
    (fun vs H Q E h => ?_) fun cdv A outer s H vs Q E hr h => ?_
  · obtain ⟨v, dc, ld, i, kc, rfl, _⟩ := h; rfl
  obtain ⟨v, dc, ld, i, kc, rfl, lv, ok, hdc, hkc, hi, q⟩ := h
  have hu := hu_of hr
  generalize hf : ((i, begL ld i) : Hm) = f
  generalize hC : chosenL ld = C at hkc
  obtain ⟨b, ebf⟩ : ∃ b, b = begL ld i := ⟨_, rfl⟩
  have lv0 := lv
  obtain ⟨al, ls, rfl, hL, hLl, hg⟩ := lv0
  obtain ⟨bb, cc, ys, hx, hB, _, _⟩ := hg i hi
  refine ⟨_, (pss_cons (ps_set (i := 3) sc_Luseful.nd rfl (Or.inl rfl) (pe_tup (pa_cons (pv 2) (pa_cons (pe_ix (ixK (K := K) rfl) (pe_ix (ixK (K := K) rfl) (pv 0) (pv 2) (fun _ _ => rfl)) pe_int (fun _ _ => rfl)) pa_nil))))
    (pss_cons (ps_asg (pe_tup (pa_cons (pe_lst pa_nil) (pa_cons pe_dnewT pa_nil))) (pg_tup (by rfl) (pgs_cons (pg_name (i := 4) sc_Luseful.nd rfl (Or.inl rfl)) (pgs_cons (pg_name (i := 5) sc_Luseful.nd rfl (Or.inr rfl)) pgs_nil))))
    (pss_cons (ps_if (pt_cmp (pc_din hu (pv 3) (pv 1))) (pss_cons (ps_expr (pe_bm PySem.F.plainAttrs_list PySem.F.slot_list_append PySem.F.type_list_append mt_append (pv 4) (pa_cons (pv 3) pa_nil)))
    (pss_one (ps_dput hu (pv 5) (pv 3) pe_bl rfl))) pss_nil)
    (pss_cons (ps_for PassesOwn.never rfl (pi_range1 rfl T.b_range (pa_cons pe_int pa_nil)) (pg_name (i := 6) sc_Luseful.nd rfl (Or.inl rfl)) (pss_cons (ps_if (pt_cmpR op_ge (pv 6) (pe_callB (cLenK (K := K) rfl) (by rfl) T.b_len PySem.boot_len (pa_cons (pv 4) pa_nil)) (nomark _)) (pss_one (ps_ret (pe_callB cr_sortedPO (by rfl) T.b_sorted (by decide +kernel) (pa_cons (pv 4) pa_nil)))) pss_nil)
    (pss_one (ps_for PassesOwn.never rfl (iLstK (K := K) rfl (pe_f D_Lways (hr.mono (by omega)) T.g__law_ways (pa_cons (pv 0) (pa_cons (pe_ix (ixK (K := K) rfl) (pv 4) (pv 6) (fun _ _ => rfl)) pa_nil)))) (pg_name (i := 7) sc_Luseful.nd rfl (Or.inl rfl)) (pss_one (ps_if (pt_val (pe_callB (allK (K := K) rfl rfl) (by rfl) T.b_all (by decide +kernel) (pa_cons (pe_lc (own := [("part", 8)]) (tt := tYes) rfl sc_Luseful.nd (iTupK (K := K) rfl (pv 7)) (blkOk_by (N := N_Luseful) (sc := defScope s_Luseful) (own := [("part", 8)]) (by decide +kernel)) (fun _ _ _ _ _ => (pg_name (i := 8) sc_Luseful.nd rfl (Or.inl rfl))) (fun _ _ _ _ _ => pts_nil) (fun _ _ _ _ _ => (pe_cmp (pc_din hu (pv 8) (pv 1))))) pa_nil))) (pss_cons (ps_expr (pe_bm PySem.F.plainAttrs_list PySem.F.slot_list_extend PySem.F.type_list_extend mt_extend (pv 4) (pa_cons (pe_lc (own := [("part", 8)]) rfl sc_Luseful.nd (iLstK (K := K) rfl (pe_callB (cr_sortedT rfl) (by rfl) T.b_sorted (by decide +kernel) (pa_cons (pe_callTy (cr_setTT rfl (hu64 hr)) (by rfl) T.b_set (by decide +kernel) (pa_cons (pv 7) pa_nil)) pa_nil))) (blkOk_by (N := N_Luseful) (sc := defScope s_Luseful) (own := [("part", 8)]) (by decide +kernel)) (fun _ _ _ _ _ => (pg_name (i := 8) sc_Luseful.nd rfl (Or.inl rfl))) (fun _ _ _ _ _ => (pts_one (pt_cmp (pc_dnotin hu (pv 8) (pv 5))))) (fun _ _ _ _ _ => (pv 8))) pa_nil)))
    (pss_one (ps_for PassesOwn.never rfl (iTupK (K := K) rfl (pv 7)) (pg_name (i := 8) sc_Luseful.nd rfl (Or.inl rfl)) (pss_one (ps_dput hu (pv 5) (pv 8) pe_bl rfl))))) pss_nil))))))
    (pss_one (ps_ret (pe_callB cr_sortedPO (by rfl) T.b_sorted (by decide +kernel) (pa_cons (pv 4) pa_nil)))))))), ?_⟩
  refine ⟨_, rfl, _, rfl, _, rfl, .inl ⟨al, _, i, _, rfl, rfl, SqL.of hL, atI_nat hx, .inr (.inl ⟨bb, _, 0, _, rfl, rfl, hB, atI_nat (j := 0) rfl, (by show 2 ≤ sizeLine; decide), fun bf hbf => ?_⟩)⟩⟩
  have s1 := same_new hbf (.tup [.int (i : Nat), .int (begL ld i : Nat)])
  generalize hH1 : upd H bf (.tup [.int (i : Nat), .int (begL ld i : Nat)]) = H1 at s1
  have eb1 : H1 bf = some (.tup (hmV f)) := by rw [← hH1, ← hf]; exact upd_same
  refine ⟨Nat.zero_le _, fun lf hlf => fun ds hds => ⟨(by show 2 ≤ sizeLine; decide), fun tt htt => ?_⟩⟩
  have s2 := same_new hlf (.lst [])
  generalize hH2 : upd H1 lf (.lst []) = H2 at s2 hds htt
  have el2 : H2 lf = some (.lst []) := by rw [← hH2]; exact upd_same
  have s3 := same_new hds (.dT [])
  generalize hH3 : upd H2 ds (.dT []) = H3 at s3 htt
  have ed3 : H3 ds = some (.dT []) := by rw [← hH3]; exact upd_same
  have s4 := same_new htt (.tup [.ref lf, .ref ds])
  generalize hH4 : upd H3 tt (.tup [.ref lf, .ref ds]) = H4 at s4
  have et4 : H4 tt = some (.tup [.ref lf, .ref ds]) := by rw [← hH4]; exact upd_same
  refine ⟨tt, _, rfl, SqT.of et4, rfl, _, _, rfl, _, _, rfl, rfl, ?_⟩
  have s14 := s2.trans (s3.trans s4)
  have s04 := s1.trans s14
  have el4 := s4 _ _ (s3 _ _ el2)
  have ed4 := s4 _ _ ed3
  have eb4 := s14 _ _ eb1
  have hdc4 := s04 _ _ hdc
  have nld : lf ≠ ds := ne_of el4 ed4 nofun
  have back : ∀ H', Kp [lf, ds] H4 H' → Same H H' := fun H' k b o e => k _ _ (s04 _ _ e) (by
    have h1 := s1 _ _ e
    simp [ne_of_none h1 hlf, ne_of_none (s2 _ _ h1) hds])
  refine ⟨_, rfl, _, rfl, dc, _, rfl, DGet.t (k := hmK f) hdc4 eb4, _, rfl, ?_⟩
  rw [keyed_some hkc]
  have ltk : ∀ H', Kp [lf, ds] H4 H' → LvAt K H' (.ref al) ld ∧ H' dc = some (.dT kc) := fun H' k => ⟨lv.same (back H' k), back H' k _ _ hdc⟩
  have hmem : ∀ h ∈ C, h ∈ homesL ld := fun h hh => chosen_homes (by rw [hC]; exact hh)
  have st : ∀ H5 : Hp, Kp [lf, ds] H4 H5 → Tk H4 H5 → (∃ xs l, H5 lf = some (.lst xs) ∧ HmsAt H5 xs l ∧ SeenAt H5 ds l ∧ Bfs ld C f l 0) → Kp [lf, ds] H4 H5 ∧ Tk H4 H5 ∧ ∃ xs l, H5 lf = some (.lst xs) ∧ HmsAt H5 xs l ∧ SeenAt H5 ds l ∧ Bfs ld C f l 0 := fun _ a b c => ⟨a, b, c⟩
  by_cases hin : f ∈ C
  case' pos =>
    refine ift (decide_eq_true hin) ⟨_, rfl, .inl ⟨rfl, _, SqL.of el4⟩, _, rfl, lf, [], _, rfl, rfl, el4, (by show 0 < sizeLine; decide), ?_⟩
    have ta := tk_lst (o' := .lst ([] ++ [.ref bf])) el4
    have ka : Kp [lf, ds] H4 (upd H4 lf (.lst ([] ++ [.ref bf]))) := kp_upd (by simp) _
    generalize hHa : upd H4 lf (.lst ([] ++ [.ref bf])) = Ha at ta ka
    have ela : Ha lf = some (.lst [.ref bf]) := by rw [← hHa]; exact upd_same
    have eda : Ha ds = some (.dT []) := by rw [← hHa, upd_ne nld.symm]; exact ed4
    have eba := ta.t _ _ eb4
    refine ⟨_, rfl, _, rfl, ds, _, rfl, DPut.t (k := hmK f) eda eba (by show 0 < sizeLine; decide), ?_⟩
    have tb := tk_dT (o' := .dT (putK [] (hmK f) (.bl true))) eda
    have kb : Kp [lf, ds] Ha (upd Ha ds (.dT (putK [] (hmK f) (.bl true)))) := kp_upd (by simp) _
    obtain ⟨k5, t5, xs0, l0, el5, p5, sn5, bf5⟩ := st (upd Ha ds (.dT (putK [] (hmK f) (.bl true)))) (ka.trans kb) (ta.trans tb) ⟨[.ref bf], [f], by rw [upd_ne nld]; exact ela, .cons ⟨bf, rfl, tb.t _ _ eba⟩ .nil,
      ⟨_, [f], upd_same, keyed_put (kvs := []) (l := []) rfl (by simp) _, by simp, fun h => Iff.rfl⟩, by simp, fun h hh => by rw [List.mem_singleton.mp hh]; exact .base hin, fun _ => by simp, fun k h hk => by omega⟩
    generalize hH5 : upd Ha ds (.dT (putK [] (hmK f) (.bl true))) = H5 at k5 t5 el5 p5 sn5
  case' neg =>
    obtain ⟨k5, t5, xs0, l0, el5, p5, sn5, bf5⟩ := st H4 (.refl _ _) (.refl _) ⟨[], [], el4, .nil, ⟨[], [], ed4, rfl, List.nodup_nil, fun h => Iff.rfl⟩, List.nodup_nil, fun h hh => (by cases hh), fun z => (hin z).elim, fun k h hk => by omega⟩
    refine iff' (decide_eq_false hin) ?_
    generalize hH5 : H4 = H5
    have k5 : Kp [lf, ds] H4 H5 := by rw [← hH5]; exact .refl _ _
    have t5 : Tk H4 H5 := by rw [← hH5]; exact .refl _
    rw [hH5] at el5 p5 sn5
  all_goals
    clear st
    have fin : ∀ (H6 : Hp) (xs : List V) (l : List Hm) (n : Nat), Kp [lf, ds] H4 H6 → H6 lf = some (.lst xs) → HmsAt H6 xs l → Bfs ld C f l n → l.length ≤ n → ∀ ys p, SrtO.Srtd (ltP (prK H6)) ys → SrtO.Stb (ltP (prK H6)) ys xs → H6 p = none → Q (.ref p) (upd H6 p (.lst ys)) := fun H6 xs l n k6 el6 p6 bf6 hn ys p hs hst hp => by
      obtain ⟨bs, eb⟩ := p6.refs
      subst eb
      obtain ⟨l', c1, c2, c3⟩ := sorted_hms p6 bf6.nd (k := prK H6) (fun b hb => by
        obtain ⟨j, hj⟩ := List.getElem?_of_mem hb
        obtain ⟨h, _, hm⟩ := p6.get (i := j) (v := .ref b) (by rw [List.getElem?_map, hj]; rfl)
        obtain ⟨t, et, e⟩ := prK_hm hm
        cases et; exact e) hs hst.perm
      have s7 := same_new hp (.lst ys)
      refine q _ p ys l' ((back H6 k6).trans s7) upd_same (c1.tk (tk_same s7)) ⟨c2, fun h => ?_⟩
      rw [hC, hf]
      exact (c3 h).trans (bf6.done hn h)
    have e100 : ((100000 : Int)).toNat = 100000 := by decide
    refine ⟨100000, rfl, by decide, by decide, ?_⟩
    rw [e100]
    refine for_it (walk_range (lo := 0)) (fun n σ H' => ∃ (xs : List V) (l : List Hm) (v6 v7 v8 : Option V), σ = [some (.ref al), some (.ref dc), some (.int (i : Nat)), some (.ref bf), some (.ref lf), some (.ref ds), v6, v7, v8] ∧ Kp [lf, ds] H4 H' ∧ Tk H4 H' ∧ H' lf = some (.lst xs) ∧ HmsAt H' xs l ∧ SeenAt H' ds l ∧ Bfs ld C f l n)
      ⟨xs0, l0, none, none, none, rfl, k5, t5, el5, p5, sn5, bf5⟩ (fun _ _ _ _ _ => trivial) ?_ ?_
    · rintro n z σ H60 H6 hn ⟨xs, l, v6, v7, v8, rfl, k6, t6, el6, p6, sn6, bf6⟩ ⟨rfl, hz⟩
      have hz : z = V.int ((n : Nat) : Int) := by rw [hz]; show V.int (0 + (n : Int)) = _; rw [Int.zero_add]
      subst hz
      have lx := p6.len
      have cl : l.length ≤ 12000 := by
        rw [← hC] at bf6
        exact bf6.few ok
      obtain ⟨lv6, hdc6⟩ := ltk H6 k6
      refine ⟨_, rfl, _, rfl, _, _, rfl, .inl ⟨_, SqL.of el6, rfl⟩, _, _, rfl, rfl, _, rfl, ?_⟩
      by_cases hlt : n < l.length
      case neg =>
        refine ift (decide_eq_true (by omega)) ⟨_, rfl, lf, xs, prK H6, rfl, SqL.of el6, fun x hx => ?_, fin H6 xs l n k6 el6 p6 bf6 (by omega)⟩
        obtain ⟨j, hj⟩ := List.getElem?_of_mem hx
        obtain ⟨h, _, hm⟩ := p6.get hj
        exact prK_hm hm
      refine iff' (decide_eq_false (by omega)) ?_
      have hx : xs[n]? = some (xs[n]'(by omega)) := List.getElem?_eq_getElem (by omega)
      obtain ⟨home, hh, b6, eb, hb⟩ := p6.get hx
      rw [eb] at hx
      have mem := hmem home (bf6.r home (List.mem_of_getElem? hh)).mem
      refine ⟨_, rfl, _, rfl, _, rfl, .inl ⟨lf, _, n, _, rfl, rfl, SqL.of el6, atI_nat hx, .ref al, .ref b6, ld, home, rfl, lv6, ok, ⟨b6, rfl, hb⟩, mem, fun H7 a ws hna s7 ha hW => ?_⟩⟩
      have nal : a ≠ lf := (ne_of_none el6 hna).symm
      have nad : a ≠ ds := by
        obtain ⟨kvs, l2, e, _⟩ := sn6
        exact (ne_of_none e hna).symm
      have k7 : Kp [lf, ds] H4 H7 := k6.trans (.of s7)
      have t7 := t6.trans (tk_same s7)
      have lw := hW.len
      have sn7 : SeenAt H7 ds l := by
        obtain ⟨kvs, l2, e, r⟩ := sn6
        exact ⟨kvs, l2, s7 _ _ e, r⟩
      refine ⟨a, rfl, ⟨_, SqL.of ha⟩, for_it walk_list (fun j σ H' => ∃ (xs : List V) (l : List Hm) (v7 v8 : Option V), σ = [some (.ref al), some (.ref dc), some (.int (i : Nat)), some (.ref bf), some (.ref lf), some (.ref ds), some (.int (n : Nat)), v7, v8] ∧ Kp [lf, ds] H7 H' ∧ Tk H7 H' ∧ H' lf = some (.lst xs) ∧ HmsAt H' xs l ∧ SeenAt H' ds l ∧ Bfs ld C f l n ∧ l[n]? = some home ∧
          ∀ (k : Nat) (w : List Hm), k < j → (waysL ld home)[k]? = some w → goodW C w = true → ∀ p ∈ w, p ∈ l)
        ⟨xs, l, v7, v8, rfl, .refl _ _, .refl _, s7 _ _ el6, p6.tk (tk_same s7), sn7, bf6, hh, fun k w hk => by omega⟩ (fun _ _ _ _ ⟨_, _, _, _, _, kk, _⟩ => SqL.of (kk _ _ ha (by simp [nal, nad]))) ?_ ?_⟩
      · rintro j y σ H80 H8 hj ⟨xs8, l8, v7, v8, rfl, k8, t8, el8, p8, sn8, bf8, hh8, al8⟩ ⟨rfl, hy⟩
        obtain ⟨w, hw, b2, ps, rfl, hb2, hps⟩ := hW.get hy
        have hwm := List.mem_of_getElem? hw
        have wl := way_len hwm
        have pl := hps.len
        have hb8 := t8.t _ _ hb2
        have hps8 := hps.tk t8
        have k48 : Kp [lf, ds] H4 H8 := k7.trans k8
        obtain ⟨lv8, hdc8⟩ := ltk H8 k48
        refine ⟨_, rfl, b2, rfl, ⟨_, SqT.of hb8⟩, fun D2 nD2 => lc_acc walk_tup [] (fun m acc _ => acc = ((w.take m).map fun p => V.bl (decide (p ∈ C)))) nD2 (fun _ _ H1 _ t _ => SqT.of (t.t _ _ hb8)) (fun _ _ _ _ _ _ _ p => p) rfl ?_ (by simp) ?_ ?_⟩
        · rw [pl]; exact Nat.lt_of_le_of_lt wl (by decide)
        · rintro m y2 acc2 H9 H9' hm kp9 tk9 hD9 hl9 rfl ⟨rfl, hy2⟩ N2 E2 hN2 _
          obtain ⟨h2, hh2, b3, rfl, hb3⟩ := (hps8.tk tk9).get hy2
          refine ⟨rfl, tyes ⟨_, rfl, _, rfl, dc, _, rfl, DGet.t (k := hmK h2) ((Kp.nil kp9) _ _ hdc8) hb3, ?_⟩⟩
          rw [keyed_some hkc]
          exact hN2 _ _ (.refl _ _) (.refl _) (by rw [take_snoc hh2]; simp)
        rintro H9 acc2 kp9 tk9 hD9 _ rfl
        have s9 := Kp.nil kp9
        have et2 : w.take ps.length = w := by rw [pl, List.take_length]
        rw [et2] at hD9
        have el9 := s9 _ _ el8
        have p9 := p8.tk (tk_same s9)
        have sn9 : SeenAt H9 ds l8 := by
          obtain ⟨kvs, l2, e, r⟩ := sn8
          exact ⟨kvs, l2, s9 _ _ e, r⟩
        refine ⟨D2, w.map fun p => decide (p ∈ C), rfl, SqL.of (by rw [hD9]; simp), _, rfl, ?_⟩
        rw [← goodW_take]
        by_cases hg : goodW C w = true
        case neg =>
          have hg : goodW C w = false := by simpa using hg
          refine iff' hg ⟨xs8, l8, _, _, rfl, k8.trans (.of s9), t8.trans (tk_same s9), el9, p9, sn9, bf8, hh8, fun k w2 hk hw2 g2 => ?_⟩
          rcases Nat.lt_or_ge k j with lkj | lkj
          · exact al8 k w2 lkj hw2 g2
          · have : k = j := by omega
            subst this
            rw [hw] at hw2
            cases hw2
            rw [hg] at g2; cases g2
        refine ift hg ?_
        have hb9 := s9 _ _ hb8
        have hps9 := hps8.tk (tk_same s9)
        obtain ⟨ks, ek1, ek2, ek3⟩ := hps9.keys
        have lks : ks.length = w.length := by rw [← pl, ek1, List.length_map]
        refine ⟨_, rfl, .inl ⟨rfl, _, SqL.of el9⟩, _, rfl, b2, ks, rfl, SqT.of (by rw [← ek1]; exact hb9), fun p hp => SqT.of (ek3 p hp), by omega, fun sa L hsa hL1 hL2 => ?_⟩
        have s10 := same_new hsa (SetTO P ‹World› sa L)
        have kmem : ∀ p ∈ ks, ∃ h ∈ w, hmI h = p.2 := fun p hp => by
          have : p.2 ∈ w.map hmI := by rw [← ek2]; exact List.mem_map.mpr ⟨p, hp, rfl⟩
          obtain ⟨h, hh, e⟩ := List.mem_map.mp this
          exact ⟨h, hh, e⟩
        have wC : ∀ h ∈ w, h ∈ C := fun h hh => of_decide_eq_true (List.all_eq_true.mp hg h hh)
        refine ⟨sa, L, 2, 1000000, rfl, upd_same, fun p hp => SqT.of (s10 _ _ (ek3 p (hL1 p hp))), by decide, fun p hp => ?_, fun L' sp pm nd l64 _ hsp => ?_⟩
        · obtain ⟨h, hh, e⟩ := kmem p (hL1 p hp)
          rw [← e]
          obtain ⟨c1, c2⟩ := mem_homes.mp (hmem h (wC h hh))
          have c3 := ok.n
          have c4 := (ok.len h.1 c1).2
          refine ⟨rfl, fun m hm => ?_⟩
          unfold hmI at hm
          rcases List.mem_cons.mp hm with rfl | hm
          · omega
          · rw [List.mem_singleton.mp hm]; omega
        have s11 := same_new hsp (.lst (L'.map fun p => V.ref p.1))
        have esp : (upd (upd H9 sa (SetTO P ‹World› sa L)) sp (.lst (L'.map fun p => V.ref p.1))) sp = some (.lst (L'.map fun p => V.ref p.1)) := upd_same
        have s911 := s10.trans s11
        obtain ⟨hs', q1, q2, q3⟩ := keys_back (H := upd (upd H9 sa (SetTO P ‹World› sa L)) sp (.lst (L'.map fun p => V.ref p.1))) (hs := w) (L := L') fun p hp => by
          have hp := hL1 p (pm.mem_iff.mp hp)
          obtain ⟨h, hh, e⟩ := kmem p hp
          exact ⟨s911 _ _ (ek3 p hp), List.mem_map.mpr ⟨h, hh, e⟩⟩
        have hsn : hs'.Nodup := by
          rw [q2] at nd
          exact List.Pairwise.of_map hmI (fun _ _ ne e => ne (congrArg hmI e)) nd
        have cov : ∀ h, h ∈ hs' ↔ h ∈ w := fun h => ⟨q3 h, fun hw2 => by
          have m1 : hmI h ∈ ks.map (·.2) := by rw [ek2]; exact List.mem_map.mpr ⟨h, hw2, rfl⟩
          obtain ⟨p, hp, e⟩ := List.mem_map.mp m1
          have m2 := hL2 p hp
          have m3 : p.2 ∈ L'.map (·.2) := (pm.map (·.2)).mem_iff.mpr m2
          rw [q2] at m3
          obtain ⟨h', hh', e'⟩ := List.mem_map.mp m3
          have : h' = h := hmI_inj (e'.trans e)
          rw [← this]; exact hh'⟩
        obtain ⟨kvs9, l29, ed9, kk9, nd29, m29⟩ := sn9
        have el11 := s911 _ _ el9
        have ed11 := s911 _ _ ed9
        have lq := q1.len
        have l2len : hs'.length ≤ 2 := Nat.le_trans (nd_len hsn fun h hh => (cov h).mp hh) wl
        refine ⟨sp, rfl, ⟨_, SqL.of esp⟩, fun D nD => lc_acc walk_list [] (fun m acc H' => HmsAt H' acc ((hs'.take m).filter (fun h => decide (h ∉ l8)))) nD (fun _ _ _ k _ _ => SqL.of ((Kp.nil k) _ _ esp)) (fun _ _ _ _ _ _ hD p => p.tk (tk_lst hD)) .nil ?_ (by simp) ?_ ?_⟩
        · rw [lq]; exact Nat.lt_of_le_of_lt l2len (by decide)
        · rintro m y2 acc H12 H12' hm kp12 tk12 hD12 la12 pw12 ⟨rfl, hy2⟩ N2 E2 hN2 hE2
          obtain ⟨h2, hh2, b3, rfl, hb3⟩ := (q1.tk tk12).get hy2
          have ef : (hs'.take (m + 1)).filter (fun h => decide (h ∉ l8)) = (hs'.take m).filter (fun h => decide (h ∉ l8)) ++ (if h2 ∉ l8 then [h2] else []) := by
            rw [take_snoc hh2, List.filter_append, List.filter_cons]; simp
          refine ⟨rfl, ?_⟩
          refine ⟨_, rfl, _, rfl, ds, _, rfl, DGet.t (k := hmK h2) ((Kp.nil kp12) _ _ ed11) hb3, _, rfl, ?_⟩
          rw [keyed_some kk9]
          by_cases h2in : h2 ∈ l8
          · refine iff' (by rw [decide_eq_true ((m29 h2).mpr h2in)]; rfl) (hE2 _ (.refl _ _) (.refl _) ?_)
            rw [ef, if_neg (fun z => z h2in), List.append_nil]; exact pw12
          · refine ift (by rw [decide_eq_false (fun z => h2in ((m29 h2).mp z))]; rfl) ⟨_, rfl, hN2 _ _ (.refl _ _) (.refl _) ?_⟩
            rw [ef, if_pos h2in]; exact pw12.snoc ⟨b3, rfl, hb3⟩
        rintro H12 acc kp12 tk12 hD12 la12 pw12
        have s12 := Kp.nil kp12
        rw [lq, List.take_length] at pw12
        generalize hns : hs'.filter (fun h => decide (h ∉ l8)) = ns at pw12
        have nsn : ns.Nodup := by rw [← hns]; exact hsn.filter _
        have nsm : ∀ h, h ∈ ns ↔ h ∈ w ∧ h ∉ l8 := fun h => by
          rw [← hns, List.mem_filter, cov h]; simp
        have bfN := bf8.more (ns := ns) (w := w) (by have := (List.getElem?_eq_some_iff.mp hh8).1; omega) (List.mem_of_getElem? hh8) hwm hg nsn fun h hh => (nsm h).mp hh
        have clN : (l8 ++ ns).length ≤ 12000 := by
          rw [← hC] at bfN
          exact bfN.few ok
        rw [List.length_append] at clN
        have l8x := p9.len
        have nsx := pw12.len
        have sz : 20000 ≤ sizeLine := by decide
        have el12 := s12 _ _ el11
        refine ⟨lf, D, xs8, acc, rfl, rfl, el12, hD12, by omega, ?_⟩
        have t13 := tk_lst (o' := .lst (xs8 ++ acc)) el12
        have k13 : Kp [lf, ds] H12 (upd H12 lf (.lst (xs8 ++ acc))) := kp_upd (by simp) _
        generalize hH13 : upd H12 lf (.lst (xs8 ++ acc)) = H13 at t13 k13
        have el13 : H13 lf = some (.lst (xs8 ++ acc)) := by rw [← hH13]; exact upd_same
        have ed13 : H13 ds = some (.dT kvs9) := by rw [← hH13, upd_ne nld.symm]; exact s12 _ _ ed11
        have s912 := s911.trans s12
        have t913 := (tk_same s912).trans t13
        have hb13 := t913.t _ _ hb9
        have hps13 := hps9.tk t913
        have p13 : HmsAt H13 (xs8 ++ acc) (l8 ++ ns) := (p9.tk t913).append (pw12.tk t13)
        refine ⟨_, rfl, b2, rfl, ⟨_, SqT.of hb13⟩, for_it walk_tup (fun m σ H' => ∃ v8, σ = [some (.ref al), some (.ref dc), some (.int (i : Nat)), some (.ref bf), some (.ref lf), some (.ref ds), some (.int (n : Nat)), some (.ref b2), v8] ∧ Kp [lf, ds] H13 H' ∧ Tk H13 H' ∧ H' lf = some (.lst (xs8 ++ acc)) ∧
            ∃ kvs l2, H' ds = some (.dT kvs) ∧ keyed kvs l2 ∧ l2.Nodup ∧ ∀ h, h ∈ l2 ↔ h ∈ l8 ∨ h ∈ w.take m)
          ⟨v8, rfl, .refl _ _, .refl _, el13, kvs9, l29, ed13, kk9, nd29, fun h => by rw [m29 h]; simp⟩ (fun _ _ _ _ ⟨_, _, _, t, _⟩ => SqT.of (t.t _ _ hb13)) ?_ ?_⟩
        · rintro m y2 σ H140 H14 hm ⟨v8, rfl, k14, t14, el14, kvs, l2, ed14, kk14, nd14, m14⟩ ⟨rfl, hy2⟩
          obtain ⟨h2, hh2, b3, rfl, hb3⟩ := (hps13.tk t14).get hy2
          have l2C : l2.length ≤ 12000 := by
            have := chosen_len ok
            rw [hC] at this
            refine Nat.le_trans (nd_len nd14 fun h hh => ?_) this
            rcases (m14 h).mp hh with z | z
            · exact (bf8.r h z).mem
            · exact wC h (List.mem_of_mem_take z)
          refine ⟨_, rfl, _, rfl, ds, _, rfl, DPut.t (k := hmK h2) ed14 hb3 (by rw [keyed_len kk14]; omega), ?_⟩
          have t15 := tk_dT (o' := .dT (putK kvs (hmK h2) (.bl true))) ed14
          refine ⟨_, rfl, k14.trans (kp_upd (by simp) _), t14.trans t15, by rw [upd_ne nld]; exact el14, ?_⟩
          by_cases h2in : h2 ∈ l2
          · refine ⟨_, l2, upd_same, keyed_old kk14 h2in _, nd14, fun h => ?_⟩
            rw [take_snoc hh2, List.mem_append, List.mem_singleton, m14 h]
            constructor
            · rintro (z | z)
              · exact .inl z
              · exact .inr (.inl z)
            · rintro (z | z | z)
              · exact .inl z
              · exact .inr z
              · subst z; exact (m14 h).mp h2in
          · refine ⟨_, l2 ++ [h2], upd_same, keyed_put kk14 h2in _, ?_, fun h => ?_⟩
            · rw [List.nodup_append]
              refine ⟨nd14, by simp, fun x hx y hy e => ?_⟩
              rw [List.mem_singleton.mp hy] at e
              subst e
              exact h2in hx
            · rw [take_snoc hh2, List.mem_append, List.mem_append, List.mem_singleton, m14 h]
              constructor
              · rintro ((z | z) | z)
                · exact .inl z
                · exact .inr (.inl z)
                · exact .inr (.inr z)
              · rintro (z | z | z)
                · exact .inl (.inl z)
                · exact .inl (.inr z)
                · exact .inr z
        · rintro σ H14 ⟨v8, rfl, k14, t14, el14, kvs, l2, ed14, kk14, nd14, m14⟩
          rw [pl, List.take_length] at m14
          refine ⟨xs8 ++ acc, l8 ++ ns, _, _, rfl, k8.trans ((Kp.of (s9.trans s912)).trans (k13.trans k14)), t8.trans ((tk_same s9).trans (t913.trans t14)), el14, p13.tk t14, ⟨kvs, l2, ed14, kk14, nd14, fun h => ?_⟩, bfN, ?_, fun k w2 hk hw2 g2 p hp => ?_⟩
          · rw [m14 h, List.mem_append, nsm h]
            constructor
            · rintro (z | z)
              · exact .inl z
              · by_cases h8 : h ∈ l8
                · exact .inl h8
                · exact .inr ⟨z, h8⟩
            · rintro (z | z)
              · exact .inl z
              · exact .inr z.1
          · rw [List.getElem?_append_left (List.getElem?_eq_some_iff.mp hh8).1]; exact hh8
          · rcases Nat.lt_or_ge k j with lkj | lkj
            · exact List.mem_append.mpr (.inl (al8 k w2 lkj hw2 g2 p hp))
            · have : k = j := by omega
              subst this
              rw [hw] at hw2
              cases hw2
              by_cases h8 : p ∈ l8
              · exact List.mem_append.mpr (.inl h8)
              · exact List.mem_append.mpr (.inr ((nsm p).mpr ⟨hp, h8⟩))
      · rintro σ H8 ⟨xs8, l8, v7, v8, rfl, k8, t8, el8, p8, sn8, bf8, hh8, al8⟩
        rw [lw] at al8
        refine ⟨xs8, l8, _, _, _, rfl, k7.trans k8, t7.trans t8, el8, p8, sn8, bf8.nd, bf8.r, bf8.b, fun k h hk e => ?_⟩
        rcases Nat.lt_or_ge k n with lkn | lkn
        · exact bf8.e k h lkn e
        · have : k = n := by omega
          subst this
          rw [hh8] at e
          cases e
          intro w2 hw2 g2
          obtain ⟨m, hm⟩ := List.getElem?_of_mem hw2
          exact al8 m w2 (List.getElem?_eq_some_iff.mp hm).1 hm g2
    · rintro σ H6 ⟨xs, l, v6, v7, v8, rfl, k6, t6, el6, p6, sn6, bf6⟩
      have cl : l.length ≤ 12000 := by
        rw [← hC] at bf6
        exact bf6.few ok
      refine ⟨_, rfl, lf, xs, prK H6, rfl, SqL.of el6, fun x hx => ?_, fin H6 xs l 100000 k6 el6 p6 bf6 (by omega)⟩
      obtain ⟨j, hj⟩ := List.getElem?_of_mem hx
      obtain ⟨h, _, hm⟩ := p6.get hj
      exact prK_hm hm
end
end PK

set_option linter.all false
set_option Elab.async false
set_option maxRecDepth 100000
set_option maxHeartbeats 4000000
/-! KJ: the law lays a program. -/
namespace PK
open PySem PySem.Spec PyProof.Rows L2
theorem idx_facts {L : List Str} {x : Str} (h : x ∈ L) : (L.map V.str)[L.idxOf x]? = some (.str x) ∧ eqV (.str x) (.str x) = true ∧ ∀ (m : Nat) (z : V), m < L.idxOf x → (L.map V.str)[m]? = some z → eqV z (.str x) = false := by
  have h1 := List.idxOf_lt_length_iff.mpr h
  refine ⟨by rw [List.getElem?_map, List.getElem?_eq_getElem h1, List.getElem_idxOf h1]; rfl, by show (x == x) = true; simp, fun m z hm e => ?_⟩
  rw [List.getElem?_map] at e
  have hm2 : m < L.length := by omega
  rw [List.getElem?_eq_getElem hm2] at e
  cases e
  show (L[m] == x) = false
  exact beq_eq_false_iff_ne.mpr fun e => by
    have := List.not_of_lt_findIdx (p := (· == x)) (xs := L) (i := m) hm
    simp [e] at this
structure LaIn (K : Fg) (al ah l sv : Addr) (L P : List Str) (S : List Bod) (xs : List V) (ps : Pls) (H : Hp) : Prop where
  lt : H al = some (.lst (L.map V.str))
  hd : H ah = some (.lst (P.map V.str))
  lp : H l = some (.lst xs)
  dp : Dats K H xs (ps.map oplD)
  sc : ∃ svs, H sv = some (.lst svs) ∧ Dats K H svs (bodDs S)
  n1 : al ≠ l
  n2 : ah ≠ l
  n3 : sv ≠ l
theorem LaIn.kp {K : Fg} {al ah l sv : Addr} {L P : List Str} {S : List Bod} {xs xs' : List V} {ps ps' : Pls} {H H' : Hp} (h : LaIn K al ah l sv L P S xs ps H) (k : Kp [l] H H') (t : Tk H H') (e : H' l = some (.lst xs')) (d : Dats K H' xs' (ps'.map oplD)) : LaIn K al ah l sv L P S xs' ps' H' :=
  ⟨k _ _ h.lt (by simpa using h.n1), k _ _ h.hd (by simpa using h.n2), e, d, let ⟨svs, a, b⟩ := h.sc; ⟨svs, k _ _ a (by simpa using h.n3), b.tk t⟩, h.n1, h.n2, h.n3⟩
theorem LaIn.same {K : Fg} {al ah l sv : Addr} {L P : List Str} {S : List Bod} {xs : List V} {ps : Pls} {H H' : Hp} (h : LaIn K al ah l sv L P S xs ps H) (s : Same H H') : LaIn K al ah l sv L P S xs ps H' := h.kp (.of s) (tk_same s) (s _ _ h.lp) (h.dp.tk (tk_same s))
theorem LaIn.sec {K : Fg} {al ah l sv sw : Addr} {L P : List Str} {S S' : List Bod} {xs svs : List V} {ps : Pls} {H : Hp} (h : LaIn K al ah l sv L P S xs ps H) (a : H sw = some (.lst svs)) (b : Dats K H svs (bodDs S')) (n : sw ≠ l) : LaIn K al ah l sw L P S' xs ps H :=
  ⟨h.lt, h.hd, h.lp, h.dp, ⟨svs, a, b⟩, h.n1, h.n2, n⟩
/-! no return: the second bodies don't matter -/
mutual
theorem layS_nr (I : Ix) : ∀ (s : Stm) (S : List Lay), nrS s = true → ∀ g ps, layS I s S g ps = layS I s [] g ps
  | .act _ _, _, _, _, _ => rfl
  | .call _, _, _, _, _ => rfl
  | .cho bs, S, h, g, ps => by simp only [nrS] at h; simp only [layS]; rw [layBs_nr I bs S h g ps]
  | .loop b, S, h, g, ps => by simp only [nrS] at h; simp only [layS]; rw [layB_nr I b S h]
  | .ret, _, h, _, _ => by cases h
  | .ens b s, S, h, g, ps => by
    simp only [nrS, Bool.and_eq_true] at h
    simp only [layS]
    rw [layB_nr I b (S ++ [layB I s []]) h.1, layB_nr I b ([] ++ [layB I s []]) h.1]
theorem layB_nr (I : Ix) : ∀ (b : List Stm) (S : List Lay), nrB b = true → ∀ g ps, layB I b S g ps = layB I b [] g ps
  | [], _, _, _, _ => rfl
  | s :: r, S, h, g, ps => by
    simp only [nrB, Bool.and_eq_true] at h
    simp only [layB]
    rw [layB_nr I r S h.2, layS_nr I s S h.1]
theorem layBs_nr (I : Ix) : ∀ (b : List (List Stm)) (S : List Lay), nrBs b = true → ∀ g ps, layBs I b S g ps = layBs I b [] g ps
  | [], _, _, _, _ => rfl
  | b :: r, S, h, g, ps => by
    simp only [nrBs, Bool.and_eq_true] at h
    simp only [layBs]
    rw [layB_nr I b S h.1, layBs_nr I r S h.2]
end
mutual
theorem plS_nr (rt : Nat) : ∀ s : Stm, nrS s = true → plS rt s = plS 0 s
  | .act _ _, _ => rfl
  | .call _, _ => rfl
  | .cho bs, h => by simp only [nrS] at h; simp only [plS]; rw [plBs_nr rt bs h]
  | .loop b, h => by simp only [nrS] at h; simp only [plS]; rw [plB_nr rt b h]
  | .ret, h => by cases h
  | .ens b s, h => by
    simp only [nrS, Bool.and_eq_true] at h
    simp only [plS]
    rw [plB_nr (rt + plB 0 s) b h.1, plB_nr (0 + plB 0 s) b h.1]
theorem plB_nr (rt : Nat) : ∀ b : List Stm, nrB b = true → plB rt b = plB 0 b
  | [], _ => rfl
  | s :: r, h => by
    simp only [nrB, Bool.and_eq_true] at h
    simp only [plB]
    rw [plB_nr rt r h.2, plS_nr rt s h.1]
theorem plBs_nr (rt : Nat) : ∀ b : List (List Stm), nrBs b = true → plBs rt b = plBs 0 b
  | [], _ => rfl
  | b :: r, h => by
    simp only [nrBs, Bool.and_eq_true] at h
    simp only [plBs]
    rw [plB_nr rt b h.1, plBs_nr rt r h.2]
end
/-- where the loop stands -/
def LaSt (K : Fg) (al ah l sv a : Addr) (H0 : Hp) (r : Nat × Pls) (σ : L2.St) (H' : Hp) : Prop := ∃ (gi : Int) (xs' : List V) (v6 v7 v8 v10 v11 v12 v13 : Option V), gi = (r.1 : Nat) ∧ σ = [some (.ref al), some (.ref ah), some (.ref l), some (.ref a), some (.int gi), some (.ref sv), v6, v7, v8, none, v10, v11, v12, v13] ∧
  Kp [l] H0 H' ∧ Tk H0 H' ∧ H' l = some (.lst xs') ∧ Dats K H' xs' (r.2.map oplD)
def spLLay (K : Fg) : Nat → Sp
  | 0 => fun _ _ _ _ => False
  | n + 1 => fun vs H Q _ => ∃ (al ah l sv : Addr) (L P : List Str) (v : V) (b : Bod) (g : Nat) (S : List Bod) (xs : List V) (ps : Pls), vs = [.ref al, .ref ah, .ref l, v, .int g, .ref sv] ∧ LaIn K al ah l sv L P S xs ps H ∧ Dat K H v (bodD b) ∧
      wfB L P b = true ∧ meaB (n + 1) b S L P ∧ ps.length + plB (secN S) b ≤ 1000000 ∧ LyOut K l H (layB (ixOf L P) b (secL (ixOf L P) S) g ps) Q
/-- behind the append of a place -/
theorem laid_one {K : Fg} {al ah l sv : Addr} {L P : List Str} {S : List Bod} {xs : List V} {ps : Pls} {H H1 : Hp} {v : V} {o : Option Pl} (h : LaIn K al ah l sv L P S xs ps H) (s : Same H H1) (d : Dat K H1 v (oplD o)) :
    Kp [l] H (upd H1 l (.lst (xs ++ [v]))) ∧ Tk H (upd H1 l (.lst (xs ++ [v]))) ∧ (upd H1 l (.lst (xs ++ [v]))) l = some (.lst (xs ++ [v])) ∧ Dats K (upd H1 l (.lst (xs ++ [v]))) (xs ++ [v]) ((ps ++ [o]).map oplD) := by
  have t : Tk H1 (upd H1 l (.lst (xs ++ [v]))) := tk_lst (s _ _ h.lp)
  refine ⟨(Kp.of s).trans (kp_upd (by simp) _), (tk_same s).trans t, upd_same, ?_⟩
  rw [List.map_append]
  exact ((h.dp.tk (tk_same s)).tk t).append (.cons (d.tk t) .nil)
section
variable {P : Program} {w : World} {K : Fg} {mg : Str → Option Value} {base : Heap}
theorem ok_Llay (n : Nat) (T : Tp K mg) (F : Std K "_law_lay" "_law_lay" s_Llay (He.ga K "_law_lay")) (D_Llay : Dn P w K mg base n (He.ga K "_law_lay") ["letters", "heads", "places", "body", "goal", "seconds"] (spLLay K n)) :
    Dn P w K mg base (n + 1) (He.ga K "_law_lay") ["letters", "heads", "places", "body", "goal", "seconds"] (spLLay K (n + 1)) := by
  refine dn_mk F sc_Llay
    (fun _ _ _ _ _ _ us hl => match us, hl with | [_, _, _, _, _, _], _ => rfl)
    (fun vs H Q E h => ?_) fun cdv A outer s H vs Q E hr h => ?_
  · obtain ⟨al, ah, l, sv, L, PP, v, b, g, S, xs, ps, rfl, _⟩ := h; rfl
  obtain ⟨al, ah, l, sv, L, PP, v, b, g, S, xs, ps, rfl, hi, hd, hw, hm, hlen, q⟩ := h
  obtain ⟨a, zs, rfl, hA, hZ⟩ := hd.inv_tup
  have hZ : Dats K H zs (b.map stmD) := by rw [← stmDs_map]; exact hZ
  have lz : zs.length = b.length := by rw [hZ.length, List.length_map]
  generalize eI : ixOf L PP = I at q
  have zl : ∀ {k : Nat}, k ≤ 1000000 → k < sizeLine := fun h => Nat.lt_of_le_of_lt h (by decide)
  refine ⟨_, (pss_cons (ps_for PassesOwn.never rfl (iTupK (K := K) rfl (pe_rev (K := K) rfl (pv 3))) (pg_name (i := 6) sc_Llay.nd rfl (Or.inl rfl)) (pss_cons (ps_set (i := 7) sc_Llay.nd rfl (Or.inl rfl) (pe_ix (ixK (K := K) rfl) (pv 6) pe_int (fun _ _ => rfl)))
    (pss_one (ps_if (pt_cmpR (inK (K := K) rfl) (pv 7) (pe_tup (pa_cons pe_str (pa_cons pe_str pa_nil))) (by rfl)) (pss_cons (ps_set (i := 8) sc_Llay.nd rfl (Or.inl rfl) (pe_op (oAddK (K := K) rfl) (pe_bm PySem.F.plainAttrs_list PySem.F.slot_list_index PySem.F.type_list_index mt_index (pv 0) (pa_cons (pe_ix (ixK (K := K) rfl) (pv 6) pe_int (fun _ _ => rfl)) pa_nil)) pe_int))
    (pss_cons (ps_expr (pe_bm PySem.F.plainAttrs_list PySem.F.slot_list_append PySem.F.type_list_append mt_append (pv 2) (pa_cons (pe_tup (pa_cons pe_str (pa_cons (pe_ifExp (pt_cmpR (oEqK (K := K) rfl (hu64 hr)) (pv 7) pe_str (nomark _)) (pv 8) (pe_un un_neg (pv 8))) (pa_cons (pv 4) pa_nil)))) pa_nil)))
    (pss_one (ps_set (i := 4) sc_Llay.nd rfl (Or.inr rfl) (pe_op op_sub (pe_callB (cLenK (K := K) rfl) (by rfl) T.b_len PySem.boot_len (pa_cons (pv 2) pa_nil)) pe_int))))) (pss_one (ps_if (pt_cmpR (oEqK (K := K) rfl (hu64 hr)) (pv 7) pe_str (nomark _)) (pss_cons (ps_expr (pe_bm PySem.F.plainAttrs_list PySem.F.slot_list_append PySem.F.type_list_append mt_append (pv 2) (pa_cons (pe_tup (pa_cons pe_str (pa_cons (pe_bm PySem.F.plainAttrs_list PySem.F.slot_list_index PySem.F.type_list_index mt_index (pv 1) (pa_cons (pe_ix (ixK (K := K) rfl) (pv 6) pe_int (fun _ _ => rfl)) pa_nil)) (pa_cons (pv 4) pa_nil)))) pa_nil)))
    (pss_one (ps_set (i := 4) sc_Llay.nd rfl (Or.inr rfl) (pe_op op_sub (pe_callB (cLenK (K := K) rfl) (by rfl) T.b_len PySem.boot_len (pa_cons (pv 2) pa_nil)) pe_int)))) (pss_one (ps_if (pt_cmpR (oEqK (K := K) rfl (hu64 hr)) (pv 7) pe_str (nomark _)) (pss_cons (ps_setLc (i := 10) (own := [("inner", 9)]) (tt := tYes) rfl sc_Llay.nd rfl rfl (sw_true rfl rfl rfl (by decide +kernel)) (iTupK (K := K) rfl (pe_ix (ixK (K := K) rfl) (pv 6) pe_int (fun _ _ => rfl))) (blkOk_by (N := N_Llay) (sc := defScope s_Llay) (own := [("inner", 9)]) (by decide +kernel)) (fun _ _ _ _ _ => (pg_name (i := 9) sc_Llay.nd rfl (Or.inl rfl))) (fun _ _ _ _ _ => pts_nil) (fun _ _ _ _ _ => (pe_f D_Llay (hr.mono (by omega)) T.g__law_lay (pa_cons (pv 0) (pa_cons (pv 1) (pa_cons (pv 2) (pa_cons (pv 9) (pa_cons (pv 4) (pa_cons (pv 5) pa_nil)))))))))
    (pss_cons (ps_expr (pe_bm PySem.F.plainAttrs_list PySem.F.slot_list_append PySem.F.type_list_append mt_append (pv 2) (pa_cons (pe_tup (pa_cons pe_str (pa_cons (pe_callTy (tupK (K := K) rfl) (by rfl) T.b_tuple (by decide +kernel) (pa_cons (pv 10) pa_nil)) pa_nil))) pa_nil)))
    (pss_one (ps_set (i := 4) sc_Llay.nd rfl (Or.inr rfl) (pe_op op_sub (pe_callB (cLenK (K := K) rfl) (by rfl) T.b_len PySem.boot_len (pa_cons (pv 2) pa_nil)) pe_int))))) (pss_one (ps_if (pt_cmpR (oEqK (K := K) rfl (hu64 hr)) (pv 7) pe_str (nomark _)) (pss_cons (ps_set (i := 11) sc_Llay.nd rfl (Or.inl rfl) (pe_callB (cLenK (K := K) rfl) (by rfl) T.b_len PySem.boot_len (pa_cons (pv 2) pa_nil)))
    (pss_cons (ps_expr (pe_bm PySem.F.plainAttrs_list PySem.F.slot_list_append PySem.F.type_list_append mt_append (pv 2) (pa_cons pe_non pa_nil)))
    (pss_cons (ps_set (i := 12) sc_Llay.nd rfl (Or.inl rfl) (pe_f D_Llay (hr.mono (by omega)) T.g__law_lay (pa_cons (pv 0) (pa_cons (pv 1) (pa_cons (pv 2) (pa_cons (pe_ix (ixK (K := K) rfl) (pv 6) pe_int (fun _ _ => rfl)) (pa_cons (pv 11) (pa_cons (pv 5) pa_nil))))))))
    (pss_cons (ps_asg (pe_tup (pa_cons pe_str (pa_cons (pe_tup (pa_cons (pv 12) (pa_cons (pv 4) pa_nil))) pa_nil))) (pg_sub (pv 2) (pv 11) set_list))
    (pss_one (ps_set (i := 4) sc_Llay.nd rfl (Or.inr rfl) (pv 11))))))) (pss_one (ps_if (pt_cmpR (oEqK (K := K) rfl (hu64 hr)) (pv 7) pe_str (nomark _)) (pss_cons (ps_set (i := 4) sc_Llay.nd rfl (Or.inr rfl) (pe_f D_Llay (hr.mono (by omega)) T.g__law_lay (pa_cons (pv 0) (pa_cons (pv 1) (pa_cons (pv 2) (pa_cons (pe_ix (ixK (K := K) rfl) (pv 6) pe_int (fun _ _ => rfl)) (pa_cons (pv 4) (pa_cons (pv 5) pa_nil))))))))
    (pss_one (ps_set (i := 4) sc_Llay.nd rfl (Or.inr rfl) (pe_f D_Llay (hr.mono (by omega)) T.g__law_lay (pa_cons (pv 0) (pa_cons (pv 1) (pa_cons (pv 2) (pa_cons (pe_ix (ixK (K := K) rfl) (pv 6) pe_int (fun _ _ => rfl)) (pa_cons (pv 4) (pa_cons (pe_op (oAddK (K := K) rfl) (pv 5) (pe_lst (pa_cons (pe_ix (ixK (K := K) rfl) (pv 6) pe_int (fun _ _ => rfl)) pa_nil))) pa_nil)))))))))) (pss_cons (ps_set (i := 4) sc_Llay.nd rfl (Or.inr rfl) pe_int)
    (pss_one (ps_for PassesOwn.never rfl (iLstK (K := K) rfl (pv 5)) (pg_name (i := 13) sc_Llay.nd rfl (Or.inl rfl)) (pss_one (ps_set (i := 4) sc_Llay.nd rfl (Or.inr rfl) (pe_f D_Llay (hr.mono (by omega)) T.g__law_lay (pa_cons (pv 0) (pa_cons (pv 1) (pa_cons (pv 2) (pa_cons (pv 13) (pa_cons (pv 4) (pa_cons (pe_lst pa_nil) pa_nil))))))))))))))))))))))))
    (pss_one (ps_ret (pv 4)))), ?_⟩
  refine ⟨_, rfl, a, zs, rfl, hA, fun ra hra => ?_⟩
  have s0 := same_new hra (.tup zs.reverse)
  generalize hH0 : upd H ra (.tup zs.reverse) = H0 at s0
  have er0 : H0 ra = some (.tup zs.reverse) := by rw [← hH0]; exact upd_same
  have hi0 := hi.same s0
  refine ⟨ra, rfl, ⟨_, SqT.of er0⟩, for_it walk_tup (fun i σ H' => LaSt K al ah l sv a H0 (layB I (b.drop (b.length - i)) (secL I S) g ps) σ H')
    ⟨g, xs, none, none, none, none, none, none, none, by rw [Nat.sub_zero, List.drop_length]; rfl, rfl, .refl _ _, .refl _, hi0.lp, by rw [Nat.sub_zero, List.drop_length]; exact hi0.dp⟩ (fun i σ H' _ ⟨_, _, _, _, _, _, _, _, _, _, _, _, t, _⟩ => SqT.of (t.t _ _ er0)) ?_ ?_⟩
  · rintro i x σ H10 H1 hlt ⟨gi, xs1, v6, v7, v8, v10, v11, v12, v13, egi, rfl, k1, t1, e1, d1⟩ ⟨rfl, hx⟩
    obtain ⟨g1, ps1, er⟩ : ∃ g1 ps1, (g1, ps1) = layB I (b.drop (b.length - i)) (secL I S) g ps := ⟨_, _, rfl⟩
    rw [← er] at egi d1
    have egi : gi = (g1 : Nat) := egi
    have d1 : Dats K H1 xs1 (ps1.map oplD) := d1
    subst egi
    rw [List.length_reverse] at hlt
    have hx : zs[zs.length - 1 - i]? = some x := by
      rw [List.getElem?_reverse hlt] at hx; exact hx
    obtain ⟨st, hst, hdx⟩ := dats_at hZ hx
    have hmm := List.mem_of_getElem? hst
    have hj : b.length - 1 - i < b.length := by omega
    rw [lz] at hst
    have ed : b.drop (b.length - (i + 1)) = st :: b.drop (b.length - i) := by
      have e : b.length - (i + 1) = b.length - 1 - i := by omega
      have e2 : b.length - i = b.length - 1 - i + 1 := by omega
      rw [e, e2, List.drop_eq_getElem_cons hj]
      rw [List.getElem?_eq_getElem hj] at hst
      rw [Option.some.inj hst]
    have eN : layS I st (secL I S) g1 ps1 = layB I (b.drop (b.length - (i + 1))) (secL I S) g ps := by rw [ed]; simp only [layB, ← er]
    have dd := depB_mem hmm
    have mS : meaS (n + 1) st S L PP := by
      refine ⟨by have := hm.1; omega, ?_⟩
      rcases hm.2 with ⟨m1, m2⟩ | ⟨m1, m0, m2⟩
      · exact .inl ⟨nrB_mem m1 hmm, by omega⟩
      · exact .inr ⟨by omega, by omega, m2⟩
    have ll : ps1.length + plS (secN S) st ≤ 1000000 := by
      have f1 := lenB I (b.drop (b.length - i)) _ _ (lens_sec I S) g ps
      rw [← er] at f1
      have f2 : plB (secN S) b = plB (secN S) (b.take (b.length - (i + 1))) + plB (secN S) (b.drop (b.length - (i + 1))) := by rw [← plB_append, List.take_append_drop]
      rw [ed] at f2
      simp only [plB] at f2
      have f1 : ps1.length = ps.length + plB (secN S) (b.drop (b.length - i)) := f1
      omega
    have hi1 := hi0.kp k1 t1 e1 d1
    have hdx1 := hdx.tk ((tk_same s0).trans t1)
    have hws := wfB_mem hw hmm
    have lx : xs1.length = ps1.length := d1.len2
    have n1 := mea_pos mS
    obtain ⟨c, w0, ys, rfl, ew, hC, hY⟩ := stm_get hdx1
    clear hx hst ed er
    refine ⟨_, rfl, .inr (.inl ⟨c, _, 0, _, rfl, rfl, hC, atI_nat (j := 0) rfl, ?_⟩)⟩
    refine ⟨_, rfl, (by show 2 ≤ sizeLine; decide), fun p0 hp0 => ⟨p0, [.str "do", .str "undo"], rfl, .inr (SqT.of upd_same), rfl, rfl, _, rfl, ?_⟩⟩
    have s2 := same_new hp0 (.tup [.str "do", .str "undo"])
    generalize hH2 : upd H1 p0 (.tup [.str "do", .str "undo"]) = H2 at s2
    have hi2 := hi1.same s2
    have t2 := tk_same s2
    have k02 : Kp [l] H0 H2 := k1.trans (.of s2)
    have t02 := t1.trans t2
    cases st with
    | act u x =>
      have ew : w0 = actW u := ew
      subst ew
      obtain ⟨y, _, rfl, h1, h2⟩ := hY.inv_cons
      cases h2.inv_nil
      rw [h1.inv_str] at hC
      have hxL : x ∈ L := of_decide_eq_true (show decide (x ∈ L) = true from hws)
      obtain ⟨f1, f2, f3⟩ := idx_facts hxL
      have hl1 : ps1.length + 1 ≤ 1000000 := ll
      refine ift (by cases u <;> decide +kernel) ?_
      refine ⟨_, rfl, .inl ⟨rfl, _, SqL.of hi2.lt⟩, _, rfl, .inr (.inl ⟨c, _, 1, _, rfl, rfl, t2.seq hC, atI_nat (j := 1) rfl, al, L.map V.str, .str x, L.idxOf x, .str x, rfl, rfl, SqL.of hi2.lt, rfl, flat_strs _, f1, f2, f3, .inl ⟨_, _, rfl, rfl, ?_⟩⟩)⟩
      have fin : ∀ p, H2 p = none → ∀ gi : Int, gi = (ps1.length : Nat) → LaSt K al ah l sv a H0 (layB I (b.drop (b.length - (i + 1))) (secL I S) g ps) [some (V.ref al), some (V.ref ah), some (V.ref l), some (V.ref a), some (V.int gi), some (V.ref sv), some (V.ref c), some (V.str (actW u)), some (V.int ((L.idxOf x : Nat) + 1)), none, v10, v11, v12, v13]
          (upd (upd H2 p (.tup [.str "letter", .int (actX I u x), .int (g1 : Nat)])) l (.lst (xs1 ++ [.ref p]))) := fun p hp gi hgi => by
        obtain ⟨m1, m2, m3, m4⟩ := laid_one (o := some (.ltr (actX I u x) g1)) hi2 (same_new hp (.tup [.str "letter", .int (actX I u x), .int (g1 : Nat)])) (.tup (SqT.of upd_same) (.cons (.str _) (.cons (.int _) (.cons (dat_nat g1) .nil))))
        rw [← eN]
        exact ⟨gi, _, _, _, _, _, _, _, _, hgi, rfl, k02.trans m1, t02.trans m2, m3, m4⟩
      have hlp : ∀ {p o}, H2 p = none → (upd H2 p o) l = some (.lst xs1) := fun hp => same_new hp _ _ _ hi2.lp
      have gl : ∀ p : Addr, (((xs1 ++ [V.ref p]).length : Nat) : Int) - 1 = (ps1.length : Nat) := fun p => by rw [List.length_append, lx]; simp
      cases u with
      | true =>
        have ea : actX I true x = -((L.idxOf x : Nat) + 1 : Int) := by rw [← eI]; rfl
        rw [ea] at fin
        refine ⟨_, rfl, .inl ⟨rfl, _, SqL.of hi2.lp⟩, _, rfl, .inl ⟨rfl, _, rfl, iff' (by decide +kernel) ⟨_, rfl, _, rfl, _, rfl, (by show 3 ≤ sizeLine; decide), fun p hp => ⟨l, xs1, _, rfl, rfl, hlp hp, zl (by omega), ?_⟩⟩⟩⟩
        exact ⟨_, rfl, _, _, rfl, .inl ⟨_, SqL.of upd_same, rfl⟩, _, _, rfl, rfl, fin p hp _ (gl p)⟩
      | false =>
        have ea : actX I false x = ((L.idxOf x : Nat) + 1 : Int) := by rw [← eI]; rfl
        rw [ea] at fin
        refine ⟨_, rfl, .inl ⟨rfl, _, SqL.of hi2.lp⟩, _, rfl, .inl ⟨rfl, _, rfl, ift (by decide +kernel) ⟨_, rfl, _, rfl, (by show 3 ≤ sizeLine; decide), fun p hp => ⟨l, xs1, _, rfl, rfl, hlp hp, zl (by omega), ?_⟩⟩⟩⟩
        exact ⟨_, rfl, _, _, rfl, .inl ⟨_, SqL.of upd_same, rfl⟩, _, _, rfl, rfl, fin p hp _ (gl p)⟩
    | call x =>
      have ew : w0 = "call" := ew
      subst ew
      obtain ⟨y, _, rfl, h1, h2⟩ := hY.inv_cons
      cases h2.inv_nil
      rw [h1.inv_str] at hC
      have hxP : x ∈ PP := of_decide_eq_true (show decide (x ∈ PP) = true from hws)
      obtain ⟨f1, f2, f3⟩ := idx_facts hxP
      have hl1 : ps1.length + 1 ≤ 1000000 := ll
      have ea : I.h x = PP.idxOf x := by rw [← eI]; rfl
      refine iff' (by decide +kernel) ⟨_, rfl, .inl ⟨rfl, _, rfl, ift (by decide +kernel) ?_⟩⟩
      refine ⟨_, rfl, .inl ⟨rfl, _, SqL.of hi2.lp⟩, _, rfl, .inl ⟨rfl, _, SqL.of hi2.hd⟩, _, rfl, .inr (.inl ⟨c, _, 1, _, rfl, rfl, t2.seq hC, atI_nat (j := 1) rfl, ah, PP.map V.str, .str x, PP.idxOf x, .str x, rfl, rfl, SqL.of hi2.hd, rfl, flat_strs _, f1, f2, f3, _, rfl, (by show 3 ≤ sizeLine; decide), fun p hp => ?_⟩)⟩
      obtain ⟨m1, m2, m3, m4⟩ := laid_one (o := some (.call (PP.idxOf x) g1)) hi2 (same_new hp (.tup [.str "call", .int (PP.idxOf x : Nat), .int (g1 : Nat)])) (.tup (SqT.of upd_same) (.cons (.str _) (.cons (dat_nat _) (.cons (dat_nat g1) .nil))))
      refine ⟨l, xs1, _, rfl, rfl, same_new hp _ _ _ hi2.lp, zl (by omega), ?_⟩
      refine ⟨_, rfl, _, _, rfl, .inl ⟨_, SqL.of upd_same, rfl⟩, _, _, rfl, rfl, ?_⟩
      show LaSt _ _ _ _ _ _ _ _ _ _
      rw [← eN]
      exact ⟨_, _, _, _, _, _, _, _, _, by rw [List.length_append, lx]; simp [layS], rfl, k02.trans m1, t02.trans m2, m3, by simp only [layS]; rw [ea]; exact m4⟩
    | cho bs =>
      have ew : w0 = "choose" := ew
      subst ew
      obtain ⟨y, _, rfl, h1, h2⟩ := hY.inv_cons
      cases h2.inv_nil
      obtain ⟨cz, ys, rfl, hCz, hYs⟩ := (h1.tk t2).inv_tup
      have hYs : Dats K H2 ys (bs.map bodD) := by rw [← bodDs_map]; exact hYs
      have ly : ys.length = bs.length := by rw [hYs.length, List.length_map]
      have hw2 := hws
      simp only [wfS, Bool.and_eq_true, decide_eq_true_eq] at hw2
      have hl1 : ps1.length + (1 + plBs (secN S) bs) ≤ 1000000 := ll
      obtain ⟨m, rfl⟩ : ∃ m, n = m + 1 := ⟨n - 1, by omega⟩
      refine iff' (by decide +kernel) ⟨_, rfl, .inl ⟨rfl, _, rfl, iff' (by decide +kernel) ⟨_, rfl, .inl ⟨rfl, _, rfl, ift (by decide +kernel) ?_⟩⟩⟩⟩
      refine ⟨_, rfl, .inr (.inl ⟨c, _, 1, _, rfl, rfl, t2.seq hC, atI_nat (j := 1) rfl, cz, rfl, ⟨_, hCz⟩, fun D nD => lc_acc walk_tup [l] (fun i acc H' => ∃ xs' : List V, acc = (layBs I (bs.take i) (secL I S) g1 ps1).1.map (fun n : Nat => V.int n) ∧ H' l = some (.lst xs') ∧ Dats K H' xs' ((layBs I (bs.take i) (secL I S) g1 ps1).2.map oplD)) nD
        (fun _ _ H1 _ t _ => t.seq hCz) (fun i acc H1 zs1 o k e ⟨xs', p1, p2, p3⟩ => ?_) ⟨xs1, rfl, same_new nD _ _ _ hi2.lp, hi2.dp.tk (tk_same (same_new nD _))⟩ ?_ ?_ ?_ ?_⟩)⟩
      · have nlD : l ≠ D := ne_of_none hi2.lp nD
        exact ⟨xs', p1, by rw [upd_ne nlD]; exact p2, p3.tk (tk_lst e)⟩
      · rw [ly]; exact Nat.lt_of_le_of_lt hw2.2.1 (by decide)
      · simpa using (ne_of_none hi2.lp nD).symm
      · rintro j y acc H3 H3' hj k t hD hl ⟨xs3, rfl, p2, p3⟩ ⟨rfl, hy⟩ N E1 hN _
        obtain ⟨bd, hbd, hyd⟩ := dats_at hYs hy
        have hm2 := List.mem_of_getElem? hbd
        have e1 := lenBs I (bs.take j) _ _ (lens_sec I S) g1 ps1
        have e2 := plBs_take_le (secN S) bs (j + 1)
        rw [take_snoc hbd, plBs_append] at e2
        simp only [plBs] at e2
        have mb := mea_sub mS (fun _ _ => nofun) (b := bd) hm2
        have hi3 := hi2.kp k t p2 p3
        refine ⟨rfl, tyes ⟨_, rfl, _, rfl, _, rfl, _, rfl, _, rfl, _, rfl, al, ah, l, sv, L, PP, y, bd, g1, S, xs3, _, rfl, hi3, hyd.tk t, wfBs_mem hw2.2.2 hm2, mb, by omega, fun H4 xs4 k4 t4 e4 d4 => hN _ _ k4 t4 ⟨xs4, ?_, e4, ?_⟩⟩⟩
        · rw [take_snoc hbd, layBs_snoc, eI]; simp
        · rw [eI] at d4; rw [take_snoc hbd, layBs_snoc]; exact d4
      · rintro H3 acc k t hD _ ⟨xs3, rfl, p2, p3⟩
        have et : bs.take ys.length = bs := by rw [ly, List.take_length]
        rw [et] at p3
        rw [et] at hD
        have e1 := lenBs I bs _ _ (lens_sec I S) g1 ps1
        have hi3 := hi2.kp k t p2 p3
        have l3 := p3.len2
        have b8 : (layBs I bs (secL I S) g1 ps1).1.length = bs.length := layBs_len1 I _ _ bs ps1
        refine ⟨_, rfl, .inl ⟨rfl, _, SqL.of p2⟩, _, rfl, D, _, rfl, .inl ⟨SqL.of hD, fun r hr => ⟨(by show 2 ≤ sizeLine; decide), fun p hp => ?_⟩⟩⟩
        have s3 := same_new hr (.tup ((layBs I bs (secL I S) g1 ps1).1.map (fun n : Nat => V.int n)))
        have s4 := same_new hp (.tup [.str "fork", .ref r])
        have s34 := s3.trans s4
        obtain ⟨m1, m2, m3, m4⟩ := laid_one (o := some (.fork (layBs I bs (secL I S) g1 ps1).1)) hi3 s34 (.tup (SqT.of upd_same) (.cons (.str _) (.cons (.tup (SqT.of (s4 _ _ upd_same)) (dats_nats _)) .nil)))
        refine ⟨l, xs3, _, rfl, rfl, s34 _ _ p2, zl (by omega), ?_⟩
        refine ⟨_, rfl, _, _, rfl, .inl ⟨_, SqL.of upd_same, rfl⟩, _, _, rfl, rfl, ?_⟩
        show LaSt _ _ _ _ _ _ _ _ _ _
        rw [← eN]
        exact ⟨_, _, _, _, _, _, _, _, _, by rw [List.length_append, l3]; simp [layS], rfl, k02.trans (k.trans m1), t02.trans (t.trans m2), m3, m4⟩
    | loop bd =>
      have ew : w0 = "loop" := ew
      subst ew
      obtain ⟨y, _, rfl, h1, h2⟩ := hY.inv_cons
      cases h2.inv_nil
      have hl1 : ps1.length + (1 + plB (secN S) bd) ≤ 1000000 := ll
      obtain ⟨m, rfl⟩ : ∃ m, n = m + 1 := ⟨n - 1, by omega⟩
      refine iff' (by decide +kernel) ⟨_, rfl, .inl ⟨rfl, _, rfl, iff' (by decide +kernel) ⟨_, rfl, .inl ⟨rfl, _, rfl, iff' (by decide +kernel) ⟨_, rfl, .inl ⟨rfl, _, rfl, ift (by decide +kernel) ?_⟩⟩⟩⟩⟩⟩
      obtain ⟨m1, m2, m3, m4⟩ := laid_one (o := none) hi2 (.refl H2) .non
      have hi3 := hi2.kp m1 m2 m3 m4
      have mb := mea_sub mS (fun _ _ => nofun) (b := bd) (List.mem_singleton.mpr rfl)
      have el : (ps1 ++ [none]).length = ps1.length + 1 := by simp
      refine ⟨_, rfl, _, _, rfl, .inl ⟨_, SqL.of hi2.lp, lx.symm⟩, ?_⟩
      refine ⟨_, rfl, .inl ⟨rfl, _, SqL.of hi2.lp⟩, l, xs1, _, rfl, rfl, hi2.lp, zl (by omega), ?_⟩
      have hC3 := m2.seq (t2.seq hC)
      have h13 := (h1.tk t2).tk m2
      refine ⟨_, rfl, _, rfl, _, rfl, _, rfl, .inr (.inl ⟨c, _, 1, _, rfl, rfl, hC3, atI_nat (j := 1) rfl, _, rfl, _, rfl, ?_⟩)⟩
      refine ⟨al, ah, l, sv, L, PP, y, bd, ps1.length, S, _, ps1 ++ [none], rfl, hi3, h13, hws, mb, by rw [el]; omega, fun H4 xs4 k4 t4 e4 d4 => ?_⟩
      rw [eI] at d4
      rw [eI]
      have hi4 := hi3.kp k4 t4 e4 d4
      refine ⟨_, rfl, _, rfl, (by show 2 ≤ sizeLine; decide), fun p hp => ⟨(by show 2 ≤ sizeLine; decide), fun r hr => ?_⟩⟩
      have s5 := same_new hp (.tup [.int (layB I bd (secL I S) ps1.length (ps1 ++ [none])).1, .int (g1 : Nat)])
      have s6 := same_new hr (.tup [.str "fork", .ref p])
      have s56 := s5.trans s6
      have dr : Dat K (upd (upd H4 p (.tup [.int (layB I bd (secL I S) ps1.length (ps1 ++ [none])).1, .int (g1 : Nat)])) r (.tup [.str "fork", .ref p])) (.ref r) (plD (.fork [(layB I bd (secL I S) ps1.length (ps1 ++ [none])).1, g1])) :=
        .tup (SqT.of upd_same) (.cons (.str _) (.cons (.tup (SqT.of (s6 _ _ upd_same)) (dats_nats [_, g1])) .nil))
      have l4 := d4.len2
      have l5 := lenB I bd _ _ (lens_sec I S) ps1.length (ps1 ++ [none])
      have lj : ps1.length < xs4.length := by omega
      have hx4 := s56 _ _ e4
      refine ⟨_, rfl, _, rfl, l, xs4, (ps1.length : Nat), ps1.length, rfl, rfl, hx4, ?_, ?_⟩
      · unfold ixN
        rw [if_pos (by omega), if_pos (by omega)]; simp
      · refine ⟨_, rfl, ?_⟩
        have t7 := tk_lst (o' := .lst (xs4.set ps1.length (.ref r))) hx4
        have d7 := (d4.tk ((tk_same s56).trans t7)).set ps1.length (dr.tk t7)
        show LaSt _ _ _ _ _ _ _ _ _ _
        rw [← eN]
        refine ⟨_, _, _, _, _, _, _, _, _, rfl, rfl, k02.trans (m1.trans (k4.trans ((Kp.of s56).trans (kp_upd (by simp) _)))), t02.trans (m2.trans (t4.trans ((tk_same s56).trans t7))), upd_same, ?_⟩
        show Dats K _ _ (List.map oplD (List.set _ _ _))
        rw [List.map_set]
        exact d7
    | ret =>
      have ew : w0 = "return" := ew
      subst ew
      obtain ⟨svs, hsv, hsd⟩ := hi2.sc
      have hsd : Dats K H2 svs (S.map bodD) := by rw [← bodDs_map]; exact hsd
      have ls : svs.length = S.length := by rw [hsd.length, List.length_map]
      have hl1 : ps1.length + secN S ≤ 1000000 := ll
      have hm2 : 14 < n + 1 ∧ ∀ s ∈ S, wfB L PP s = true ∧ nrB s = true ∧ depB s ≤ 12 := by
        rcases mS.2 with ⟨h1, _⟩ | ⟨h1, _, h2⟩
        · cases h1
        · exact ⟨by simpa [depS] using h1, h2⟩
      obtain ⟨m, rfl⟩ : ∃ m, n = m + 1 := ⟨n - 1, by omega⟩
      refine iff' (by decide +kernel) ⟨_, rfl, .inl ⟨rfl, _, rfl, iff' (by decide +kernel) ⟨_, rfl, .inl ⟨rfl, _, rfl, iff' (by decide +kernel) ⟨_, rfl, .inl ⟨rfl, _, rfl, iff' (by decide +kernel) ⟨_, rfl, .inl ⟨rfl, _, rfl, iff' (by decide +kernel) ?_⟩⟩⟩⟩⟩⟩⟩⟩
      refine ⟨_, rfl, sv, rfl, ⟨_, SqL.of hsv⟩, for_it walk_list (fun j σ H' => ∃ (r : Nat × Pls) (gi : Int) (xs' : List V) (w13 : Option V), r = goAll (secL I (S.take j)) 0 ps1 ∧ gi = (r.1 : Nat) ∧ σ = [some (.ref al), some (.ref ah), some (.ref l), some (.ref a), some (.int gi), some (.ref sv), some (.ref c), some (.str "return"), v8, none, v10, v11, v12, w13] ∧ Kp [l] H2 H' ∧ Tk H2 H' ∧ H' l = some (.lst xs') ∧ Dats K H' xs' (r.2.map oplD))
        ⟨(0, ps1), 0, xs1, v13, rfl, rfl, rfl, .refl _ _, .refl _, hi2.lp, hi2.dp⟩ (fun j σ H' _ ⟨_, _, _, _, _, _, _, kk, _⟩ => SqL.of (kk _ _ hsv (by simpa using hi2.n3))) ?_ ?_⟩
      · rintro j y σ H30 H3 hj ⟨⟨g2, ps2⟩, gi, xs2, w13, er2, rfl, rfl, k3, t3, e3, d3⟩ ⟨rfl, hy⟩
        obtain ⟨s2', hs2, hsd2⟩ := dats_at hsd hy
        obtain ⟨w1, w2, w3⟩ := hm2.2 s2' (List.mem_of_getElem? hs2)
        have f1 := (lens_sec I (S.take j)).all 0 ps1
        rw [← er2] at f1
        have f1 : ps2.length = ps1.length + secN (S.take j) := f1
        have f2 := secN_take_le S (j + 1)
        rw [take_snoc hs2, secN_snoc] at f2
        have hi3 := hi2.kp k3 t3 e3 d3
        refine ⟨_, rfl, _, rfl, _, rfl, _, rfl, _, rfl, Nat.zero_le _, fun pe hpe => ?_⟩
        have s4 := same_new hpe (.lst [])
        have hi4 := (hi3.same s4).sec (sw := pe) (S' := []) upd_same .nil (ne_of_none hi3.lp hpe).symm
        refine ⟨al, ah, l, pe, L, PP, y, s2', g2, [], xs2, ps2, rfl, hi4, (hsd2.tk t3).tk (tk_same s4), w1, ⟨by simp only [List.length_nil]; omega, .inl ⟨w2, by omega⟩⟩, by show ps2.length + plB 0 s2' ≤ 1000000; omega, fun H5 xs5 k5 t5 e5 d5 => ?_⟩
        rw [eI] at d5
        rw [eI]
        refine ⟨_, _, xs5, some y, ?_, rfl, rfl, k3.trans ((Kp.of s4).trans k5), t3.trans ((tk_same s4).trans t5), e5, d5⟩
        rw [take_snoc hs2, secL_snoc, goAll_snoc, ← er2]; rfl
      · rintro σ H3 ⟨r, gi, xs2, w13, er2, rfl, rfl, k3, t3, e3, d3⟩
        rw [ls, List.take_length] at er2
        show LaSt _ _ _ _ _ _ _ _ _ _
        rw [← eN]
        have e5 : layS I .ret (secL I S) g1 ps1 = r := by rw [er2]; simp only [layS]
        rw [e5]
        exact ⟨_, _, _, _, _, _, _, _, _, rfl, rfl, k02.trans k3, t02.trans t3, e3, d3⟩
    | ens b1 b2 =>
      have ew : w0 = "ensure" := ew
      subst ew
      obtain ⟨y, _, rfl, h1, h2⟩ := hY.inv_cons
      obtain ⟨z, _, rfl, h3, h4⟩ := h2.inv_cons
      cases h4.inv_nil
      have hw2 := hws
      simp only [wfS, Bool.and_eq_true] at hw2
      have hl1 : ps1.length + (plB 0 b2 + plB (secN S + plB 0 b2) b1) ≤ 1000000 := ll
      have dd2 : depS (.ens b1 b2) = 1 + max (depB b1) (depB b2) := by simp only [depS]
      have hm1 := mS.1
      have m2 : meaB n b2 S L PP := ⟨by omega, .inl ⟨hw2.2.2, by rcases mS.2 with ⟨_, h⟩ | ⟨h, _⟩ <;> omega⟩⟩
      have m1 : meaB n b1 (S ++ [b2]) L PP := by
        refine ⟨by rw [List.length_append, List.length_singleton]; omega, ?_⟩
        rcases mS.2 with ⟨h1, h2⟩ | ⟨h1, h0, h2⟩
        · simp only [nrS, Bool.and_eq_true] at h1
          exact .inl ⟨h1.1, by omega⟩
        · refine .inr ⟨by omega, by omega, fun t ht => ?_⟩
          rcases List.mem_append.mp ht with ht | ht
          · exact h2 t ht
          · rw [List.mem_singleton.mp ht]
            exact ⟨hw2.2.1, hw2.2.2, by omega⟩
      obtain ⟨m, rfl⟩ : ∃ m, n = m + 1 := ⟨n - 1, by omega⟩
      have pn := plB_nr (secN S) b2 hw2.2.2
      refine iff' (by decide +kernel) ⟨_, rfl, .inl ⟨rfl, _, rfl, iff' (by decide +kernel) ⟨_, rfl, .inl ⟨rfl, _, rfl, iff' (by decide +kernel) ⟨_, rfl, .inl ⟨rfl, _, rfl, iff' (by decide +kernel) ⟨_, rfl, .inl ⟨rfl, _, rfl, ift (by decide +kernel) ?_⟩⟩⟩⟩⟩⟩⟩⟩
      refine ⟨_, rfl, _, rfl, _, rfl, _, rfl, .inr (.inl ⟨c, _, 2, _, rfl, rfl, t2.seq hC, atI_nat (j := 2) rfl, _, rfl, _, rfl, ?_⟩)⟩
      refine ⟨al, ah, l, sv, L, PP, z, b2, g1, S, xs1, ps1, rfl, hi2, h3.tk t2, hw2.2.1, m2, by rw [pn]; omega, fun H3 xs3 k3 t3 e3 d3 => ?_⟩
      rw [eI, layB_nr I b2 _ hw2.2.2] at d3
      rw [eI, layB_nr I b2 _ hw2.2.2]
      have hi3 := hi2.kp k3 t3 e3 d3
      have l3 := lenB I b2 _ _ .nil g1 ps1
      obtain ⟨svs, hsv, hsd⟩ := hi3.sc
      have lsv : svs.length = S.length := by rw [hsd.length, bodDs_map, List.length_map]
      have hC3 := t3.seq (t2.seq hC)
      refine ⟨_, rfl, _, rfl, _, rfl, _, rfl, .inr (.inl ⟨c, _, 1, _, rfl, rfl, hC3, atI_nat (j := 1) rfl, _, rfl, _, rfl, _, rfl, .inr (.inl ⟨c, _, 2, _, rfl, rfl, hC3, atI_nat (j := 2) rfl, (by show 1 ≤ sizeLine; decide), fun p1 hp1 => ?_⟩)⟩)⟩
      have s4 := same_new hp1 (.lst [z])
      refine .inr (.inr (.inl ⟨sv, p1, svs, [z], rfl, rfl, s4 _ _ hsv, upd_same, ?_, fun p2 hp2 => ?_⟩))
      · refine Nat.le_trans (?_ : _ ≤ 2000) (by decide)
        simp only [List.length_singleton]
        omega
      have s5 := same_new hp2 (.lst (svs ++ [z]))
      have s45 := s4.trans s5
      have eb : bodDs (S ++ [b2]) = bodDs S ++ [bodD b2] := by rw [bodDs_map, bodDs_map, List.map_append]; rfl
      have hi5 := (hi3.same s45).sec (sw := p2) (S' := S ++ [b2]) upd_same (by rw [eb]; exact (hsd.tk (tk_same s45)).append (.cons (((h3.tk t2).tk t3).tk (tk_same s45)) .nil)) (ne_of_none (s4 _ _ hi3.lp) hp2).symm
      refine ⟨al, ah, l, p2, L, PP, y, b1, (layB I b2 [] g1 ps1).1, S ++ [b2], xs3, (layB I b2 [] g1 ps1).2, rfl, hi5, ((h1.tk t2).tk t3).tk (tk_same s45), hw2.1, m1, by rw [secN_snoc]; omega, fun H6 xs6 k6 t6 e6 d6 => ?_⟩
      rw [eI, secL_snoc] at d6
      rw [eI, secL_snoc]
      show LaSt _ _ _ _ _ _ _ _ _ _
      rw [← eN]
      exact ⟨_, _, _, _, _, _, _, _, _, by simp only [layS], rfl, k02.trans (k3.trans ((Kp.of s45).trans k6)), t02.trans (t3.trans ((tk_same s45).trans t6)), e6, by simp only [layS]; exact d6⟩
  · rintro σ H1 ⟨gi, xs1, v6, v7, v8, v10, v11, v12, v13, egi, rfl, k1, t1, e1, d1⟩
    have ed : b.drop (b.length - zs.reverse.length) = b := by rw [List.length_reverse, lz, Nat.sub_self]; rfl
    rw [ed] at egi d1
    subst egi
    exact ⟨_, rfl, q H1 xs1 ((Kp.of s0).trans k1) ((tk_same s0).trans t1) e1 d1⟩
end
end PK

set_option linter.all false
set_option Elab.async false
set_option maxRecDepth 100000
set_option maxHeartbeats 4000000
/-! KK: the law lays a program, whole. -/
namespace PK
open PySem PySem.Spec PyProof.Rows L2
theorem all_Llay {P : Program} {w : World} {K : Fg} {mg : Str → Option Value} {base : Heap} (T : Tp K mg) (F : Std K "_law_lay" "_law_lay" s_Llay (He.ga K "_law_lay")) : ∀ n : Nat, Dn P w K mg base n (He.ga K "_law_lay") ["letters", "heads", "places", "body", "goal", "seconds"] (spLLay K n)
  | 0 => dn_never F
    (fun _ _ _ _ _ _ us hl => match us, hl with | [_, _, _, _, _, _], _ => rfl)
  | n + 1 => ok_Llay n T F (all_Llay T F n)
/-- laid in lists -/
def LvO (K : Fg) (H : Hp) (v : V) (rs : List (Nat × Pls)) : Prop := ∃ a xs, v = .ref a ∧ H a = some (.lst xs) ∧ xs.length = rs.length ∧ ∀ (q : Nat) (r : Nat × Pls), rs[q]? = some r → ∃ b c ys, xs[q]? = some (.ref b) ∧ SqT K H b [.int (r.1 : Nat), .ref c] ∧ H c = some (.lst ys) ∧ Dats K H ys (r.2.map oplD)
/-- what may be laid -/
structure LayOk (L P : List Str) (ps : List (Str × Bod)) : Prop where
  n : ps.length ≤ 50
  wf : ∀ q ∈ ps, wfB L P q.2 = true
  dep : ∀ q ∈ ps, depB q.2 ≤ 12
  pl : ∀ q ∈ ps, 1 + plB 0 q.2 ≤ 1000000
def spLLaid (K : Fg) : Sp := fun vs H Q _ => ∃ (a : Addr) (vl : V) (ap : Addr) (L : List Str) (ps : List (Str × Bod)) (pvs : List V) (al : Addr), vs = [.ref a] ∧ SqT K H a [vl, .ref ap] ∧ vl = .ref al ∧ (SqT K H al (L.map V.str) ∨ H al = some (.lst (L.map V.str))) ∧ L.length ≤ 1000 ∧ SqT K H ap pvs ∧ Dats K H pvs (ps.map procD) ∧
  LayOk L (ps.map (·.1)) ps ∧ ∀ H' r, Same H H' → LvO K H' r (ps.map fun q => layP (ixOf L (ps.map (·.1))) q.2) → Q r H'
section
variable {P : Program} {w : World} {K : Fg} {mg : Str → Option Value} {base : Heap}
theorem ok_Llaid (T : Tp K mg) (F : Std K "_law_laid" "_law_laid" s_Llaid (He.ga K "_law_laid")) (D_Llay : Dn P w K mg base 28 (He.ga K "_law_lay") ["letters", "heads", "places", "body", "goal", "seconds"] (spLLay K 28)) :
    Dn P w K mg base 29 (He.ga K "_law_laid") ["program"] (spLLaid K) := by
  refine dn_mk F sc_Llaid
    (fun _ _ _ _ _ _ us hl => match us, hl with | [_], _ => rfl)
    (fun vs H Q E h => ?_) fun cdv A outer s H vs Q E hr h => ?_
  · obtain ⟨a, vl, ap, L, ps, pvs, al, rfl, _⟩ := h; rfl
  obtain ⟨a, vl, ap, L, ps, pvs, al, rfl, hA, rfl, hL, lL, hP, hPd, ok, q⟩ := h
  have lp : pvs.length = ps.length := by rw [hPd.length, List.length_map]
  have n50 := ok.n
  refine ⟨_, (pss_cons (ps_par3 (i := 3) (j := 4) (l := 5) (by rfl) sc_Llaid.nd rfl rfl rfl (by decide) (by decide) (by decide) rfl rfl rfl (pa_cons (pe_callTy call_list_of (by rfl) T.b_list (by decide +kernel) (pa_cons (pe_ix (ixK (K := K) rfl) (pv 0) pe_int (fun _ _ => rfl)) pa_nil)) (pa_cons (pe_lc (own := [("head", 1), ("body", 2)]) (g := (gTup K 2 (gCons (gName 1) (gCons (gName 2) gNil)))) (tt := tYes) rfl sc_Llaid.nd (iTupK (K := K) rfl (pe_ix (ixK (K := K) rfl) (pv 0) pe_int (fun _ _ => rfl))) (blkOk_by (N := N_Llaid) (sc := defScope s_Llaid) (own := [("head", 1), ("body", 2)]) (by decide +kernel)) (fun _ _ _ _ _ => (pg_tup (by rfl) (pgs_cons (pg_name (i := 1) sc_Llaid.nd rfl (Or.inl rfl)) (pgs_cons (pg_name (i := 2) sc_Llaid.nd rfl (Or.inl rfl)) pgs_nil)))) (fun _ _ _ _ _ => pts_nil) (fun _ _ _ _ _ => (pv 1))) (pa_cons (pe_lst pa_nil) pa_nil))) (by rfl))
    (pss_cons (ps_for PassesOwn.never rfl (iTupK (K := K) rfl (pe_ix (ixK (K := K) rfl) (pv 0) pe_int (fun _ _ => rfl))) (pg_tup (by rfl) (pgs_cons (pg_name (i := 1) sc_Llaid.nd rfl (Or.inl rfl)) (pgs_cons (pg_name (i := 2) sc_Llaid.nd rfl (Or.inl rfl)) pgs_nil))) (pss_cons (ps_set (i := 6) sc_Llaid.nd rfl (Or.inl rfl) (pe_lst (pa_cons (pe_tup (pa_cons pe_str pa_nil)) pa_nil)))
    (pss_cons (ps_set (i := 7) sc_Llaid.nd rfl (Or.inl rfl) (pe_f D_Llay (hr.mono (by omega)) T.g__law_lay (pa_cons (pv 3) (pa_cons (pv 4) (pa_cons (pv 6) (pa_cons (pv 2) (pa_cons pe_int (pa_cons (pe_lst pa_nil) pa_nil))))))))
    (pss_one (ps_expr (pe_bm PySem.F.plainAttrs_list PySem.F.slot_list_append PySem.F.type_list_append mt_append (pv 5) (pa_cons (pe_tup (pa_cons (pv 7) (pa_cons (pv 6) pa_nil))) pa_nil)))))))
    (pss_one (ps_ret (pv 5))))), ?_⟩
  refine ⟨_, rfl, .inr (.inl ⟨a, _, 0, _, rfl, rfl, hA, atI_nat (j := 0) rfl, al, _, rfl, hL.elim .inr (fun z => .inl (SqL.of z)), fun ll hll => ?_⟩)⟩
  have s1 := same_new hll (.lst (L.map V.str))
  generalize hH1 : upd H ll (.lst (L.map V.str)) = H1 at s1
  have el1 : H1 ll = some (.lst (L.map V.str)) := by rw [← hH1]; exact upd_same
  have t1 := tk_same s1
  refine ⟨_, rfl, .inr (.inl ⟨a, _, 1, _, rfl, rfl, t1.seq hA, atI_nat (j := 1) rfl, ap, rfl, ⟨_, t1.seq hP⟩, fun hh nhh => lc_acc walk_tup [] (fun i acc _ => acc = (((ps.map (·.1)).take i).map V.str)) nhh (fun _ _ H1 _ t _ => t.seq (t1.seq hP)) (fun _ _ _ _ _ _ _ p => p) rfl ?_ (by simp) ?_ ?_⟩)⟩
  · rw [lp]; exact Nat.lt_of_le_of_lt n50 (by decide)
  · rintro i y acc H3 H3' hi k t hD la rfl ⟨rfl, hy⟩ N E1 hN _
    obtain ⟨pr, hpr, hxd⟩ := dats_at hPd hy
    obtain ⟨c, bv, rfl, hc, hb⟩ := proc_get (hxd.tk (t1.trans t))
    have hxh : (ps.map (·.1))[i]? = some pr.1 := by rw [List.getElem?_map, hpr]; rfl
    refine ⟨c, _, rfl, hc, rfl, _, _, rfl, _, _, rfl, rfl, rfl, tyes ⟨_, rfl, ?_⟩⟩
    exact hN _ _ (.refl _ _) (.refl _) (by rw [take_snoc hxh]; simp)
  rintro H2 acc k2 t2 hD _ rfl
  have s2 := Kp.nil k2
  have et : (ps.map (·.1)).take pvs.length = ps.map (·.1) := by rw [lp, List.take_of_length_le]; simp
  rw [et] at hD
  generalize hHd : ps.map (·.1) = hds at hD ok q
  refine ⟨Nat.zero_le _, fun lf hlf => ⟨_, _, _, rfl, ?_⟩⟩
  have s3 := same_new hlf (.lst [])
  generalize hH3 : upd H2 lf (.lst []) = H3 at s3
  have ef3 : H3 lf = some (.lst []) := by rw [← hH3]; exact upd_same
  have el3 := s3 _ _ (s2 _ _ el1)
  have eh3 := s3 _ _ hD
  have s13 := s1.trans (s2.trans s3)
  have t13 := tk_same s13
  have n1 : ll ≠ lf := ne_of_none (s2 _ _ el1) hlf
  have n2 : hh ≠ lf := ne_of_none hD hlf
  have back : ∀ H', Kp [lf] H3 H' → Same H H' := fun H' k b o e => k _ _ (s13 _ _ e) (by simpa using ne_of_none (s2 _ _ (s1 _ _ e)) hlf)
  refine ⟨_, rfl, .inr (.inl ⟨a, _, 1, _, rfl, rfl, t13.seq hA, atI_nat (j := 1) rfl, ap, rfl, ⟨_, t13.seq hP⟩, for_it walk_tup (fun i σ H' => ∃ (xs : List V) (v1 v2 v6 v7 : Option V), σ = [some (.ref a), v1, v2, some (.ref ll), some (.ref hh), some (.ref lf), v6, v7] ∧ Kp [lf] H3 H' ∧ Tk H3 H' ∧ H' lf = some (.lst xs) ∧ xs.length = i ∧
      ∀ (j : Nat) (pr : Str × Bod), j < i → ps[j]? = some pr → ∃ b c ys, xs[j]? = some (.ref b) ∧ SqT K H' b [.int ((layP (ixOf L hds) pr.2).1 : Nat), .ref c] ∧ H' c = some (.lst ys) ∧ Dats K H' ys ((layP (ixOf L hds) pr.2).2.map oplD) ∧ c ≠ lf)
    ⟨[], none, none, none, none, rfl, .refl _ _, .refl _, ef3, rfl, fun j pr hj => by omega⟩ (fun _ _ _ _ ⟨_, _, _, _, _, _, _, t, _⟩ => t.seq (t13.seq hP)) ?_ ?_⟩)⟩
  · rintro i x σ H40 H4 hi ⟨xs, v1, v2, v6, v7, rfl, k4, t4, ef4, lx, dn⟩ ⟨rfl, hx⟩
    obtain ⟨pr, hpr, hxd⟩ := dats_at hPd hx
    have mem := List.mem_of_getElem? hpr
    obtain ⟨c0, bv, rfl, hc, hb⟩ := proc_get (hxd.tk (t13.trans t4))
    have dep := ok.dep _ mem
    have pl := ok.pl _ mem
    refine ⟨c0, _, rfl, hc, rfl, _, _, rfl, _, _, rfl, rfl, ?_⟩
    refine ⟨(by show 1 ≤ sizeLine; decide), fun te hte => ⟨(by show 1 ≤ sizeLine; decide), fun lp hlp => ?_⟩⟩
    have s5 := same_new hte (.tup [.str "end"])
    have s6 := same_new hlp (.lst [.ref te])
    generalize hH6 : upd (upd H4 te (.tup [.str "end"])) lp (.lst [.ref te]) = H6 at s6
    have ep6 : H6 lp = some (.lst [.ref te]) := by rw [← hH6]; exact upd_same
    have s56 := s5.trans s6
    have dt6 : Dat K H6 (.ref te) (plD .fin) := .tup (SqT.of (s6 _ _ upd_same)) (.cons (.str _) .nil)
    have ef6 := s56 _ _ ef4
    have nlf : lf ≠ lp := ne_of_none (s5 _ _ ef4) hlp
    refine ⟨_, rfl, _, rfl, _, rfl, _, rfl, Nat.zero_le _, fun ls hls => ?_⟩
    have s7 := same_new hls (.lst [])
    generalize hH7 : upd H6 ls (.lst []) = H7 at s7
    have es7 : H7 ls = some (.lst []) := by rw [← hH7]; exact upd_same
    have s57 := s56.trans s7
    have el7 := s57 _ _ (k4 _ _ el3 (by simpa using n1))
    have eh7 := s57 _ _ (k4 _ _ eh3 (by simpa using n2))
    have hi7 : LaIn K ll hh lp ls L hds [] [.ref te] [some .fin] H7 := ⟨el7, eh7, s7 _ _ ep6, .cons (dt6.tk (tk_same s7)) .nil, ⟨[], es7, .nil⟩, ne_of_none (s5 _ _ (k4 _ _ el3 (by simpa using n1))) hlp, ne_of_none (s5 _ _ (k4 _ _ eh3 (by simpa using n2))) hlp, (ne_of_none ep6 hls).symm⟩
    refine ⟨ll, hh, lp, ls, L, hds, bv, pr.2, 0, [], [.ref te], [some .fin], rfl, hi7, hb.tk (tk_same s57), ok.wf _ mem, ⟨by show 0 + depB pr.2 ≤ 1000; omega, .inr ⟨by show depB pr.2 + 13 < 28; omega, dep, by simp⟩⟩, by show 1 + plB 0 pr.2 ≤ 1000000; omega, fun H8 xs8 k8 t8 e8 d8 => ?_⟩
    have k48 : Kp [lf] H4 H8 := fun b o e m => k8 _ _ (s57 _ _ e) (by simpa using ne_of_none (s5 _ _ e) hlp)
    have t48 : Tk H4 H8 := (tk_same s57).trans t8
    have ef8 : H8 lf = some (.lst xs) := k8 _ _ (s57 _ _ ef4) (by simpa using nlf)
    refine ⟨_, rfl, .inl ⟨rfl, _, SqL.of ef8⟩, _, rfl, _, rfl, (by show 2 ≤ sizeLine; decide), fun tp htp => ?_⟩
    have s9 := same_new htp (.tup [.int ((layP (ixOf L hds) pr.2).1 : Nat), .ref lp])
    have ef9 := s9 _ _ ef8
    refine ⟨lf, xs, _, rfl, rfl, ef9, Nat.lt_of_le_of_lt (by rw [lx]; omega : xs.length ≤ 1000) (by decide), ?_⟩
    have t10 := tk_lst (o' := .lst (xs ++ [.ref tp])) ef9
    refine ⟨xs ++ [.ref tp], _, _, _, _, rfl, k4.trans (k48.trans ((Kp.of s9).trans (kp_upd (by simp) _))), t4.trans (t48.trans ((tk_same s9).trans t10)), upd_same, by rw [List.length_append, lx]; rfl, fun j pr2 hj hpr2 => ?_⟩
    rcases Nat.lt_or_ge j i with lj | lj
    · obtain ⟨b, c, ys, q1, q2, q3, q4, q5⟩ := dn j pr2 lj hpr2
      refine ⟨b, c, ys, by rw [List.getElem?_append_left (by omega)]; exact q1, (t48.trans ((tk_same s9).trans t10)).seq q2, by rw [upd_ne q5]; exact s9 _ _ (k48 _ _ q3 (by simpa using q5)), q4.tk (t48.trans ((tk_same s9).trans t10)), q5⟩
    · have : j = i := by omega
      subst this
      rw [hpr] at hpr2
      cases hpr2
      refine ⟨tp, lp, xs8, by rw [List.getElem?_append_right (by omega), lx, Nat.sub_self]; rfl, t10.seq (SqT.of upd_same), by rw [upd_ne nlf.symm]; exact s9 _ _ e8, d8.tk ((tk_same s9).trans t10), nlf.symm⟩
  · rintro σ H4 ⟨xs, v1, v2, v6, v7, rfl, k4, t4, ef4, lx, dn⟩
    refine ⟨_, rfl, q H4 (.ref lf) (back H4 k4) ⟨lf, xs, rfl, ef4, by rw [lx, lp, List.length_map], fun j r hj => ?_⟩⟩
    rw [List.getElem?_map] at hj
    cases hp : ps[j]? with
    | none => rw [hp] at hj; cases hj
    | some pr =>
      rw [hp] at hj
      cases hj
      obtain ⟨b, c, ys, q1, q2, q3, q4, _⟩ := dn j pr (by rw [lp]; exact (List.getElem?_eq_some_iff.mp hp).1) hp
      exact ⟨b, c, ys, q1, q2, q3, q4⟩
/-- a good program, laid by the law, stands as the program's own -/
theorem lvo_lv {p : Prog} (v : Valid p) {H : Hp} {r : V} (h : LvO K H r (p.ps.map fun q => layP (ixOf p.ls p.heads) q.2)) : LvAt K H r (ldOf p) := by
  obtain ⟨a, xs, rfl, h1, h2, h3⟩ := h
  refine ⟨a, xs, rfl, h1, by rw [h2, ld_len, List.length_map], fun q hq => ?_⟩
  rw [ld_len] at hq
  have hp : p.ps[q]? = some (p.ps[q]) := List.getElem?_eq_getElem hq
  obtain ⟨b, c, ys, k1, k2, k3, k4⟩ := h3 q _ (by rw [List.getElem?_map, hp]; rfl)
  obtain ⟨e1, e2⟩ := ld_at hp
  obtain ⟨r, e3, hr, e4, e5⟩ := ld_shape v hp
  refine ⟨b, c, ys, k1, by rw [e1]; exact k2, k3, ?_⟩
  rw [e4]
  rw [e3] at k4
  have : (r.map oplD) = (r.filterMap id).map plD := by
    conv => lhs; rw [e5]
    rw [List.map_map]; rfl
  rw [List.map_cons, this] at k4
  exact k4
theorem valid_lay {p : Prog} (v : Valid p) : LayOk p.ls p.heads p.ps := ⟨by have := v.p2; omega, v.wf, v.dep, fun q hq => by have := v.pl q hq; omega⟩
end
end PK

set_option linter.all false
set_option Elab.async false
set_option maxRecDepth 100000
set_option maxHeartbeats 4000000
/-! KO: _law_same, the source and its draws. -/
namespace PK
open PySem PySem.Spec PyProof.Rows L2
def Sh : Nat → PyData → Prop
  | 0, d => ∃ i, d = .int i
  | n + 1, d => ∃ ds : List PyData, d = .tuple ds ∧ ds.length ≤ 20000 ∧ ∀ e ∈ ds, Sh n e
def spLSame (K : Fg) (n : Nat) : Sp := fun vs H Q _ => ∃ (x y : V) (d : PyData), vs = [x, y] ∧ Dat K H x d ∧ Dat K H y d ∧ Sh n d ∧ ∀ H', Same H H' → Q (.bl true) H'
section
variable {P : Program} {w : World} {K : Fg} {mg : Str → Option Value} {base : Heap}
theorem ok_Lsame0 (T : Tp K mg) (F : Std K "_law_same" "_law_same" s_Lsame (He.ga K "_law_same")) (D_Lsame : Dn P w K mg base 0 (He.ga K "_law_same") ["found", "due"] (fun _ _ _ _ => False)) : Dn P w K mg base 1 (He.ga K "_law_same") ["found", "due"] (spLSame K 0) := by
  refine dn_mk F sc_Lsame
    (fun _ _ _ _ _ _ us hl => match us, hl with | [_, _], _ => rfl)
    (fun vs H Q E h => ?_) fun cdv A outer s H vs Q E hr h => ?_
  · obtain ⟨x, y, d, rfl, _⟩ := h; rfl
  obtain ⟨x, y, d, rfl, hx, hy, ⟨i, rfl⟩, q⟩ := h
  rw [hx.inv_int, hy.inv_int]
  refine ⟨_, (pss_cons (ps_if (pt_val (pe_callB (isiK (K := K) rfl) (by rfl) T.b_isinstance (by decide +kernel) (pa_cons (pv 1) (pa_cons (pe_bt (n := "tuple") T.b_tuple) pa_nil)))) (pss_cons (ps_if (PW.pt (pw_or (pt_not (pt_val (pe_callB (isiK (K := K) rfl) (by rfl) T.b_isinstance (by decide +kernel) (pa_cons (pv 0) (pa_cons (pe_bt (n := "tuple") T.b_tuple) pa_nil))))) (pw_or1 (pt_cmpR (oNeK (K := K) rfl (hu64 hr)) (pe_callB (cLenK (K := K) rfl) (by rfl) T.b_len PySem.boot_len (pa_cons (pv 0) pa_nil)) (pe_callB (cLenK (K := K) rfl) (by rfl) T.b_len PySem.boot_len (pa_cons (pv 1) pa_nil)) (nomark _))))) (pss_one (ps_ret pe_bl)) pss_nil)
    (pss_one (ps_ret (pe_callB (allK (K := K) rfl rfl) (by rfl) T.b_all (by decide +kernel) (pa_cons (pe_lc (own := [("k", 2)]) (tt := tYes) rfl sc_Lsame.nd (pi_range1 rfl T.b_range (pa_cons (pe_callB (cLenK (K := K) rfl) (by rfl) T.b_len PySem.boot_len (pa_cons (pv 1) pa_nil)) pa_nil)) (blkOk_by (N := N_Lsame) (sc := defScope s_Lsame) (own := [("k", 2)]) (by decide +kernel)) (fun _ _ _ _ _ => (pg_name (i := 2) sc_Lsame.nd rfl (Or.inl rfl))) (fun _ _ _ _ _ => pts_nil) (fun _ _ _ _ _ => (pe_f D_Lsame (hr.mono (by omega)) T.g__law_same (pa_cons (pe_ix (ixK (K := K) rfl) (pv 0) (pv 2) (fun _ _ => rfl)) (pa_cons (pe_ix (ixK (K := K) rfl) (pv 1) (pv 2) (fun _ _ => rfl)) pa_nil))))) pa_nil))))) pss_nil)
    (pss_cons (ps_if (pt_cmpR op_isN (pv 1) pe_non (nomark _)) (pss_one (ps_ret (pe_cmpR op_isN (pv 0) pe_non (nomark _)))) pss_nil)
    (pss_cons (ps_if (pt_val (pe_callB (isiK (K := K) rfl) (by rfl) T.b_isinstance (by decide +kernel) (pa_cons (pv 1) (pa_cons (pe_bt (n := "bool") T.b_bool) pa_nil)))) (pss_one (ps_ret (pe_and (pe_callB (isiK (K := K) rfl) (by rfl) T.b_isinstance (by decide +kernel) (pa_cons (pv 0) (pa_cons (pe_bt (n := "bool") T.b_bool) pa_nil))) (pe_one (pe_cmpR (oEqK (K := K) rfl (hu64 hr)) (pv 0) (pv 1) (nomark _)))))) pss_nil)
    (pss_cons (ps_if (pt_val (pe_callB (isiK (K := K) rfl) (by rfl) T.b_isinstance (by decide +kernel) (pa_cons (pv 1) (pa_cons (pe_bt (n := "int") T.b_int) pa_nil)))) (pss_one (ps_ret (pe_and (pe_callB (isiK (K := K) rfl) (by rfl) T.b_isinstance (by decide +kernel) (pa_cons (pv 0) (pa_cons (pe_bt (n := "int") T.b_int) pa_nil))) (pe_and (pe_not (pe_callB (isiK (K := K) rfl) (by rfl) T.b_isinstance (by decide +kernel) (pa_cons (pv 0) (pa_cons (pe_bt (n := "bool") T.b_bool) pa_nil)))) (pe_one (pe_cmpR (oEqK (K := K) rfl (hu64 hr)) (pv 0) (pv 1) (nomark _))))))) pss_nil)
    (pss_one (ps_ret (pe_and (pe_callB (isiK (K := K) rfl) (by rfl) T.b_isinstance (by decide +kernel) (pa_cons (pv 0) (pa_cons (pe_bt (n := "str") T.b_str) pa_nil))) (pe_one (pe_cmpR (oEqK (K := K) rfl (hu64 hr)) (pv 0) (pv 1) (nomark _)))))))))), ?_⟩
  refine ⟨_, rfl, _, _, _, _, false, rfl, .ty _, .base (.int _), kit_ty (by decide +kernel), _, rfl, iteF ?_⟩
  refine ⟨_, rfl, rfl, _, rfl, iff' (by simp) ?_⟩
  refine ⟨_, rfl, _, _, _, _, false, rfl, .ty _, .base (.int _), kit_ty (by decide +kernel), _, rfl, iteF ?_⟩
  refine ⟨_, rfl, _, _, _, _, true, rfl, .ty _, .base (.int _), kit_ty (by decide +kernel), _, rfl, iteT ?_⟩
  refine ⟨_, rfl, _, _, _, _, true, rfl, .ty _, .base (.int _), kit_ty (by decide +kernel), _, rfl, iteT ?_⟩
  refine ⟨_, rfl, _, _, _, _, false, rfl, .ty _, .base (.int _), kit_ty (by decide +kernel), _, rfl, ?_⟩
  refine ⟨_, rfl, iteT ⟨_, rfl, _, rfl, .inl ⟨rfl, ?_⟩⟩⟩
  exact qbl (Q := Q) (by simp) (q _ (.refl _))
theorem ok_Lsame (n : Nat) (T : Tp K mg) (F : Std K "_law_same" "_law_same" s_Lsame (He.ga K "_law_same")) (D_Lsame : Dn P w K mg base (n + 1) (He.ga K "_law_same") ["found", "due"] (spLSame K n)) : Dn P w K mg base (n + 2) (He.ga K "_law_same") ["found", "due"] (spLSame K (n + 1)) := by
  refine dn_mk F sc_Lsame
    (fun _ _ _ _ _ _ us hl => match us, hl with | [_, _], _ => rfl)
    (fun vs H Q E h => ?_) fun cdv A outer s H vs Q E hr h => ?_
  · obtain ⟨x, y, d, rfl, _⟩ := h; rfl
  obtain ⟨x, y, d, rfl, hx, hy, ⟨ds, rfl, hl, hs⟩, q⟩ := h
  obtain ⟨a, xs, rfl, hA, hX⟩ := hx.inv_tup
  obtain ⟨b, ys, rfl, hB, hY⟩ := hy.inv_tup
  have l1 := hX.length
  have l2 := hY.length
  refine ⟨_, (pss_cons (ps_if (pt_val (pe_callB (isiK (K := K) rfl) (by rfl) T.b_isinstance (by decide +kernel) (pa_cons (pv 1) (pa_cons (pe_bt (n := "tuple") T.b_tuple) pa_nil)))) (pss_cons (ps_if (PW.pt (pw_or (pt_not (pt_val (pe_callB (isiK (K := K) rfl) (by rfl) T.b_isinstance (by decide +kernel) (pa_cons (pv 0) (pa_cons (pe_bt (n := "tuple") T.b_tuple) pa_nil))))) (pw_or1 (pt_cmpR (oNeK (K := K) rfl (hu64 hr)) (pe_callB (cLenK (K := K) rfl) (by rfl) T.b_len PySem.boot_len (pa_cons (pv 0) pa_nil)) (pe_callB (cLenK (K := K) rfl) (by rfl) T.b_len PySem.boot_len (pa_cons (pv 1) pa_nil)) (nomark _))))) (pss_one (ps_ret pe_bl)) pss_nil)
    (pss_one (ps_ret (pe_callB (allK (K := K) rfl rfl) (by rfl) T.b_all (by decide +kernel) (pa_cons (pe_lc (own := [("k", 2)]) (tt := tYes) rfl sc_Lsame.nd (pi_range1 rfl T.b_range (pa_cons (pe_callB (cLenK (K := K) rfl) (by rfl) T.b_len PySem.boot_len (pa_cons (pv 1) pa_nil)) pa_nil)) (blkOk_by (N := N_Lsame) (sc := defScope s_Lsame) (own := [("k", 2)]) (by decide +kernel)) (fun _ _ _ _ _ => (pg_name (i := 2) sc_Lsame.nd rfl (Or.inl rfl))) (fun _ _ _ _ _ => pts_nil) (fun _ _ _ _ _ => (pe_f D_Lsame (hr.mono (by omega)) T.g__law_same (pa_cons (pe_ix (ixK (K := K) rfl) (pv 0) (pv 2) (fun _ _ => rfl)) (pa_cons (pe_ix (ixK (K := K) rfl) (pv 1) (pv 2) (fun _ _ => rfl)) pa_nil))))) pa_nil))))) pss_nil)
    (pss_cons (ps_if (pt_cmpR op_isN (pv 1) pe_non (nomark _)) (pss_one (ps_ret (pe_cmpR op_isN (pv 0) pe_non (nomark _)))) pss_nil)
    (pss_cons (ps_if (pt_val (pe_callB (isiK (K := K) rfl) (by rfl) T.b_isinstance (by decide +kernel) (pa_cons (pv 1) (pa_cons (pe_bt (n := "bool") T.b_bool) pa_nil)))) (pss_one (ps_ret (pe_and (pe_callB (isiK (K := K) rfl) (by rfl) T.b_isinstance (by decide +kernel) (pa_cons (pv 0) (pa_cons (pe_bt (n := "bool") T.b_bool) pa_nil))) (pe_one (pe_cmpR (oEqK (K := K) rfl (hu64 hr)) (pv 0) (pv 1) (nomark _)))))) pss_nil)
    (pss_cons (ps_if (pt_val (pe_callB (isiK (K := K) rfl) (by rfl) T.b_isinstance (by decide +kernel) (pa_cons (pv 1) (pa_cons (pe_bt (n := "int") T.b_int) pa_nil)))) (pss_one (ps_ret (pe_and (pe_callB (isiK (K := K) rfl) (by rfl) T.b_isinstance (by decide +kernel) (pa_cons (pv 0) (pa_cons (pe_bt (n := "int") T.b_int) pa_nil))) (pe_and (pe_not (pe_callB (isiK (K := K) rfl) (by rfl) T.b_isinstance (by decide +kernel) (pa_cons (pv 0) (pa_cons (pe_bt (n := "bool") T.b_bool) pa_nil)))) (pe_one (pe_cmpR (oEqK (K := K) rfl (hu64 hr)) (pv 0) (pv 1) (nomark _))))))) pss_nil)
    (pss_one (ps_ret (pe_and (pe_callB (isiK (K := K) rfl) (by rfl) T.b_isinstance (by decide +kernel) (pa_cons (pv 0) (pa_cons (pe_bt (n := "str") T.b_str) pa_nil))) (pe_one (pe_cmpR (oEqK (K := K) rfl (hu64 hr)) (pv 0) (pv 1) (nomark _)))))))))), ?_⟩
  refine ⟨_, rfl, _, _, _, _, true, rfl, .ty _, tyx_tup hB, kit_ty (by decide +kernel), _, rfl, iteT ?_⟩
  refine ⟨_, rfl, _, _, _, _, true, rfl, .ty _, tyx_tup hA, kit_ty (by decide +kernel), _, rfl, iteF ?_⟩
  refine ⟨_, rfl, _, _, rfl, .inr ⟨_, hA, rfl⟩, _, rfl, _, _, rfl, .inr ⟨_, hB, rfl⟩, .inl ⟨rfl, _, rfl, iff' (by rw [l1, l2]; simp) ?_⟩⟩
  refine ⟨_, rfl, _, _, rfl, .inr ⟨_, hB, rfl⟩, _, rfl, by omega, by omega, fun D nD => lc_acc (walk_range (lo := 0)) [] (fun i acc _ => ∃ bs : List Bool, acc = bs.map V.bl ∧ bs.all id = true) nD (fun _ _ _ _ _ _ => trivial) (fun _ _ _ _ _ _ _ p => p) ⟨[], rfl, rfl⟩ ?_ (by simp) ?_ ?_⟩
  · rw [Int.toNat_natCast, l2]; exact Nat.lt_of_le_of_lt hl (by decide)
  · rintro k z acc H3 H3' hk kp t hD la ⟨bs, rfl, hb⟩ ⟨rfl, hz⟩ N E1 hN _
    rw [Int.toNat_natCast, l2] at hk
    have hz : z = V.int ((k : Nat) : Int) := by rw [hz]; show V.int (0 + (k : Int)) = _; rw [Int.zero_add]
    subst hz
    have ek : ds[k]? = some (ds[k]'hk) := List.getElem?_eq_getElem hk
    obtain ⟨x, hx1, hx2⟩ := hX.got ek
    obtain ⟨y, hy1, hy2⟩ := hY.got ek
    refine ⟨rfl, tyes ⟨_, rfl, _, rfl, .inr (.inl ⟨a, _, k, _, rfl, rfl, t.seq hA, atI_nat hx1, _, rfl, _, rfl, .inr (.inl ⟨b, _, k, _, rfl, rfl, t.seq hB, atI_nat hy1, ?_⟩)⟩)⟩⟩
    exact ⟨x, y, _, rfl, hx2.tk t, hy2.tk t, hs _ (List.getElem_mem hk), fun H4 s4 => hN _ _ (.of s4) (tk_same s4) ⟨bs ++ [true], by simp, by simp [hb]⟩⟩
  · rintro H3 acc kp t hD _ ⟨bs, rfl, hb⟩
    refine ⟨D, bs, rfl, SqL.of hD, ?_⟩
    rw [hb]
    exact q _ (Kp.nil kp)
theorem all_Lsame (T : Tp K mg) (F : Std K "_law_same" "_law_same" s_Lsame (He.ga K "_law_same")) : ∀ n, Dn P w K mg base (n + 1) (He.ga K "_law_same") ["found", "due"] (spLSame K n)
  | 0 => ok_Lsame0 T F (dn_never F
    (fun _ _ _ _ _ _ us hl => match us, hl with | [_, _], _ => rfl)
    )
  | n + 1 => ok_Lsame n T F (all_Lsame T F n)
theorem sh_hms (l : List Hm) (h : l.length ≤ 20000) : Sh 2 (.tuple (l.map hmD)) :=
  ⟨_, rfl, by rw [List.length_map]; exact h, fun e he => by
    obtain ⟨x, _, rfl⟩ := List.mem_map.mp he
    exact ⟨_, rfl, by show 2 ≤ 20000; decide, fun f hf => by
      rcases List.mem_cons.mp hf with rfl | hf
      · exact ⟨_, rfl⟩
      · rw [List.mem_singleton.mp hf]; exact ⟨_, rfl⟩⟩⟩
/-! ### the source -/
/-- the source at a, its cells at c; it was drawn from at most n times -/
def SrcAt (H : Hp) (a c : Addr) (n : Nat) : Prop := ∃ (ns : List Int) (k r m : Int), H a = some (.lst [.ref c, .int k, .int r, .int m]) ∧ H c = some (.lst (ns.map V.int)) ∧ ns.length ≤ 70 ∧ 0 ≤ k ∧ k ≤ n ∧ 0 ≤ m ∧ m < 2147483629
def spDraw (K : Fg) : Sp := fun vs H Q _ => ∃ (a c : Addr) (n : Int) (A : Nat), vs = [.ref a, .int n] ∧ SrcAt H a c A ∧ 1 ≤ n ∧ n ≤ 1000 ∧ A ≤ 4611686018427387904 ∧ ∀ (r : Nat) (H' : Hp), (r : Int) < n → Kp [a] H H' → Tk H H' → SrcAt H' a c (A + 1) → Q (.int (r : Nat)) H'
theorem dpall_ints {K : Fg} {H : Hp} : ∀ l : List Int, DpAll K H (l.map V.int) (l.map PyData.int)
  | [] => .nil
  | n :: r => .cons (.int _) (dpall_ints r)
theorem lay_ints2 (l : List Int) : PyData.canLayAll0 (l.map PyData.int) = true := by
  induction l with
  | nil => rfl
  | cons n r ih => show (PyData.canLay0 (.int n) && PyData.canLayAll0 (r.map PyData.int)) = true; rw [ih]; rfl
theorem q_mod {Q : VK} {i n : Int} {H' : Hp} (hn : 1 ≤ n) (h : ∀ r : Nat, (r : Int) < n → Q (.int (r : Nat)) H') : Q (.int (i.fmod n)) H' := by
  have h1 := Int.fmod_nonneg_of_pos i (by omega : 0 < n)
  have h2 := Int.fmod_lt_of_pos i (by omega : 0 < n)
  have e : i.fmod n = (((i.fmod n).toNat : Nat) : Int) := by omega
  rw [e]
  exact h _ (by omega)
theorem cmul_mod {i j : Int} : CMul (i.fmod 2147483629) j := by
  have h1 := Int.fmod_nonneg_of_pos i (by decide : (0 : Int) < 2147483629)
  have h2 := Int.fmod_lt_of_pos i (by decide : (0 : Int) < 2147483629)
  exact .inl ⟨by omega, by omega⟩
theorem fm_nat {i n : Int} (hn : 1 ≤ n) : ∃ r : Nat, i.fmod n = (r : Int) ∧ (r : Int) < n := by
  have h1 := Int.fmod_nonneg_of_pos i (by omega : 0 < n)
  have h2 := Int.fmod_lt_of_pos i (by omega : 0 < n)
  exact ⟨(i.fmod n).toNat, by omega, by omega⟩
theorem ok_Ldraw (T : Tp K mg) (F : Std K "_law_draw" "_law_draw" s_Ldraw (He.ga K "_law_draw")) : Dn P w K mg base 1 (He.ga K "_law_draw") ["source", "many"] (spDraw K) := by
  refine dn_mk F sc_Ldraw
    (fun _ _ _ _ _ _ us hl => match us, hl with | [_, _], _ => rfl)
    (fun vs H Q E h => ?_) fun cdv A outer s H vs Q E hr h => ?_
  · obtain ⟨a, c, n, B, rfl, _⟩ := h; rfl
  obtain ⟨a, c, n, B, rfl, ⟨ns, k, r, m, ha, hc, hl, k0, k1, m0, m1⟩, n1, n2, hB, q⟩ := h
  refine ⟨_, (pss_cons (ps_asg (pv 0) (pg_lst (by rfl) (pgs_cons (pg_name (i := 2) sc_Ldraw.nd rfl (Or.inl rfl)) (pgs_cons (pg_name (i := 3) sc_Ldraw.nd rfl (Or.inl rfl)) (pgs_cons (pg_name (i := 4) sc_Ldraw.nd rfl (Or.inl rfl)) (pgs_cons (pg_name (i := 5) sc_Ldraw.nd rfl (Or.inl rfl)) pgs_nil))))))
    (pss_cons (ps_if (pt_cmpR op_lt (pv 4) (pv 1) (nomark _)) (pss_cons (ps_set (i := 6) sc_Ldraw.nd rfl (Or.inl rfl) pe_int)
    (pss_cons (ps_if (pt_cmpR (oNeNilL (K := K) rfl (hu64 hr)) (pv 2) (pe_lst pa_nil) (nomark _)) (pss_one (ps_set (i := 6) sc_Ldraw.nd rfl (Or.inl rfl) (pe_ix (ixK (K := K) rfl) (pv 2) (pe_op op_modN (pe_callTy call_int1 (by rfl) T.b_int (by decide +kernel) (pa_cons (pv 3) pa_nil)) (pe_callB (cLenK (K := K) rfl) (by rfl) T.b_len PySem.boot_len (pa_cons (pv 2) pa_nil))) (fun _ _ => rfl)))) pss_nil)
    (pss_cons (ps_set (i := 6) sc_Ldraw.nd rfl (Or.inl rfl) (pe_op (oAddK (K := K) rfl) (pe_op op_mul pe_int (pe_callB call_abs (by rfl) T.b_abs (by decide +kernel) (pa_cons (pv 6) pa_nil))) (pe_callTy call_int1 (by rfl) T.b_int (by decide +kernel) (pa_cons (pe_cmpR op_lt (pv 6) pe_int (nomark _)) pa_nil))))
    (pss_cons (ps_set (i := 4) sc_Ldraw.nd rfl (Or.inl rfl) pe_int)
    (pss_cons (ps_if (PW.pt (pw_and (pt_cmpR op_ge (pv 6) (pe_op op_pow pe_int pe_int) (nomark _)) (pw_and1 (pt_cmpR op_lt (pv 3) (pe_callB (cLenK (K := K) rfl) (by rfl) T.b_len PySem.boot_len (pa_cons (pv 2) pa_nil)) (nomark _))))) (pss_one (ps_set (i := 4) sc_Ldraw.nd rfl (Or.inl rfl) (pv 6))) pss_nil)
    (pss_cons (ps_set (i := 5) sc_Ldraw.nd rfl (Or.inl rfl) (pe_op op_modN (pe_callTy call_int1 (by rfl) T.b_int (by decide +kernel) (pa_cons (pe_op (oAddK (K := K) rfl) (pe_op (oAddK (K := K) rfl) (pe_op op_mul (pe_op (oAddK (K := K) rfl) (pe_op (oAddK (K := K) rfl) (pv 5) (pe_op op_modN (pe_callTy call_int1 (by rfl) T.b_int (by decide +kernel) (pa_cons (pv 6) pa_nil)) pe_int)) pe_int) pe_int) (pe_op op_mul (pe_op op_mul (pv 3) (pv 3)) pe_int)) pe_int) pa_nil)) pe_int))
    (pss_cons (ps_asg (pe_op (oAddK (K := K) rfl) (pv 3) pe_int) (pg_sub (pv 0) pe_int set_list))
    (pss_one (ps_asg (pv 5) (pg_sub (pv 0) pe_int set_list)))))))))) pss_nil)
    (pss_cons (ps_if (pt_cmpR op_ge (pv 4) (pv 1) (nomark _)) (pss_cons (ps_asg (pe_op op_fdivN (pv 4) (pv 1)) (pg_sub (pv 0) pe_int set_list))
    (pss_one (ps_ret (pe_op op_modN (pe_callTy call_int1 (by rfl) T.b_int (by decide +kernel) (pa_cons (pv 4) pa_nil)) (pv 1))))) pss_nil)
    (pss_cons (ps_asg pe_int (pg_sub (pv 0) pe_int set_list))
    (pss_one (ps_ret (pe_op op_modN (pe_op op_fdivN (pe_op op_modN (pe_callTy call_int1 (by rfl) T.b_int (by decide +kernel) (pa_cons (pe_op op_mul (pv 5) (pe_op (oAddK (K := K) rfl) (pe_op op_fdivN (pv 5) pe_int) pe_int)) pa_nil)) pe_int) pe_int) (pv 1)))))))), ?_⟩
  refine ⟨_, rfl, a, _, rfl, SqL.of ha, rfl, _, _, rfl, _, _, rfl, _, _, rfl, _, _, rfl, rfl, ?_⟩
  have ac : a ≠ c := by
    intro e
    subst e
    rw [ha] at hc
    injection hc with hc
    injection hc with hc
    cases ns with
    | nil => cases hc
    | cons x t => injection hc with h1 _; cases h1
  have st : ∀ (H2 : Hp) (k2 r2 m2 : Int), H2 a = some (.lst [.ref c, .int k2, .int r2, .int m2]) → Kp [a] H H2 → Tk H H2 → 0 ≤ k2 → k2 ≤ (B : Int) + 1 → 0 ≤ m2 → m2 < 2147483629 → SrcAt H2 a c (B + 1) := fun H2 k2 r2 m2 e kk tt c1 c2 c3 c4 =>
    ⟨ns, k2, r2, m2, e, kk _ _ hc (by simpa using ac.symm), hl, c1, by omega, c3, c4⟩
  refine ⟨_, rfl, _, rfl, _, _, rfl, rfl, _, rfl, ?_⟩
  by_cases hlt : r < n
  case neg =>
    refine iff' (decide_eq_false hlt) ?_
    refine ⟨_, rfl, _, rfl, _, _, rfl, rfl, _, rfl, ite2 (fun _ => ?_) (fun _ => ?_)⟩
    · refine ⟨_, rfl, _, rfl, _, _, rfl, rfl, ⟨by omega, by omega⟩, _, rfl, a, _, 2, 2, rfl, rfl, ha, rfl, ?_⟩
      refine ⟨_, rfl, .inl ⟨_, rfl, _, rfl, _, _, rfl, rfl, by omega, ?_⟩⟩
      exact q_mod (Q := Q) n1 fun r' hr' => q r' _ hr' ((Kp.refl [a] H).trans (kp_upd (by simp) _)) ((Tk.refl H).trans (tk_lst ha)) (st _ _ _ _ upd_same ((Kp.refl [a] H).trans (kp_upd (by simp) _)) ((Tk.refl H).trans (tk_lst ha)) k0 (by omega) m0 m1)
    · refine ⟨_, rfl, a, _, 2, 2, rfl, rfl, ha, rfl, ?_⟩
      refine ⟨_, rfl, _, rfl, _, _, rfl, rfl, ⟨by decide, by decide⟩, .inl ⟨_, _, rfl, rfl, _, _, rfl, rfl, .inl ⟨by omega, by omega⟩, .inl ⟨_, rfl, _, _, rfl, rfl, (by dsimp only; decide), _, _, rfl, rfl, ⟨by decide, by decide⟩, _, rfl, _, _, rfl, rfl, by omega, ?_⟩⟩⟩
      exact q_mod (Q := Q) n1 fun r' hr' => q r' _ hr' ((Kp.refl [a] H).trans (kp_upd (by simp) _)) ((Tk.refl H).trans (tk_lst ha)) (st _ _ _ _ upd_same ((Kp.refl [a] H).trans (kp_upd (by simp) _)) ((Tk.refl H).trans (tk_lst ha)) k0 (by omega) m0 m1)
  case pos =>
    refine ift (decide_eq_true hlt) ?_
    refine ⟨_, rfl, Nat.zero_le _, fun p hp => ?_⟩
    have s1 := same_new hp (.lst [])
    generalize hH1 : upd H p (.lst []) = H1 at s1
    have ep : H1 p = some (.lst []) := by rw [← hH1]; exact upd_same
    have ha1 := s1 _ _ ha
    have hc1 := s1 _ _ hc
    have kk1 : Kp [a] H H1 := .of s1
    have tt1 := tk_same s1
    refine ⟨c, p, ns.map .int, rfl, rfl, .lst (SqL.of hc1) (dpall_ints ns), SqL.of ep, lay_ints2 ns, _, rfl, ?_⟩
    by_cases hn0 : ns = []
    case' pos =>
      refine iff' (by rw [hn0]; rfl) ?_
    case' neg =>
      have lpos : 0 < ns.length := List.length_pos_iff.mpr hn0
      obtain ⟨j, ej, lj⟩ := fm_nat (i := k) (n := (ns.length : Int)) (by omega)
      have hj : (ns.map V.int)[j]? = some (.int (ns[j]'(by omega))) := by rw [List.getElem?_map, List.getElem?_eq_getElem (by omega)]; rfl
      refine ift (by cases ns with
        | nil => exact absurd rfl hn0
        | cons _ _ => rfl) ?_
      refine ⟨_, rfl, _, rfl, .inl ⟨_, rfl, _, rfl, _, _, rfl, .inl ⟨_, SqL.of hc1, rfl⟩, _, _, rfl, rfl, by simp; omega, .inl ⟨c, _, (j : Int), _, rfl, ?_, SqL.of hc1, atI_nat hj, ?_⟩⟩⟩
      · show V.int (k.fmod (((ns.map V.int).length : Nat) : Int)) = _
        rw [List.length_map, ej]
    all_goals
      refine ⟨_, rfl, _, rfl, _, _, rfl, rfl, .inl ⟨by decide, by decide⟩, _, rfl, _, _, rfl, rfl, .inr ⟨_, rfl, .inl ⟨_, _, rfl, rfl, ?_⟩⟩⟩
      refine ⟨_, rfl, _, _, rfl, rfl, ⟨by decide, by decide, by decide⟩, _, _, rfl, rfl, _, rfl, ite2 (fun _ => ⟨_, rfl, _, rfl, _, _, rfl, .inl ⟨_, SqL.of hc1, rfl⟩, _, _, rfl, rfl, _, rfl, ite2 (fun _ => ⟨_, rfl, ?_⟩) (fun _ => ?_)⟩) (fun _ => iteF ?_)⟩
      all_goals
        refine ⟨_, rfl, _, rfl, .inl ⟨_, rfl, _, _, rfl, rfl, (by dsimp only; decide), .inl ⟨_, _, rfl, rfl, .inl ⟨_, _, rfl, rfl, _, _, rfl, rfl, .inr ⟨by decide, by decide⟩, _, rfl, _, rfl, _, _, rfl, rfl, .inl ⟨by omega, by omega⟩, _, _, rfl, rfl, .inr ⟨by decide, by decide⟩, .inl ⟨_, _, rfl, rfl, .inl ⟨_, _, rfl, rfl, .inl ⟨_, rfl, _, _, rfl, rfl, (by dsimp only; decide), ?_⟩⟩⟩⟩⟩⟩⟩
        refine ⟨_, rfl, .inl ⟨_, _, rfl, rfl, _, rfl, a, _, 1, 1, rfl, rfl, ha1, rfl, ?_⟩⟩
        refine ⟨_, rfl, _, rfl, a, _, 3, 3, rfl, rfl, upd_same, rfl, ?_⟩
        rw [upd_upd]
        refine ⟨_, rfl, _, rfl, _, _, rfl, rfl, _, rfl, ite2 (fun _ => ?_) (fun _ => ?_)⟩
        · refine ⟨_, rfl, _, rfl, _, _, rfl, rfl, ⟨by omega, by omega⟩, _, rfl, a, _, 2, 2, rfl, rfl, upd_same, rfl, ?_⟩
          refine ⟨_, rfl, .inl ⟨_, rfl, _, rfl, _, _, rfl, rfl, by omega, ?_⟩⟩
          exact q_mod (Q := Q) n1 fun r' hr' => q r' _ hr' ((kk1.trans (kp_upd (M := [a]) (by simp) _)).trans (kp_upd (by simp) _)) ((tt1.trans (tk_lst ha1)).trans (tk_lst upd_same)) (st _ _ _ _ upd_same ((kk1.trans (kp_upd (M := [a]) (by simp) _)).trans (kp_upd (by simp) _)) ((tt1.trans (tk_lst ha1)).trans (tk_lst upd_same)) (by omega) (by omega) (Int.fmod_nonneg_of_pos _ (by decide)) (Int.fmod_lt_of_pos _ (by decide)))
        · refine ⟨_, rfl, a, _, 2, 2, rfl, rfl, upd_same, rfl, ?_⟩
          refine ⟨_, rfl, _, rfl, _, _, rfl, rfl, ⟨by decide, by decide⟩, .inl ⟨_, _, rfl, rfl, _, _, rfl, rfl, cmul_mod, .inl ⟨_, rfl, _, _, rfl, rfl, (by dsimp only; decide), _, _, rfl, rfl, ⟨by decide, by decide⟩, _, rfl, _, _, rfl, rfl, by omega, ?_⟩⟩⟩
          exact q_mod (Q := Q) n1 fun r' hr' => q r' _ hr' ((kk1.trans (kp_upd (M := [a]) (by simp) _)).trans (kp_upd (by simp) _)) ((tt1.trans (tk_lst ha1)).trans (tk_lst upd_same)) (st _ _ _ _ upd_same ((kk1.trans (kp_upd (M := [a]) (by simp) _)).trans (kp_upd (by simp) _)) ((tt1.trans (tk_lst ha1)).trans (tk_lst upd_same)) (by omega) (by omega) (Int.fmod_nonneg_of_pos _ (by decide)) (Int.fmod_lt_of_pos _ (by decide)))
end
end PK

set_option linter.all false
set_option Elab.async false
set_option maxRecDepth 100000
set_option maxHeartbeats 4000000
/-! KH: names, nets, words. -/
namespace PK
open PySem PySem.Spec PyProof.Rows L2
def spSource (K : Fg) : Sp := fun vs H Q _ => ∃ (c0 : Addr) (ns : List Int), vs = [.ref c0, .int 75] ∧ SqL K H c0 (ns.map V.int) ∧ ns.length ≤ 70 ∧ ∀ (a c : Addr) H', H a = none → Same H H' → SrcAt H' a c 0 → Q (.ref a) H'
def stemL : List Str := ["", "q", "x9", "longstem"]
def sgL : Str := "bcdfghjklmnpqrstvwxz"
def sg (j : Nat) : Str := ⟨#[sgL.cps.toList.getD j 0]⟩
def nameOf (i f k : Nat) : Str := (stemL.getD i "" ++ sg ((f + k) % 20)) ++ sg (k / 20)
def spNames (K : Fg) : Sp := fun vs H Q _ => ∃ (a c : Addr) (n A : Nat), vs = [.ref a, .int n] ∧ SrcAt H a c A ∧ n ≤ 40 ∧ A ≤ 4000000000000000000 ∧ ∀ (i f : Nat) (r : Addr) H', i < 4 → f < 20 → H r = none → Kp [a] H H' → Tk H H' → SrcAt H' a c (A + 2) → H' r = some (.lst ((List.range n).map fun k => V.str (nameOf i f k))) → Q (.ref r) H'
theorem SrcAt.kp {a c : Addr} {n : Nat} {M : List Addr} {H H' : Hp} (h : SrcAt H a c n) (k : Kp M H H') (ha : a ∉ M) (hc : c ∉ M) : SrcAt H' a c n := by
  obtain ⟨ns, kk, r, m, h1, h2, h3⟩ := h
  exact ⟨ns, kk, r, m, k _ _ h1 ha, k _ _ h2 hc, h3⟩
theorem SrcAt.same {a c : Addr} {n : Nat} {H H' : Hp} (h : SrcAt H a c n) (s : Same H H') : SrcAt H' a c n := h.kp (M := []) (.of s) (by simp) (by simp)
abbrev intsD (xs : List Int) : PyData := .tuple (xs.map PyData.int)
def spNet (K : Fg) : Sp := fun vs H Q _ => ∃ (a : Addr) (xs : List Int), vs = [.ref a] ∧ (SqT K H a (xs.map V.int) ∨ H a = some (.lst (xs.map V.int))) ∧ xs.length ≤ 1000 ∧ ∀ H' r (ys : List Int), Same H H' → Dat K H' r (intsD ys) → (∀ y ∈ ys, y ∈ xs) → ys.length ≤ xs.length → Q r H'
def spOpp (K : Fg) : Sp := fun vs H Q _ => ∃ (v : V) (xs : List Int), vs = [v] ∧ Dat K H v (intsD xs) ∧ xs.length ≤ 1000 ∧ ∀ H' r, Same H H' → Dat K H' r (intsD (xs.reverse.map fun x => -x)) → Q r H'
theorem dats_int_inv {K : Fg} {H : Hp} {vs : List V} {xs : List Int} (h : Dats K H vs (xs.map PyData.int)) : vs = xs.map V.int := by
  induction xs generalizing vs with
  | nil => exact h.inv_nil
  | cons x r ih =>
    obtain ⟨v, ws, rfl, h1, h2⟩ := h.inv_cons
    rw [h1.inv_int, ih h2]; rfl
theorem dats_int_mk {K : Fg} {H : Hp} : ∀ xs : List Int, Dats K H (xs.map V.int) (xs.map PyData.int)
  | [] => .nil
  | x :: r => .cons (.int x) (dats_int_mk r)
/-- numbers of letters, backwards ones below 0 -/
def LW (n : Nat) (xs : List Int) : Prop := ∀ x ∈ xs, x ≠ 0 ∧ -(n : Int) ≤ x ∧ x ≤ n
def spWord (K : Fg) : Sp := fun vs H Q _ => ∃ (a c : Addr) (n m A : Nat), vs = [.ref a, .int n, .int m] ∧ SrcAt H a c A ∧ 1 ≤ n ∧ n ≤ 20 ∧ m ≤ 4 ∧ A ≤ 4000000000000000000 ∧ ∀ (r : V) (H' : Hp) (ys : List Int) (A' : Nat), Kp [a] H H' → Tk H H' → SrcAt H' a c A' → A' ≤ A + 10 → Dat K H' r (intsD ys) → LW n ys → ys.length ≤ m → Q r H'
section
variable {P : Program} {w : World} {K : Fg} {mg : Str → Option Value} {base : Heap}
theorem ok_Lsource (T : Tp K mg) (F : Std K "_law_source" "_law_source" s_Lsource (He.ga K "_law_source")) : Dn P w K mg base 1 (He.ga K "_law_source") ["cells", "salt"] (spSource K) := by
  refine dn_mk F sc_Lsource
    (fun _ _ _ _ _ _ us hl => match us, hl with | [_, _], _ => rfl)
    (fun vs H Q E h => ?_) fun cdv A outer s H vs Q E hr h => ?_
  · obtain ⟨c0, ns, rfl, _⟩ := h; rfl
  obtain ⟨c0, ns, rfl, hc, hl, q⟩ := h
  refine ⟨_, (pss_one (ps_ret (pe_lst (pa_cons (pe_callTy call_list_of (by rfl) T.b_list (by decide +kernel) (pa_cons (pv 0) pa_nil)) (pa_cons pe_int (pa_cons pe_int (pa_cons (pe_op (oAddK (K := K) rfl) pe_int (pv 1)) pa_nil))))))), ?_⟩
  refine ⟨_, rfl, c0, _, rfl, .inl hc, fun c hcn => ?_⟩
  refine ⟨_, rfl, .inl ⟨_, _, rfl, rfl, (by show 4 ≤ sizeLine; decide), fun a ha => ?_⟩⟩
  have s1 := same_new hcn (.lst (ns.map V.int))
  have s2 := same_new ha (.lst [.ref c, .int 0, .int 0, .int (977 + 75)])
  refine q a c _ ?_ (s1.trans s2) ⟨ns, 0, 0, 977 + 75, upd_same, s2 _ _ upd_same, hl, by decide, by decide, by decide, by decide⟩
  rcases e : H a with _ | o
  · rfl
  · rw [s1 _ _ e] at ha; cases ha
theorem ok_Lnames (T : Tp K mg) (F : Std K "_law_names" "_law_names" s_Lnames (He.ga K "_law_names")) (D_Ldraw : Dn P w K mg base 1 (He.ga K "_law_draw") ["source", "many"] (spDraw K)) : Dn P w K mg base 2 (He.ga K "_law_names") ["source", "many"] (spNames K) := by
  refine dn_mk F sc_Lnames
    (fun _ _ _ _ _ _ us hl => match us, hl with | [_, _], _ => rfl)
    (fun vs H Q E h => ?_) fun cdv A outer s H vs Q E hr h => ?_
  · obtain ⟨a, c, n, B, rfl, _⟩ := h; rfl
  obtain ⟨a, c, n, B, rfl, hs, hn, hB, q⟩ := h
  refine ⟨_, (pss_cons (ps_set (i := 2) sc_Lnames.nd rfl (Or.inr rfl) (pe_ix (ixK (K := K) rfl) (pe_lst (pa_cons pe_str (pa_cons pe_str (pa_cons pe_str (pa_cons pe_str pa_nil))))) (pe_f D_Ldraw (hr.mono (by omega)) T.g__law_draw (pa_cons (pv 0) (pa_cons pe_int pa_nil))) (fun _ _ => rfl)))
    (pss_cons (ps_asg (pe_tup (pa_cons (pe_f D_Ldraw (hr.mono (by omega)) T.g__law_draw (pa_cons (pv 0) (pa_cons pe_int pa_nil))) (pa_cons pe_str pa_nil))) (pg_tup (by rfl) (pgs_cons (pg_name (i := 3) sc_Lnames.nd rfl (Or.inr rfl)) (pgs_cons (pg_name (i := 4) sc_Lnames.nd rfl (Or.inr rfl)) pgs_nil))))
    (pss_one (ps_ret (pe_lc (own := [("k", 5)]) (tt := tYes) rfl sc_Lnames.nd (pi_range1 rfl T.b_range (pa_cons (pv 1) pa_nil)) (blkOk_by (N := N_Lnames) (sc := defScope s_Lnames) (own := [("k", 5)]) (by decide +kernel)) (fun _ _ _ _ _ => (pg_name (i := 5) sc_Lnames.nd rfl (Or.inl rfl))) (fun _ _ _ _ _ => pts_nil) (fun _ _ _ _ _ => (pe_op (oAddK (K := K) rfl) (pe_op (oAddK (K := K) rfl) (pv 2) (pe_ix (ixK (K := K) rfl) (pv 4) (pe_op op_modN (pe_callTy call_int1 (by rfl) T.b_int (by decide +kernel) (pa_cons (pe_op (oAddK (K := K) rfl) (pv 3) (pv 5)) pa_nil)) pe_int) (fun _ _ => rfl))) (pe_ix (ixK (K := K) rfl) (pv 4) (pe_op op_fdivN (pv 5) pe_int) (fun _ _ => rfl))))))))), ?_⟩
  refine ⟨(by show 4 ≤ sizeLine; decide), fun sl hsl => ?_⟩
  have s1 := same_new hsl (.lst [.str "", .str "q", .str "x9", .str "longstem"])
  generalize hH1 : upd H sl (.lst [.str "", .str "q", .str "x9", .str "longstem"]) = H1 at s1
  have esl : H1 sl = some (.lst [.str "", .str "q", .str "x9", .str "longstem"]) := by rw [← hH1]; exact upd_same
  have hs1 := hs.same s1
  have nas : a ≠ sl := by
    obtain ⟨_, _, _, _, h1, _⟩ := hs
    exact ne_of_none h1 hsl
  refine ⟨_, rfl, a, c, 4, B, rfl, hs1, by decide, by decide, by omega, fun i H2 hi k2 t2 hs2 => ?_⟩
  have hi : i < 4 := by omega
  have esl2 := k2 _ _ esl (by simpa using nas.symm)
  have e4 : ([V.str "", .str "q", .str "x9", .str "longstem"] : List V)[i]? = some (.str (stemL.getD i "")) := by
    have : i = 0 ∨ i = 1 ∨ i = 2 ∨ i = 3 := by omega
    rcases this with rfl | rfl | rfl | rfl <;> rfl
  refine .inl ⟨sl, _, (i : Int), _, rfl, rfl, SqL.of esl2, atI_nat e4, ?_⟩
  refine ⟨_, rfl, a, c, 20, B + 1, rfl, hs2, by decide, by decide, by omega, fun f H3 hf k3 t3 hs3 => ?_⟩
  have hf : f < 20 := by omega
  refine ⟨(by show 2 ≤ sizeLine; decide), fun tp htp => ?_⟩
  have s4 := same_new htp (.tup [.int (f : Nat), .str "bcdfghjklmnpqrstvwxz"])
  refine ⟨tp, _, rfl, SqT.of upd_same, rfl, _, _, rfl, _, _, rfl, rfl, ?_⟩
  generalize hH4 : upd H3 tp (.tup [.int (f : Nat), .str "bcdfghjklmnpqrstvwxz"]) = H4 at s4
  have k04 : Kp [a] H H4 := (Kp.of s1).trans (k2.trans (k3.trans (.of s4)))
  have t04 : Tk H H4 := (tk_same s1).trans (t2.trans (t3.trans (tk_same s4)))
  have hs4 := hs3.same s4
  refine ⟨_, rfl, _, rfl, by omega, by omega, fun D nD => lc_acc (walk_range (lo := 0)) [] (fun k acc _ => acc = (List.range k).map fun k => V.str (nameOf i f k)) nD (fun _ _ _ _ _ _ => trivial) (fun _ _ _ _ _ _ _ p => p) rfl ?_ (by simp) ?_ ?_⟩
  · rw [Int.toNat_natCast]; exact Nat.lt_of_le_of_lt hn (by decide)
  · rintro k y acc H5 H5' hk kp t hD la rfl ⟨rfl, hy⟩ N E1 hN _
    rw [Int.toNat_natCast] at hk
    have hy : y = V.int ((k : Nat) : Int) := by rw [hy]; show V.int (0 + (k : Int)) = _; rw [Int.zero_add]
    subst hy
    refine ⟨rfl, tyes ⟨_, rfl, _, rfl, _, rfl, _, rfl, .inl ⟨_, _, rfl, rfl, .inl ⟨_, rfl, _, _, rfl, rfl, (by dsimp only; decide), ?_⟩⟩⟩⟩
    have l20 : sgL.cps.toList.length = 20 := by decide +kernel
    have g : ∀ j, j < 20 → sgL.cps.toList[j]? = some (sgL.cps.toList.getD j 0) := fun j hj => by
      rw [List.getD_eq_getElem?_getD, List.getElem?_eq_getElem (by omega)]; rfl
    have e1 : ((f : Int) + (k : Int)).fmod 20 = (((f + k) % 20 : Nat) : Int) := by
      rw [Int.fmod_eq_emod_of_nonneg _ (by decide)]; omega
    have e2 : (k : Int).fdiv 20 = ((k / 20 : Nat) : Int) := by
      rw [Int.fdiv_eq_ediv_of_nonneg _ (by decide)]; omega
    have sl : (stemL.getD i "").length ≤ 8 := by
      have : i = 0 ∨ i = 1 ∨ i = 2 ∨ i = 3 := by omega
      rcases this with rfl | rfl | rfl | rfl <;> decide +kernel
    have ls : sgL.length ≤ sizeLine := by decide +kernel
    have sz : 100 ≤ sizeLine := by decide
    refine .inr (.inr ⟨sgL, _, sgL.cps.toList.getD ((f + k) % 20) 0, rfl, rfl, ls, ?_, .inr (.inl ⟨_, _, rfl, rfl, ?_, ?_⟩)⟩)
    · rw [e1]; exact atI_nat (g _ (Nat.mod_lt _ (by decide)))
    · show (stemL.getD i "").length + 1 ≤ sizeLine
      omega
    refine ⟨_, rfl, _, rfl, _, _, rfl, rfl, ⟨by decide, by decide⟩, .inr (.inr ⟨sgL, _, sgL.cps.toList.getD (k / 20) 0, rfl, rfl, ls, ?_, .inr (.inl ⟨_, _, rfl, rfl, ?_, ?_⟩)⟩)⟩
    · rw [e2]; exact atI_nat (g _ (by omega))
    · have : (stemL.getD i "" ++ sg ((f + k) % 20)).length = (stemL.getD i "").length + 1 := by
        show (Array.append _ _).size = _
        simp [Str.length]
        rfl
      show (stemL.getD i "" ++ sg ((f + k) % 20)).length + 1 ≤ sizeLine
      omega
    · refine hN _ _ (.refl _ _) (.refl _) ?_
      rw [List.range_succ, List.map_append]; rfl
  · rintro H5 acc kp t hD la rfl
    rw [Int.toNat_natCast] at hD
    have s5 := Kp.nil kp
    refine q i f D H5 hi hf ?_ (k04.trans (.of s5)) (t04.trans (tk_same s5)) (hs4.same s5) hD
    rcases e : H D with _ | o
    · rfl
    · by_cases ea : D = a
      · subst ea
        obtain ⟨_, _, _, _, h1, _⟩ := hs4
        rw [h1] at nD; cases nD
      · rw [k04 _ _ e (by simpa using ea)] at nD; cases nD
theorem ok_Lopp (T : Tp K mg) (F : Std K "_law_opposite" "_law_opposite" s_Lopposite (He.ga K "_law_opposite")) : Dn P w K mg base 1 (He.ga K "_law_opposite") ["letters"] (spOpp K) := by
  refine dn_mk F sc_Lopposite
    (fun _ _ _ _ _ _ us hl => match us, hl with | [_], _ => rfl)
    (fun vs H Q E h => ?_) fun cdv A outer s H vs Q E hr h => ?_
  · obtain ⟨v, xs, rfl, _⟩ := h; rfl
  obtain ⟨v, xs, rfl, hd, hl, q⟩ := h
  obtain ⟨a, vs, rfl, hA, hX⟩ := hd.inv_tup
  cases dats_int_inv hX
  refine ⟨_, (pss_one (ps_ret (pe_callTy (tupK (K := K) rfl) (by rfl) T.b_tuple (by decide +kernel) (pa_cons (pe_lc (own := [("x", 1)]) (tt := tYes) rfl sc_Lopposite.nd (iTupK (K := K) rfl (pe_rev (K := K) rfl (pv 0))) (blkOk_by (N := N_Lopposite) (sc := defScope s_Lopposite) (own := [("x", 1)]) (by decide +kernel)) (fun _ _ _ _ _ => (pg_name (i := 1) sc_Lopposite.nd rfl (Or.inl rfl))) (fun _ _ _ _ _ => pts_nil) (fun _ _ _ _ _ => (pe_un un_neg (pv 1)))) pa_nil)))), ?_⟩
  refine ⟨_, rfl, a, _, rfl, hA, fun ra hra => ?_⟩
  have s1 := same_new hra (.tup (xs.map V.int).reverse)
  refine ⟨ra, rfl, ⟨_, SqT.of upd_same⟩, fun D nD => lc_acc walk_tup [] (fun i acc _ => acc = ((xs.reverse.take i).map fun x => V.int (-x))) nD (fun _ _ H1 k _ _ => SqT.of ((Kp.nil k) _ _ upd_same)) (fun _ _ _ _ _ _ _ p => p) rfl ?_ (by simp) ?_ ?_⟩
  · rw [List.length_reverse, List.length_map]; exact Nat.lt_of_le_of_lt hl (by decide)
  · rintro i y acc H3 H3' hi k t hD la rfl ⟨rfl, hy⟩ N E1 hN _
    rw [← List.map_reverse, List.getElem?_map] at hy
    obtain ⟨x, hx, rfl⟩ : ∃ x, xs.reverse[i]? = some x ∧ y = .int x := by
      cases e : xs.reverse[i]? with
      | none => rw [e] at hy; cases hy
      | some x => rw [e] at hy; exact ⟨x, rfl, (Option.some.inj hy).symm⟩
    refine ⟨rfl, tyes ⟨_, rfl, _, rfl, ?_⟩⟩
    exact hN _ _ (.refl _ _) (.refl _) (by rw [take_snoc hx]; simp)
  · rintro H3 acc k t hD _ rfl
    have s3 := Kp.nil k
    refine ⟨D, _, rfl, .inl ⟨SqL.of hD, fun r hr => ?_⟩⟩
    have s4 := same_new hr (.tup ((xs.reverse.take (xs.map V.int).reverse.length).map fun x => V.int (-x)))
    refine q _ (.ref r) (s1.trans (s3.trans s4)) (.tup (SqT.of upd_same) ?_)
    have e : (xs.map V.int).reverse.length = xs.reverse.length := by simp
    rw [e, List.take_length]
    have := dats_int_mk (K := K) (H := upd H3 r (.tup (xs.reverse.map fun x => V.int (-x)))) (xs.reverse.map fun x => -x)
    rw [List.map_map] at this
    exact this
theorem ok_Lnet (T : Tp K mg) (F : Std K "_law_net" "_law_net" s_Lnet (He.ga K "_law_net")) : Dn P w K mg base 1 (He.ga K "_law_net") ["letters"] (spNet K) := by
  refine dn_mk F sc_Lnet
    (fun _ _ _ _ _ _ us hl => match us, hl with | [_], _ => rfl)
    (fun vs H Q E h => ?_) fun cdv A outer s H vs Q E hr h => ?_
  · obtain ⟨a, xs, rfl, _⟩ := h; rfl
  obtain ⟨a, xs, rfl, hA, hl, q⟩ := h
  refine ⟨_, (pss_cons (ps_set (i := 1) sc_Lnet.nd rfl (Or.inl rfl) (pe_lst pa_nil))
    (pss_cons (ps_for PassesOwn.never rfl (iSeqK (K := K) rfl (pv 0)) (pg_name (i := 2) sc_Lnet.nd rfl (Or.inl rfl)) (pss_one (ps_if (PW.pt (pw_and (pt_cmpR (oNeNilL (K := K) rfl (hu64 hr)) (pv 1) (pe_lst pa_nil) (nomark _)) (pw_and1 (pt_cmpR (oEqK (K := K) rfl (hu64 hr)) (pe_ix (ixK (K := K) rfl) (pv 1) (pe_un un_neg pe_int) (fun _ _ => rfl)) (pe_un un_neg (pv 2)) (nomark _))))) (pss_one (ps_expr (pe_bm0 PySem.F.plainAttrs_list PySem.F.slot_list_pop PySem.F.type_list_pop mt_pop (pv 1)))) (pss_one (ps_expr (pe_bm PySem.F.plainAttrs_list PySem.F.slot_list_append PySem.F.type_list_append mt_append (pv 1) (pa_cons (pv 2) pa_nil)))))))
    (pss_one (ps_ret (pe_callTy (tupK (K := K) rfl) (by rfl) T.b_tuple (by decide +kernel) (pa_cons (pv 1) pa_nil)))))), ?_⟩
  refine ⟨Nat.zero_le _, fun lf hlf => ?_⟩
  have s1 := same_new hlf (.lst [])
  generalize hH1 : upd H lf (.lst []) = H1 at s1
  have ef : H1 lf = some (.lst []) := by rw [← hH1]; exact upd_same
  have back : ∀ H', Kp [lf] H1 H' → Same H H' := fun H' k b o e => k _ _ (s1 _ _ e) (by simpa using ne_of_none e hlf)
  rcases hA with hA | hA
  · have hA1 := (tk_same s1).seq hA
    refine .inl ⟨_, rfl, a, rfl, ⟨_, hA1⟩, for_it walk_tup (fun i σ H' => ∃ (ys : List Int) (v2 : Option V), σ = [some (.ref a), some (.ref lf), v2] ∧ Kp [lf] H1 H' ∧ Tk H1 H' ∧ H' lf = some (.lst (ys.map V.int)) ∧ (∀ y ∈ ys, y ∈ xs) ∧ ys.length ≤ i)
      ⟨[], none, rfl, .refl _ _, .refl _, ef, (fun y hy => by cases hy), Nat.le_refl _⟩ (fun _ _ _ _ ⟨_, _, _, _, t, _⟩ => t.seq hA1) ?_ ?_⟩
    · rintro i z σ H20 H2 hi ⟨ys, v2, rfl, k2, t2, e2, m2, l2⟩ ⟨rfl, hz⟩
      rw [List.length_map] at hi
      rw [List.getElem?_map] at hz
      obtain ⟨x, hx, rfl⟩ : ∃ x, xs[i]? = some x ∧ z = .int x := by
        cases e : xs[i]? with
        | none => rw [e] at hz; cases hz
        | some x => rw [e] at hz; exact ⟨x, rfl, (Option.some.inj hz).symm⟩
      have xm := List.mem_of_getElem? hx
      have sz : 1000 < sizeLine := by decide
      refine ⟨_, rfl, Nat.zero_le _, fun p hp => ?_⟩
      have s3 := same_new hp (.lst [])
      generalize hH3 : upd H2 p (.lst []) = H3 at s3
      have ep : H3 p = some (.lst []) := by rw [← hH3]; exact upd_same
      have e3 := s3 _ _ e2
      have k3 : Kp [lf] H1 H3 := k2.trans (.of s3)
      have t3 := t2.trans (tk_same s3)
      have app : ∃ (ys' : List Int) (v2 : Option V), [some (V.ref a), some (V.ref lf), some (V.int x)] = [some (.ref a), some (.ref lf), v2] ∧ Kp [lf] H1 (upd H3 lf (.lst (ys.map V.int ++ [.int x]))) ∧ Tk H1 (upd H3 lf (.lst (ys.map V.int ++ [.int x]))) ∧ (upd H3 lf (.lst (ys.map V.int ++ [.int x]))) lf = some (.lst (ys'.map V.int)) ∧ (∀ y ∈ ys', y ∈ xs) ∧ ys'.length ≤ i + 1 :=
        ⟨ys ++ [x], _, rfl, k3.trans (kp_upd (by simp) _), t3.trans (tk_lst e3), by rw [List.map_append]; exact upd_same, fun y hy => (List.mem_append.mp hy).elim (m2 y) (fun h => by rw [List.mem_singleton.mp h]; exact xm), by rw [List.length_append]; exact Nat.add_le_add_right l2 1⟩
      refine ⟨lf, p, ys.map .int, rfl, rfl, .lst (SqL.of e3) (dpall_ints ys), SqL.of ep, lay_ints2 ys, _, rfl, ?_⟩
      by_cases hy0 : ys = []
      · subst hy0
        refine iff' rfl (iteF ?_)
        exact ⟨_, rfl, .inl ⟨rfl, _, SqL.of e3⟩, _, rfl, lf, _, _, rfl, rfl, e3, by show 0 < sizeLine; decide, app⟩
      obtain ⟨y0, yl, rfl⟩ : ∃ y0 yl, ys = y0 ++ [yl] := ⟨ys.dropLast, ys.getLast hy0, (List.dropLast_concat_getLast hy0).symm⟩
      refine ift (by rw [List.map_append]; simp) ?_
      rw [List.map_append] at e3 app
      have lst : ((y0.map V.int) ++ [yl].map V.int)[((y0.map V.int) ++ [yl].map V.int).length - 1]? = some (.int yl) := by
        rw [List.length_append]
        simp
      refine ⟨_, rfl, _, rfl, .inl ⟨lf, _, -1, _, rfl, rfl, SqL.of e3, atI_last _ _, _, rfl, _, rfl, .inl ⟨rfl, _, rfl, ite2 (fun _ => ?_) (fun _ => ?_)⟩⟩⟩
      · refine ⟨_, rfl, .inl ⟨rfl, _, SqL.of e3⟩, lf, _, _, rfl, rfl, e3, lst, ?_⟩
        rw [List.length_append] at l2
        refine ⟨y0, _, rfl, k3.trans (kp_upd (by simp) _), t3.trans (tk_lst e3), ?_, fun y hy => m2 y (List.mem_append.mpr (.inl hy)), by omega⟩
        have : ((y0.map V.int) ++ [yl].map V.int).dropLast = y0.map V.int := by simp
        rw [this]; exact upd_same
      · refine ⟨_, rfl, .inl ⟨rfl, _, SqL.of e3⟩, _, rfl, lf, _, _, rfl, rfl, e3, ?_, app⟩
        rw [List.length_append, List.length_map, List.length_map]
        rw [List.length_append] at l2
        omega
    · rintro σ H2 ⟨ys, v2, rfl, k2, t2, e2, m2, l2⟩
      rw [List.length_map] at l2
      refine ⟨_, rfl, lf, _, rfl, .inl ⟨SqL.of e2, fun r hr => ?_⟩⟩
      have s3 := same_new hr (.tup (ys.map V.int))
      exact q _ (.ref r) ys ((back H2 k2).trans s3) (.tup (SqT.of upd_same) (dats_int_mk ys)) m2 l2
  · have hA1 := s1 _ _ hA
    refine .inr ⟨_, rfl, a, rfl, ⟨_, SqL.of hA1⟩, for_it walk_list (fun i σ H' => ∃ (ys : List Int) (v2 : Option V), σ = [some (.ref a), some (.ref lf), v2] ∧ Kp [lf] H1 H' ∧ Tk H1 H' ∧ H' lf = some (.lst (ys.map V.int)) ∧ (∀ y ∈ ys, y ∈ xs) ∧ ys.length ≤ i)
      ⟨[], none, rfl, .refl _ _, .refl _, ef, (fun y hy => by cases hy), Nat.le_refl _⟩ (fun _ _ _ _ ⟨_, _, _, k, _⟩ => SqL.of (k _ _ hA1 (by simpa using ne_of_none hA hlf))) ?_ ?_⟩
    · rintro i z σ H20 H2 hi ⟨ys, v2, rfl, k2, t2, e2, m2, l2⟩ ⟨rfl, hz⟩
      rw [List.length_map] at hi
      rw [List.getElem?_map] at hz
      obtain ⟨x, hx, rfl⟩ : ∃ x, xs[i]? = some x ∧ z = .int x := by
        cases e : xs[i]? with
        | none => rw [e] at hz; cases hz
        | some x => rw [e] at hz; exact ⟨x, rfl, (Option.some.inj hz).symm⟩
      have xm := List.mem_of_getElem? hx
      have sz : 1000 < sizeLine := by decide
      refine ⟨_, rfl, Nat.zero_le _, fun p hp => ?_⟩
      have s3 := same_new hp (.lst [])
      generalize hH3 : upd H2 p (.lst []) = H3 at s3
      have ep : H3 p = some (.lst []) := by rw [← hH3]; exact upd_same
      have e3 := s3 _ _ e2
      have k3 : Kp [lf] H1 H3 := k2.trans (.of s3)
      have t3 := t2.trans (tk_same s3)
      have app : ∃ (ys' : List Int) (v2 : Option V), [some (V.ref a), some (V.ref lf), some (V.int x)] = [some (.ref a), some (.ref lf), v2] ∧ Kp [lf] H1 (upd H3 lf (.lst (ys.map V.int ++ [.int x]))) ∧ Tk H1 (upd H3 lf (.lst (ys.map V.int ++ [.int x]))) ∧ (upd H3 lf (.lst (ys.map V.int ++ [.int x]))) lf = some (.lst (ys'.map V.int)) ∧ (∀ y ∈ ys', y ∈ xs) ∧ ys'.length ≤ i + 1 :=
        ⟨ys ++ [x], _, rfl, k3.trans (kp_upd (by simp) _), t3.trans (tk_lst e3), by rw [List.map_append]; exact upd_same, fun y hy => (List.mem_append.mp hy).elim (m2 y) (fun h => by rw [List.mem_singleton.mp h]; exact xm), by rw [List.length_append]; exact Nat.add_le_add_right l2 1⟩
      refine ⟨lf, p, ys.map .int, rfl, rfl, .lst (SqL.of e3) (dpall_ints ys), SqL.of ep, lay_ints2 ys, _, rfl, ?_⟩
      by_cases hy0 : ys = []
      · subst hy0
        refine iff' rfl (iteF ?_)
        exact ⟨_, rfl, .inl ⟨rfl, _, SqL.of e3⟩, _, rfl, lf, _, _, rfl, rfl, e3, by show 0 < sizeLine; decide, app⟩
      obtain ⟨y0, yl, rfl⟩ : ∃ y0 yl, ys = y0 ++ [yl] := ⟨ys.dropLast, ys.getLast hy0, (List.dropLast_concat_getLast hy0).symm⟩
      refine ift (by rw [List.map_append]; simp) ?_
      rw [List.map_append] at e3 app
      have lst : ((y0.map V.int) ++ [yl].map V.int)[((y0.map V.int) ++ [yl].map V.int).length - 1]? = some (.int yl) := by
        rw [List.length_append]
        simp
      refine ⟨_, rfl, _, rfl, .inl ⟨lf, _, -1, _, rfl, rfl, SqL.of e3, atI_last _ _, _, rfl, _, rfl, .inl ⟨rfl, _, rfl, ite2 (fun _ => ?_) (fun _ => ?_)⟩⟩⟩
      · refine ⟨_, rfl, .inl ⟨rfl, _, SqL.of e3⟩, lf, _, _, rfl, rfl, e3, lst, ?_⟩
        rw [List.length_append] at l2
        refine ⟨y0, _, rfl, k3.trans (kp_upd (by simp) _), t3.trans (tk_lst e3), ?_, fun y hy => m2 y (List.mem_append.mpr (.inl hy)), by omega⟩
        have : ((y0.map V.int) ++ [yl].map V.int).dropLast = y0.map V.int := by simp
        rw [this]; exact upd_same
      · refine ⟨_, rfl, .inl ⟨rfl, _, SqL.of e3⟩, _, rfl, lf, _, _, rfl, rfl, e3, ?_, app⟩
        rw [List.length_append, List.length_map, List.length_map]
        rw [List.length_append] at l2
        omega
    · rintro σ H2 ⟨ys, v2, rfl, k2, t2, e2, m2, l2⟩
      rw [List.length_map] at l2
      refine ⟨_, rfl, lf, _, rfl, .inl ⟨SqL.of e2, fun r hr => ?_⟩⟩
      have s3 := same_new hr (.tup (ys.map V.int))
      exact q _ (.ref r) ys ((back H2 k2).trans s3) (.tup (SqT.of upd_same) (dats_int_mk ys)) m2 l2
theorem ok_Lword (T : Tp K mg) (F : Std K "_law_word" "_law_word" s_Lword (He.ga K "_law_word")) (D_Ldraw : Dn P w K mg base 1 (He.ga K "_law_draw") ["source", "many"] (spDraw K)) (D_Lnet : Dn P w K mg base 1 (He.ga K "_law_net") ["letters"] (spNet K)) :
    Dn P w K mg base 2 (He.ga K "_law_word") ["source", "many", "most"] (spWord K) := by
  refine dn_mk F sc_Lword
    (fun _ _ _ _ _ _ us hl => match us, hl with | [_, _, _], _ => rfl)
    (fun vs H Q E h => ?_) fun cdv A outer s H vs Q E hr h => ?_
  · obtain ⟨a, c, n, m, B, rfl, _⟩ := h; rfl
  obtain ⟨a, c, n, m, B, rfl, hs, n1, n2, hm, hB, q⟩ := h
  refine ⟨_, (pss_cons (ps_set (i := 3) sc_Lword.nd rfl (Or.inl rfl) (pe_lst pa_nil))
    (pss_cons (ps_for PassesOwn.never rfl (pi_range1 rfl T.b_range (pa_cons (pe_f D_Ldraw (hr.mono (by omega)) T.g__law_draw (pa_cons (pv 0) (pa_cons (pe_op (oAddK (K := K) rfl) (pv 2) pe_int) pa_nil))) pa_nil)) (pg_name (i := 4) sc_Lword.nd rfl (Or.inl rfl)) (pss_cons (ps_set (i := 5) sc_Lword.nd rfl (Or.inl rfl) (pe_op (oAddK (K := K) rfl) pe_int (pe_f D_Ldraw (hr.mono (by omega)) T.g__law_draw (pa_cons (pv 0) (pa_cons (pv 1) pa_nil)))))
    (pss_one (ps_expr (pe_bm PySem.F.plainAttrs_list PySem.F.slot_list_append PySem.F.type_list_append mt_append (pv 3) (pa_cons (pe_ifExp (pt_cmpR (oEqK (K := K) rfl (hu64 hr)) (pe_f D_Ldraw (hr.mono (by omega)) T.g__law_draw (pa_cons (pv 0) (pa_cons pe_int pa_nil))) pe_int (nomark _)) (pv 5) (pe_un un_neg (pv 5))) pa_nil))))))
    (pss_one (ps_ret (pe_f D_Lnet (hr.mono (by omega)) T.g__law_net (pa_cons (pv 3) pa_nil)))))), ?_⟩
  refine ⟨Nat.zero_le _, fun lf hlf => ?_⟩
  have s1 := same_new hlf (.lst [])
  generalize hH1 : upd H lf (.lst []) = H1 at s1
  have ef : H1 lf = some (.lst []) := by rw [← hH1]; exact upd_same
  have hs1 := hs.same s1
  have naf : a ≠ lf := by
    obtain ⟨_, _, _, _, h1, _⟩ := hs
    exact ne_of_none h1 hlf
  have ncf : c ≠ lf := by
    obtain ⟨_, _, _, _, _, h1, _⟩ := hs
    exact ne_of_none h1 hlf
  refine ⟨_, rfl, _, rfl, .inl ⟨_, _, rfl, rfl, a, c, _, B, rfl, hs1, by omega, by omega, by omega, fun t H2 ht k2 t2 hs2 => ?_⟩⟩
  have ef2 := k2 _ _ ef (by simpa using naf.symm)
  have back : ∀ H', Kp [a, lf] H1 H' → Kp [a] H H' := fun H' k b o e hb => k _ _ (s1 _ _ e) (by
    have := ne_of_none e hlf
    simp at hb
    simp [this, hb])
  refine ⟨_, rfl, by omega, by omega, for_it (walk_range (lo := 0)) (fun i σ H' => ∃ (ys : List Int) (v4 v5 : Option V) (A' : Nat), σ = [some (.ref a), some (.int (n : Nat)), some (.int (m : Nat)), some (.ref lf), v4, v5] ∧ Kp [a, lf] H1 H' ∧ Tk H1 H' ∧ SrcAt H' a c A' ∧ A' ≤ B + 1 + 2 * i ∧ H' lf = some (.lst (ys.map V.int)) ∧ LW n ys ∧ ys.length = i)
    ⟨[], none, none, B + 1, rfl, k2.mono (by simp), t2, hs2, Nat.le_refl _, ef2, (fun x hx => by cases hx), rfl⟩ (fun _ _ _ _ _ => trivial) ?_ ?_⟩
  · rintro i z σ H30 H3 hi ⟨ys, v4, v5, A', rfl, k3, t3, hs3, hA', e3, lw3, l3⟩ ⟨rfl, hz⟩
    rw [Int.toNat_natCast] at hi
    refine ⟨_, rfl, _, rfl, a, c, _, A', rfl, hs3, by omega, by omega, by omega, fun d H4 hd k4 t4 hs4 => .inl ⟨_, _, rfl, rfl, ?_⟩⟩
    have e4 := k4 _ _ e3 (by simpa using naf.symm)
    refine ⟨_, rfl, .inl ⟨rfl, _, SqL.of e4⟩, _, rfl, a, c, _, A' + 1, rfl, hs4, by decide, by decide, by omega, fun f H5 hf k5 t5 hs5 => ?_⟩
    have e5 := k5 _ _ e4 (by simpa using naf.symm)
    have sz : 1000 < sizeLine := by decide
    have fin : ∀ x : Int, (x ≠ 0 ∧ -(n : Int) ≤ x ∧ x ≤ n) → ∃ (ys' : List Int) (v4' v5 : Option V) (A2 : Nat), [some (V.ref a), some (V.int (n : Nat)), some (V.int (m : Nat)), some (V.ref lf), some z, some (V.int (1 + (d : Nat)))] = [some (.ref a), some (.int (n : Nat)), some (.int (m : Nat)), some (.ref lf), v4', v5] ∧ Kp [a, lf] H1 (upd H5 lf (.lst (ys.map V.int ++ [.int x]))) ∧ Tk H1 (upd H5 lf (.lst (ys.map V.int ++ [.int x]))) ∧ SrcAt (upd H5 lf (.lst (ys.map V.int ++ [.int x]))) a c A2 ∧ A2 ≤ B + 1 + 2 * (i + 1) ∧ (upd H5 lf (.lst (ys.map V.int ++ [.int x]))) lf = some (.lst (ys'.map V.int)) ∧ LW n ys' ∧ ys'.length = i + 1 := fun x hx =>
      ⟨ys ++ [x], _, _, A' + 1 + 1, rfl, k3.trans ((k4.mono (by simp)).trans ((k5.mono (by simp)).trans (kp_upd (by simp) _))), t3.trans (t4.trans (t5.trans (tk_lst e5))), hs5.kp (kp_upd (M := [lf]) (by simp) _) (by simpa using naf) (by simpa using ncf), by omega, by rw [List.map_append]; exact upd_same, fun y hy => (List.mem_append.mp hy).elim (lw3 y) (fun h => by rw [List.mem_singleton.mp h]; exact hx), by rw [List.length_append, l3]; rfl⟩
    refine .inl ⟨rfl, _, rfl, ite2 (fun _ => ?_) (fun _ => ?_)⟩
    · exact ⟨_, rfl, lf, _, _, rfl, rfl, e5, by rw [List.length_map, l3]; omega, fin _ ⟨by omega, by omega, by omega⟩⟩
    · exact ⟨_, rfl, _, rfl, lf, _, _, rfl, rfl, e5, by rw [List.length_map, l3]; omega, fin _ ⟨by omega, by omega, by omega⟩⟩
  · rintro σ H3 ⟨ys, v4, v5, A', rfl, k3, t3, hs3, hA', e3, lw3, l3⟩
    rw [Int.toNat_natCast] at l3 hA'
    refine ⟨_, rfl, lf, ys, rfl, .inr e3, by omega, fun H4 r zs s4 hd hm4 hl4 => ?_⟩
    exact q r H4 zs A' ((back H3 k3).trans (.of s4)) ((tk_same s1).trans (t3.trans (tk_same s4))) (hs3.same s4) (by omega) hd (fun z hz => lw3 z (hm4 z hz)) (by omega)
end
end PK

set_option linter.all false
set_option Elab.async false
set_option maxRecDepth 100000
set_option maxHeartbeats 4000000
/-! KNs: straight bodies. -/
namespace PK
open PySem PySem.Spec PyProof.Rows L2
/-- acts alone, of letters of L -/
def Acts (L : List Str) (b : Bod) : Prop := ∀ s ∈ b, ∃ u x, s = .act u x ∧ x ∈ L
def spStraight (K : Fg) : Sp := fun vs H Q _ => ∃ (a c al : Addr) (L : List Str) (v : V) (xs : List Int) (A : Nat), vs = [.ref a, .ref al, v] ∧ SrcAt H a c A ∧ H al = some (.lst (L.map V.str)) ∧ 1 ≤ L.length ∧ L.length ≤ 20 ∧ Dat K H v (intsD xs) ∧ LW L.length xs ∧ xs.length ≤ 100 ∧ A ≤ 4000000000000000000 ∧
  ∀ (r : Addr) (H' : Hp) (ws : List V) (b : Bod) (A' : Nat), Kp [a] H H' → Tk H H' → SrcAt H' a c A' → A' ≤ A + 4 → H r = none → H' r = some (.lst ws) → Dats K H' ws (b.map stmD) → Acts L b → b.length ≤ xs.length + 2 → Q (.ref r) H'
section
variable {P : Program} {w : World} {K : Fg} {mg : Str → Option Value} {base : Heap}
theorem ok_Lstraight (T : Tp K mg) (F : Std K "_law_straight" "_law_straight" s_Lstraight (He.ga K "_law_straight")) (D_Ldraw : Dn P w K mg base 1 (He.ga K "_law_draw") ["source", "many"] (spDraw K)) : Dn P w K mg base 2 (He.ga K "_law_straight") ["source", "letters", "word"] (spStraight K) := by
  refine dn_mk F sc_Lstraight
    (fun _ _ _ _ _ _ us hl => match us, hl with | [_, _, _], _ => rfl)
    (fun vs H Q E h => ?_) fun cdv A outer s H vs Q E hr h => ?_
  · obtain ⟨a, c, al, L, v, xs, B, rfl, _⟩ := h; rfl
  obtain ⟨a, c, al, L, v, xs, B, rfl, hs, hal, l1, l20, hd, lw, hl, hB, q⟩ := h
  obtain ⟨av, vs, rfl, hA, hX⟩ := hd.inv_tup
  cases dats_int_inv hX
  have naa : al ≠ a := by
    obtain ⟨_, _, _, _, h1, _⟩ := hs
    intro e
    rw [e, h1] at hal
    injection hal with hal
    injection hal with hal
    cases L with
    | nil => cases hal
    | cons y t => injection hal with h _; cases h
  refine ⟨_, (pss_cons (ps_setLc (i := 4) (own := [("x", 3)]) (tt := tYes) rfl sc_Lstraight.nd rfl rfl (sw_true rfl rfl rfl (by decide +kernel)) (iTupK (K := K) rfl (pv 2)) (blkOk_by (N := N_Lstraight) (sc := defScope s_Lstraight) (own := [("x", 3)]) (by decide +kernel)) (fun _ _ _ _ _ => (pg_name (i := 3) sc_Lstraight.nd rfl (Or.inl rfl))) (fun _ _ _ _ _ => pts_nil) (fun _ _ _ _ _ => (pe_tup (pa_cons (pe_ix (ixK (K := K) rfl) (pe_lst (pa_cons pe_str (pa_cons pe_str pa_nil))) (pe_callTy call_int1 (by rfl) T.b_int (by decide +kernel) (pa_cons (pe_cmpR op_lt (pv 3) pe_int (nomark _)) pa_nil)) (fun _ _ => rfl)) (pa_cons (pe_ix (ixK (K := K) rfl) (pv 1) (pe_op op_sub (pe_callB call_abs (by rfl) T.b_abs (by decide +kernel) (pa_cons (pv 3) pa_nil)) pe_int) (fun _ _ => rfl)) pa_nil)))))
    (pss_cons (ps_if (pt_cmpR (oEqK (K := K) rfl (hu64 hr)) (pe_f D_Ldraw (hr.mono (by omega)) T.g__law_draw (pa_cons (pv 0) (pa_cons pe_int pa_nil))) pe_int (nomark _)) (pss_cons (ps_par (i := 5) (j := 6) (by rfl) sc_Lstraight.nd rfl rfl (by decide) rfl rfl (pa_cons (pe_f D_Ldraw (hr.mono (by omega)) T.g__law_draw (pa_cons (pv 0) (pa_cons (pe_op (oAddK (K := K) rfl) (pe_callB (cLenK (K := K) rfl) (by rfl) T.b_len PySem.boot_len (pa_cons (pv 4) pa_nil)) pe_int) pa_nil))) (pa_cons (pe_ix (ixK (K := K) rfl) (pv 1) (pe_f D_Ldraw (hr.mono (by omega)) T.g__law_draw (pa_cons (pv 0) (pa_cons (pe_callB (cLenK (K := K) rfl) (by rfl) T.b_len PySem.boot_len (pa_cons (pv 1) pa_nil)) pa_nil))) (fun _ _ => rfl)) pa_nil)) (by rfl))
    (pss_cons (ps_set (i := 7) sc_Lstraight.nd rfl (Or.inl rfl) (pe_ix (ixK (K := K) rfl) (pe_lst (pa_cons (pe_lst (pa_cons pe_str (pa_cons pe_str pa_nil))) (pa_cons (pe_lst (pa_cons pe_str (pa_cons pe_str pa_nil))) pa_nil))) (pe_f D_Ldraw (hr.mono (by omega)) T.g__law_draw (pa_cons (pv 0) (pa_cons pe_int pa_nil))) (fun _ _ => rfl)))
    (pss_one (ps_set (i := 4) sc_Lstraight.nd rfl (Or.inl rfl) (pe_op (oAddK (K := K) rfl) (pe_op (oAddK (K := K) rfl) (pe_slice (slLstK (K := K) rfl) (pv 4) po_none (po_some (pv 5))) (pe_lst (pa_cons (pe_tup (pa_cons (pe_ix (ixK (K := K) rfl) (pv 7) pe_int (fun _ _ => rfl)) (pa_cons (pv 6) pa_nil))) (pa_cons (pe_tup (pa_cons (pe_ix (ixK (K := K) rfl) (pv 7) pe_int (fun _ _ => rfl)) (pa_cons (pv 6) pa_nil))) pa_nil)))) (pe_slice (slLstK (K := K) rfl) (pv 4) (po_some (pv 5)) po_none)))))) pss_nil)
    (pss_one (ps_ret (pv 4))))), ?_⟩
  refine ⟨_, rfl, av, rfl, ⟨_, hA⟩, fun D nD => lc_acc walk_tup [] (fun i acc H' => ∃ b : Bod, Dats K H' acc (b.map stmD) ∧ Acts L b ∧ b.length = i) nD (fun _ _ H1 _ t _ => t.seq hA) (fun _ _ _ _ _ _ hD ⟨b, p1, p2⟩ => ⟨b, p1.tk (tk_lst hD), p2⟩) ⟨[], .nil, (fun s hs => by cases hs), rfl⟩ ?_ (by simp) ?_ ?_⟩
  · rw [List.length_map]; exact Nat.lt_of_le_of_lt hl (by decide)
  · rintro i y acc H3 H3' hi k t hD la ⟨b, p1, p2, p3⟩ ⟨rfl, hy⟩ N E1 hN _
    rw [List.getElem?_map] at hy
    obtain ⟨x, hx, rfl⟩ : ∃ x, xs[i]? = some x ∧ y = .int x := by
      cases e : xs[i]? with
      | none => rw [e] at hy; cases hy
      | some x => rw [e] at hy; exact ⟨x, rfl, (Option.some.inj hy).symm⟩
    obtain ⟨x0, x1, x2⟩ := lw x (List.mem_of_getElem? hx)
    refine ⟨rfl, tyes ⟨(by show 2 ≤ sizeLine; decide), fun wl hwl => ?_⟩⟩
    have s4 := same_new hwl (.lst [.str "do", .str "undo"])
    have e1 : atI [V.str "do", V.str "undo"] (if decide (x < 0) = true then 1 else 0) = some (.str (actW (decide (x < 0)))) := by
      by_cases h : x < 0
      · rw [decide_eq_true h]; rfl
      · rw [decide_eq_false h]; rfl
    obtain ⟨j, ej, lj⟩ : ∃ j : Nat, ((if x < 0 then -x else x) - 1) = (j : Int) ∧ j < L.length := by
      by_cases h : x < 0
      · rw [if_pos h]; exact ⟨(-x - 1).toNat, by omega, by omega⟩
      · rw [if_neg h]; exact ⟨(x - 1).toNat, by omega, by omega⟩
    have e2 : (L.map V.str)[j]? = some (.str L[j]) := by rw [List.getElem?_map, List.getElem?_eq_getElem lj]; rfl
    have hal4 := s4 _ _ ((Kp.nil k) _ _ hal)
    refine ⟨_, rfl, _, _, rfl, rfl, .inr ⟨_, rfl, .inl ⟨wl, _, _, _, rfl, rfl, SqL.of upd_same, e1, _, rfl, _, rfl, _, rfl, _, _, rfl, rfl, .inl ⟨al, _, (j : Int), _, rfl, ?_, SqL.of hal4, atI_nat e2, (by show 2 ≤ sizeLine; decide), fun tp htp => ?_⟩⟩⟩⟩
    · show V.int ((if x < 0 then -x else x) - 1) = _
      rw [ej]
    have s5 := same_new htp (.tup [.str (actW (decide (x < 0))), .str L[j]])
    have s45 := s4.trans s5
    refine hN _ _ (.of s45) (tk_same s45) ⟨b ++ [.act (decide (x < 0)) L[j]], ?_, fun s hs => ?_, by rw [List.length_append, p3]; rfl⟩
    · rw [List.map_append]
      exact (p1.tk (tk_same s45)).append (.cons (.tup (SqT.of upd_same) (.cons (.str _) (.cons (.str _) .nil))) .nil)
    · rcases List.mem_append.mp hs with hs | hs
      · exact p2 s hs
      · exact ⟨_, _, List.mem_singleton.mp hs, List.getElem_mem lj⟩
  rintro H1 acc k1 t1 hD _ ⟨b, p1, p2, p3⟩
  rw [List.length_map] at p3
  have s1 := Kp.nil k1
  have hs1 := hs.same s1
  have nDH : ∀ H' : Hp, H D = none := fun _ => nD
  have naD : a ≠ D := by
    obtain ⟨_, _, _, _, h1, _⟩ := hs
    exact ne_of_none h1 nD
  have lb := p1.length
  rw [List.length_map] at lb
  refine ⟨_, rfl, a, c, 4, B, rfl, hs1, by decide, by decide, by omega, fun d H2 hd2 k2 t2 hs2 => .inl ⟨rfl, _, rfl, ite2 (fun _ => ?_) (fun _ => ?_)⟩⟩
  · have eD2 := k2 _ _ hD (by simpa using naD.symm)
    have k02 : Kp [a] H H2 := (Kp.of s1).trans k2
    have hal2 := k02 _ _ hal (by simpa using naa)
    have p12 := p1.tk t2
    refine ⟨_, rfl, _, rfl, _, _, rfl, .inl ⟨_, SqL.of eD2, rfl⟩, .inl ⟨_, _, rfl, rfl, a, c, _, B + 1, rfl, hs2, by omega, by omega, by omega, fun at_ H3 h3 k3 t3 hs3 => ?_⟩⟩
    have hal3 := k3 _ _ hal2 (by simpa using naa)
    have eD3 := k3 _ _ eD2 (by simpa using naD.symm)
    refine ⟨_, rfl, _, rfl, _, rfl, _, _, rfl, .inl ⟨_, SqL.of hal3, rfl⟩, a, c, _, B + 1 + 1, rfl, hs3, by simp; omega, by simp; omega, by omega, fun li H4 h4 k4 t4 hs4 => ?_⟩
    have hal4 := k4 _ _ hal3 (by simpa using naa)
    have eD4 := k4 _ _ eD3 (by simpa using naD.symm)
    have lj : li < L.length := by
      have h4 : (li : Int) < (((L.map V.str).length : Nat) : Int) := h4
      rw [List.length_map] at h4; omega
    have e2 : (L.map V.str)[li]? = some (.str L[li]) := by rw [List.getElem?_map, List.getElem?_eq_getElem lj]; rfl
    refine .inl ⟨al, _, (li : Int), _, rfl, rfl, SqL.of hal4, atI_nat e2, _, _, rfl, ?_⟩
    refine ⟨(by show 2 ≤ sizeLine; decide), fun w1 hw1 => ⟨(by show 2 ≤ sizeLine; decide), fun w2 hw2 => ⟨(by show 2 ≤ sizeLine; decide), fun w3 hw3 => ?_⟩⟩⟩
    have s5 := same_new hw1 (.lst [.str "do", .str "undo"])
    have s6 := same_new hw2 (.lst [.str "undo", .str "do"])
    have s7 := same_new hw3 (.lst [.ref w1, .ref w2])
    have s57 := s5.trans (s6.trans s7)
    refine ⟨_, rfl, a, c, 2, B + 1 + 1 + 1, rfl, hs4.same s57, by decide, by decide, by omega, fun wi H5 h5 k5 t5 hs5 => ?_⟩
    have e7 : (upd (upd (upd H4 w1 (.lst [.str "do", .str "undo"])) w2 (.lst [.str "undo", .str "do"])) w3 (.lst [.ref w1, .ref w2])) w3 = some (.lst [.ref w1, .ref w2]) := upd_same
    have ne : ∀ (b : Addr), H4 b = none → b ≠ a := fun b hb e => by
      obtain ⟨_, _, _, _, h1, _⟩ := hs4
      rw [e, h1] at hb; cases hb
    have n1 : w1 ≠ a := ne w1 hw1
    have n2 : w2 ≠ a := by
      intro e
      obtain ⟨_, _, _, _, h1, _⟩ := hs4
      rw [e, s5 _ _ h1] at hw2; cases hw2
    have n3 : w3 ≠ a := by
      intro e
      obtain ⟨_, _, _, _, h1, _⟩ := hs4
      rw [e, s6 _ _ (s5 _ _ h1)] at hw3; cases hw3
    have e51 := k5 _ _ (s7 _ _ (s6 _ _ upd_same)) (by simpa using n1)
    have e52 := k5 _ _ (s7 _ _ upd_same) (by simpa using n2)
    have e53 := k5 _ _ e7 (by simpa using n3)
    obtain ⟨ww, u1, u2, hww, hw5⟩ : ∃ ww u1 u2, [V.ref w1, V.ref w2][wi]? = some (.ref ww) ∧ H5 ww = some (.lst [.str (actW u1), .str (actW u2)]) := by
      have : wi = 0 ∨ wi = 1 := by omega
      rcases this with rfl | rfl
      · exact ⟨w1, false, true, rfl, e51⟩
      · exact ⟨w2, true, false, rfl, e52⟩
    have eD5 := k5 _ _ (s57 _ _ eD4) (by simpa using naD.symm)
    have t25 : Tk H1 H5 := t2.trans (t3.trans (t4.trans ((tk_same s57).trans t5)))
    have k25 : Kp [a] H1 H5 := k2.trans (k3.trans (k4.trans ((Kp.of s57).trans k5)))
    have p15 := p1.tk t25
    refine .inl ⟨w3, _, (wi : Int), _, rfl, rfl, SqL.of e53, atI_nat hww, ?_⟩
    refine ⟨_, rfl, _, rfl, _, rfl, D, acc, rfl, SqL.of eD5, fun c1 hc1 => ?_⟩
    have r1 := same_new hc1 (.lst (cutV acc none (some (at_ : Int))))
    generalize hR1 : upd H5 c1 (.lst (cutV acc none (some (at_ : Int)))) = R1 at r1
    have ec1 : R1 c1 = some (.lst (cutV acc none (some (at_ : Int)))) := by rw [← hR1]; exact upd_same
    refine ⟨_, rfl, .inl ⟨ww, _, 0, _, rfl, rfl, SqL.of (r1 _ _ hw5), atI_nat (j := 0) rfl, _, rfl, (by show 2 ≤ sizeLine; decide), fun q1 hq1 => ?_⟩⟩
    have r2 := same_new hq1 (.tup [.str (actW u1), .str L[li]])
    refine ⟨_, rfl, .inl ⟨ww, _, 1, _, rfl, rfl, SqL.of (r2 _ _ (r1 _ _ hw5)), atI_nat (j := 1) rfl, _, rfl, (by show 2 ≤ sizeLine; decide), fun q2 hq2 => ⟨(by show 2 ≤ sizeLine; decide), fun ql hql => ?_⟩⟩⟩
    have r3 := same_new hq2 (.tup [.str (actW u2), .str L[li]])
    have r4 := same_new hql (.lst [.ref q1, .ref q2])
    have r14 := r1.trans (r2.trans (r3.trans r4))
    have la : acc.length ≤ 200 := by omega
    have sz : 1000 ≤ sizeLine := by decide
    have lc : ∀ lo hi, (cutV acc lo hi).length ≤ acc.length := fun lo hi => cutV_length acc lo hi
    refine .inr (.inr (.inl ⟨c1, ql, _, _, rfl, rfl, r4 _ _ (r3 _ _ (r2 _ _ ec1)), upd_same, by have := lc none (some (at_ : Int)); simp; omega, fun c2 hc2 => ?_⟩))
    have r5 := same_new hc2 (.lst (cutV acc none (some (at_ : Int)) ++ [.ref q1, .ref q2]))
    have r15 := r14.trans r5
    refine ⟨_, rfl, _, rfl, _, rfl, D, acc, rfl, SqL.of (r15 _ _ eD5), fun c3 hc3 => ?_⟩
    have r6 := same_new hc3 (.lst (cutV acc (some (at_ : Int)) none))
    refine .inr (.inr (.inl ⟨c2, c3, _, _, rfl, rfl, r6 _ _ upd_same, upd_same, by have := lc none (some (at_ : Int)); have := lc (some (at_ : Int)) none; simp; omega, fun c4 hc4 => ?_⟩))
    have r7 := same_new hc4 (.lst ((cutV acc none (some (at_ : Int)) ++ [.ref q1, .ref q2]) ++ cutV acc (some (at_ : Int)) none))
    have r17 := r15.trans (r6.trans r7)
    have r27 := (r3.trans (r4.trans (r5.trans (r6.trans r7))))
    have la2 : acc.length = b.length := lb
    have cn : b.length - 0 = b.length := rfl
    refine ⟨_, rfl, q c4 _ _ ((b.drop 0).take (min at_ b.length) ++ [.act u1 L[li], .act u2 L[li]] ++ (b.drop (min at_ b.length)).take (b.length - min at_ b.length)) (B + 1 + 1 + 1 + 1) ((Kp.of s1).trans (k25.trans (.of r17))) (t1.trans (t25.trans (tk_same r17))) (hs5.same r17) (by omega) ?_ upd_same ?_ (fun st hst => ?_) ?_⟩
    · rcases e : H c4 with _ | o
      · rfl
      · by_cases ea : c4 = a
        · obtain ⟨_, _, _, _, h1, _⟩ := hs5
          rw [ea, (r15.trans r6) _ _ h1] at hc4; cases hc4
        · have := (r15.trans r6) _ _ (k25 _ _ (s1 _ _ e) (by simpa using ea))
          rw [this] at hc4; cases hc4
    · rw [List.map_append, List.map_append, List.map_take, List.map_take, List.map_drop, List.map_drop]
      have tt := tk_same r17
      have c1' : cutV acc none (some (at_ : Int)) = (acc.drop 0).take (min at_ b.length) := by
        unfold cutV
        rw [HT.sIx_none, HT.sIx_nat, la2, Nat.sub_zero]
      have c2' : cutV acc (some (at_ : Int)) none = (acc.drop (min at_ b.length)).take (b.length - min at_ b.length) := by
        unfold cutV
        rw [HT.sIx_none, HT.sIx_nat, la2]
      have d1 := ((p15.tk tt).drop 0).take (min at_ b.length)
      have d3 := ((p15.tk tt).drop (min at_ b.length)).take (b.length - min at_ b.length)
      have d2 : Dats K _ [.ref q1, .ref q2] ([Stm.act u1 L[li], Stm.act u2 L[li]].map stmD) :=
        .cons (.tup (SqT.of ((r3.trans (r4.trans (r5.trans (r6.trans r7)))) _ _ upd_same)) (.cons (.str _) (.cons (.str _) .nil)))
          (.cons (.tup (SqT.of ((r4.trans (r5.trans (r6.trans r7))) _ _ upd_same)) (.cons (.str _) (.cons (.str _) .nil))) .nil)
      have hh := (d1.append d2).append d3
      rw [← c1', ← c2'] at hh
      exact hh
    · rcases List.mem_append.mp hst with hst | hst
      · rcases List.mem_append.mp hst with hst | hst
        · exact p2 st (List.mem_of_mem_drop (List.mem_of_mem_take hst))
        · rcases List.mem_cons.mp hst with rfl | hst
          · exact ⟨_, _, rfl, List.getElem_mem lj⟩
          · exact ⟨_, _, List.mem_singleton.mp hst, List.getElem_mem lj⟩
      · exact p2 st (List.mem_of_mem_drop (List.mem_of_mem_take hst))
    · rw [List.length_append, List.length_append, List.length_take, List.length_take, List.length_drop, List.length_drop]
      simp only [List.length_cons, List.length_nil]
      omega
  · exact ⟨_, rfl, q D H2 acc b (B + 1) ((Kp.of s1).trans k2) (t1.trans t2) hs2 (by omega) nD (k2 _ _ hD (by simpa using naD.symm)) (p1.tk t2) p2 (by omega)⟩
end
end PK

set_option linter.all false
set_option Elab.async false
set_option maxRecDepth 100000
set_option maxHeartbeats 4000000
/-! KNt: statements and bodies, drawn. Levels: statement at depth below n is 2n+1, body 2n+2. -/
namespace PK
open PySem PySem.Spec PyProof.Rows L2
/-- what the drawing of statements reads -/
structure GenAt (H : Hp) (a c al ah af : Addr) (L Hd : List Str) (l : Int) (A : Nat) : Prop where
  src : SrcAt H a c A
  hl : H al = some (.lst (L.map V.str))
  hh : H ah = some (.lst (Hd.map V.str))
  hf : H af = some (.lst [.int l])
  naf : a ≠ af
  ncf : c ≠ af
  L1 : 1 ≤ L.length
  L20 : L.length ≤ 20
  H1 : 1 ≤ Hd.length
  H40 : Hd.length ≤ 40
  bl : -200 ≤ l
  bA : (A : Int) + 25 * l ≤ 3000000000000000000
theorem kp_drop {M N : List Addr} {H H' : Hp} (k : Kp N H H') (h : ∀ x ∈ N, x ∈ M ∨ H x = none) : Kp M H H' :=
  fun b o e hb => k _ _ e (fun m => (h b m).elim hb (fun n => by rw [n] at e; cases e))
theorem names_ne_src {L : List Str} {H : Hp} {a al c : Addr} {A : Nat} (h : H al = some (.lst (L.map V.str))) (h1 : 1 ≤ L.length) (s : SrcAt H a c A) : al ≠ a := by
  obtain ⟨_, _, _, _, e, _⟩ := s
  intro z
  rw [z, e] at h
  injection h with h
  injection h with h
  cases L with
  | nil => cases h
  | cons y t => injection h with h _; cases h
theorem names_ne_int {L : List Str} {H : Hp} {al af : Addr} {l : Int} (h : H al = some (.lst (L.map V.str))) (h1 : 1 ≤ L.length) (s : H af = some (.lst [.int l])) : al ≠ af := by
  intro z
  rw [z, s] at h
  injection h with h
  injection h with h
  cases L with
  | nil => cases h
  | cons y t => injection h with h _; cases h
theorem GenAt.step {M : List Addr} {H H' : Hp} {a c al ah af : Addr} {L Hd : List Str} {l l' : Int} {A A' : Nat} (g : GenAt H a c al ah af L Hd l A) (k : Kp M H H') (hM : ∀ x ∈ M, x = a ∨ x = af ∨ H x = none)
    (hs : SrcAt H' a c A') (hf : H' af = some (.lst [.int l'])) (b1 : -200 ≤ l') (b2 : (A' : Int) + 25 * l' ≤ 3000000000000000000) : GenAt H' a c al ah af L Hd l' A' := by
  have n : ∀ {al : Addr} {L : List Str}, H al = some (.lst (L.map V.str)) → 1 ≤ L.length → al ∉ M := fun {al L} h h1 m => by
    rcases hM _ m with e | e | e
    · exact names_ne_src h h1 g.src e
    · exact names_ne_int h h1 g.hf e
    · rw [e] at h; cases h
  exact ⟨hs, k _ _ g.hl (n g.hl g.L1), k _ _ g.hh (n g.hh g.H1), hf, g.naf, g.ncf, g.L1, g.L20, g.H1, g.H40, b1, b2⟩
/-- what a drawn statement leaves: source at A' draws, left at l' -/
def spStm (K : Fg) (n : Nat) : Sp := fun vs H Q _ => ∃ (a c al ah af : Addr) (L Hd : List Str) (l d : Int) (A : Nat) (fr : Bool), vs = [.ref a, .ref al, .ref ah, .ref af, .int d, .bl fr] ∧ GenAt H a c al ah af L Hd l A ∧ 0 ≤ d ∧ d < n ∧ -100 + 2 * d ≤ l ∧
  ∀ (r : V) (H' : Hp) (s : Stm) (l' : Int) (A' : Nat), Kp [a, af] H H' → Tk H H' → SrcAt H' a c A' → H' af = some (.lst [.int l']) → (cntS s : Int) ≤ l - l' → min l 0 - 1 - 2 * d ≤ l' → (A' : Int) ≤ A + 25 * (l - l') → Dat K H' r (stmD s) → wfS L Hd s = true → (depS s : Int) ≤ d + 1 → (fr = false → nrS s = true) → Q r H'
def spBdy (K : Fg) (n : Nat) : Sp := fun vs H Q _ => ∃ (a c al ah af : Addr) (L Hd : List Str) (l d : Int) (A : Nat) (fr : Bool), vs = [.ref a, .ref al, .ref ah, .ref af, .int d, .bl fr] ∧ GenAt H a c al ah af L Hd l A ∧ (A : Int) + 25 * l + 1 ≤ 3000000000000000000 ∧ 0 ≤ d ∧ d < n ∧ n ≤ 12 ∧ -100 + 2 * d ≤ l ∧
  ∀ (r : V) (H' : Hp) (b : Bod) (l' : Int) (A' : Nat), Kp [a, af] H H' → Tk H H' → SrcAt H' a c A' → H' af = some (.lst [.int l']) → (cntB b : Int) ≤ l - l' → min l (-1 - 2 * d) ≤ l' → (A' : Int) ≤ A + 1 + 25 * (l - l') → Dat K H' r (bodD b) → wfB L Hd b = true → (depB b : Int) ≤ d + 1 → (fr = false → nrB b = true) → Q r H'
theorem tif_cut {c : TT} {u v R : TS} {D : Ends} {σ : L2.St} {H : Hp} (Qm : L2.St → Hp → Prop) (h2 : ∀ σ' H', Qm σ' H' → R D σ' H') (h1 : (∀ σ' H', Qm σ' H' → R D σ' H') → tSeq (tIfS c u v) R D σ H) : tSeq (tIfS c u v) R D σ H := h1 h2
theorem depB_append (a b : Bod) : depB (a ++ b) = max (depB a) (depB b) := by
  induction a with
  | nil => simp [depB]
  | cons s r ih => simp only [List.cons_append, depB, ih]; omega
theorem nrB_append (a b : Bod) : nrB (a ++ b) = (nrB a && nrB b) := by
  induction a with
  | nil => simp [nrB]
  | cons s r ih => simp only [List.cons_append, nrB, ih, Bool.and_assoc]
theorem depBs_append (a b : List Bod) : depBs (a ++ b) = max (depBs a) (depBs b) := by
  induction a with
  | nil => simp [depBs]
  | cons s r ih => simp only [List.cons_append, depBs, ih]; omega
theorem nrBs_append (a b : List Bod) : nrBs (a ++ b) = (nrBs a && nrBs b) := by
  induction a with
  | nil => simp [nrBs]
  | cons s r ih => simp only [List.cons_append, nrBs, ih, Bool.and_assoc]
theorem wfBs_append {L P : List Str} (a b : List Bod) : wfBs L P (a ++ b) = (wfBs L P a && wfBs L P b) := by
  induction a with
  | nil => simp [wfBs]
  | cons s r ih => simp only [List.cons_append, wfBs, ih, Bool.and_assoc]
theorem bodDs_of {K : Fg} {H : Hp} {r : Addr} {ws : List V} {bs : List Bod} (h : SqT K H r ws) (d : Dats K H ws (bs.map bodD)) : Dat K H (.ref r) (.tuple (bodDs bs)) := by
  rw [bodDs_map]; exact .tup h d
theorem kp_none {M : List Addr} {H H' : Hp} {x : Addr} (k : Kp M H H') (h : H' x = none) (n : x ∉ M) : H x = none := by
  rcases e : H x with _ | o
  · rfl
  · rw [k _ _ e n] at h; cases h
theorem bodD_of {K : Fg} {H : Hp} {r : Addr} {ws : List V} {b : Bod} (h : SqT K H r ws) (d : Dats K H ws (b.map stmD)) : Dat K H (.ref r) (bodD b) := by
  show Dat K H (.ref r) (.tuple (stmDs b))
  rw [stmDs_map]; exact .tup h d
section
variable {P : Program} {w : World} {K : Fg} {mg : Str → Option Value} {base : Heap}
theorem ok_Lbody (n : Nat) (T : Tp K mg) (F : Std K "_law_body" "_law_body" s_Lbody (He.ga K "_law_body")) (D_Ldraw : Dn P w K mg base 1 (He.ga K "_law_draw") ["source", "many"] (spDraw K))
    (D_Lstatement : Dn P w K mg base (2 * n + 1) (He.ga K "_law_statement") ["source", "letters", "heads", "left", "deep", "free"] (spStm K n)) : Dn P w K mg base (2 * n + 2) (He.ga K "_law_body") ["source", "letters", "heads", "left", "deep", "free"] (spBdy K n) := by
  refine dn_mk F sc_Lbody
    (fun _ _ _ _ _ _ us hl => match us, hl with | [_, _, _, _, _, _], _ => rfl)
    (fun vs H Q E h => ?_) fun cdv A outer s H vs Q E hr h => ?_
  · obtain ⟨a, c, al, ah, af, L, Hd, l, d, B, fr, rfl, _⟩ := h; rfl
  obtain ⟨a, c, al, ah, af, L, Hd, l, d, B, fr, rfl, g, b1, d0, dn, n12, bl, q⟩ := h
  refine ⟨_, (pss_cons (ps_set (i := 6) sc_Lbody.nd rfl (Or.inl rfl) (pe_lst pa_nil))
    (pss_cons (ps_for PassesOwn.never rfl (pi_range1 rfl T.b_range (pa_cons (pe_f D_Ldraw (hr.mono (by omega)) T.g__law_draw (pa_cons (pv 0) (pa_cons pe_int pa_nil))) pa_nil)) (pg_name (i := 7) sc_Lbody.nd rfl (Or.inl rfl)) (pss_one (ps_if (pt_cmpR op_gt (pe_ix (ixK (K := K) rfl) (pv 3) pe_int (fun _ _ => rfl)) pe_int (nomark _)) (pss_one (ps_expr (pe_bm PySem.F.plainAttrs_list PySem.F.slot_list_append PySem.F.type_list_append mt_append (pv 6) (pa_cons (pe_f D_Lstatement (hr.mono (by omega)) T.g__law_statement (pa_cons (pv 0) (pa_cons (pv 1) (pa_cons (pv 2) (pa_cons (pv 3) (pa_cons (pv 4) (pa_cons (pv 5) pa_nil))))))) pa_nil)))) pss_nil)))
    (pss_one (ps_ret (pe_callTy (tupK (K := K) rfl) (by rfl) T.b_tuple (by decide +kernel) (pa_cons (pv 6) pa_nil)))))), ?_⟩
  have g1 := g.bl
  refine ⟨Nat.zero_le _, fun lm hlm => ?_⟩
  have s1 := same_new hlm (.lst [])
  generalize hH1 : upd H lm (.lst []) = H1 at s1
  have em : H1 lm = some (.lst []) := by rw [← hH1]; exact upd_same
  have naf := g.naf
  have nal : a ≠ lm := by
    obtain ⟨_, _, _, _, h1, _⟩ := g.src
    exact ne_of_none h1 hlm
  have ncl : c ≠ lm := by
    obtain ⟨_, _, _, _, _, h1, _⟩ := g.src
    exact ne_of_none h1 hlm
  have nfl : af ≠ lm := ne_of_none g.hf hlm
  refine ⟨_, rfl, a, c, 5, B, rfl, g.src.same s1, by decide, by decide, by omega, fun t H2 ht k2 t2 hs2 => ?_⟩
  have em2 := k2 _ _ em (by simpa using nal.symm)
  have ef2 := k2 _ _ (s1 _ _ g.hf) (by simpa using naf.symm)
  have hM : ∀ x ∈ [a, af, lm], x = a ∨ x = af ∨ H x = none := by
    intro x hx
    simp only [List.mem_cons, List.not_mem_nil, or_false] at hx
    rcases hx with rfl | rfl | rfl
    · exact .inl rfl
    · exact .inr (.inl rfl)
    · exact .inr (.inr hlm)
  have t0 : Tk H H2 := (tk_same s1).trans t2
  refine ⟨_, rfl, by omega, by omega, for_it (walk_range (lo := 0)) (fun i σ H' => ∃ (ws : List V) (b : Bod) (v7 : Option V) (l' : Int) (A' : Nat), σ = [some (.ref a), some (.ref al), some (.ref ah), some (.ref af), some (.int d), some (.bl fr), some (.ref lm), v7] ∧ Kp [a, af, lm] H H' ∧ Tk H H' ∧ SrcAt H' a c A' ∧ H' af = some (.lst [.int l']) ∧ H' lm = some (.lst ws) ∧ Dats K H' ws (b.map stmD) ∧ (cntB b : Int) ≤ l - l' ∧ min l (-1 - 2 * d) ≤ l' ∧ (A' : Int) ≤ B + 1 + 25 * (l - l') ∧ wfB L Hd b = true ∧ (depB b : Int) ≤ d + 1 ∧ (fr = false → nrB b = true) ∧ b.length ≤ i)
    ⟨[], [], none, l, B + 1, rfl, (Kp.of s1).trans (k2.mono (by simp)), t0, hs2, ef2, em2, .nil, by simp [cntB], by omega, by omega, rfl, by simp [depB]; omega, fun _ => rfl, Nat.le_refl _⟩ (fun _ _ _ _ _ => trivial) ?_ ?_⟩
  · rintro i z σ H30 H3 hi ⟨ws, b, v7, l', A', rfl, k3, t3, hs3, ef3, em3, wd, cb, ll, hA', wf, dp, nr, lb⟩ ⟨rfl, hz⟩
    rw [Int.toNat_natCast] at hi
    have lw := wd.length
    rw [List.length_map] at lw
    have g3 : 0 < l' → GenAt H3 a c al ah af L Hd l' A' := fun h => g.step k3 hM hs3 ef3 (by omega) (by omega)
    refine ⟨_, rfl, .inl ⟨af, _, 0, _, rfl, rfl, SqL.of ef3, atI_nat (j := 0) rfl, _, _, rfl, rfl, _, rfl, ite2 (fun hc => ?_) (fun _ => ?_)⟩⟩
    · have hc : 0 < l' := of_decide_eq_true hc
      refine ⟨_, rfl, .inl ⟨rfl, _, SqL.of em3⟩, _, rfl, _, rfl, _, rfl, _, rfl, _, rfl, _, rfl, a, c, al, ah, af, L, Hd, l', d, A', fr, rfl, g3 hc, d0, dn, by omega, fun r H4 s2 l2 A2 k4 t4 hs4 ef4 cs ll2 hA2 sd wfs ds nrs => ?_⟩
      have em4 := k4 _ _ em3 (by simp [nal.symm, nfl.symm])
      have sz : 1000 < sizeLine := by decide
      refine ⟨lm, _, _, rfl, rfl, em4, by omega, ws ++ [r], b ++ [s2], _, l2, A2, rfl, (k3.trans (k4.mono (by simp))).trans (kp_upd (by simp) _), t3.trans (t4.trans (tk_lst em4)), hs4.kp (kp_upd (M := [lm]) (by simp) _) (by simpa using nal) (by simpa using ncl), ?_, upd_same, ?_, ?_, by omega, by omega, ?_, ?_, ?_, ?_⟩
      · rw [upd_ne nfl]; exact ef4
      · rw [List.map_append]
        exact ((wd.tk t4).append (.cons sd .nil)).tk (tk_lst em4)
      · rw [cntB_append]; simp only [cntB]; omega
      · rw [wfB_append, wf]; simp only [wfB, wfs]; rfl
      · rw [depB_append]; simp only [depB]; omega
      · intro e
        rw [nrB_append, nr e]; simp only [nrB, nrs e]; rfl
      · rw [List.length_append]; exact Nat.add_le_add_right lb 1
    · exact ⟨ws, b, _, l', A', rfl, k3, t3, hs3, ef3, em3, wd, cb, ll, hA', wf, dp, nr, by omega⟩
  · rintro σ H3 ⟨ws, b, v7, l', A', rfl, k3, t3, hs3, ef3, em3, wd, cb, ll, hA', wf, dp, nr, lb⟩
    refine ⟨_, rfl, lm, _, rfl, .inl ⟨SqL.of em3, fun r hr => ?_⟩⟩
    have s4 := same_new hr (.tup ws)
    have k4 := kp_drop (k3.trans (.of s4)) (M := [a, af]) (fun x hx => by
      simp only [List.mem_cons, List.not_mem_nil, or_false] at hx
      rcases hx with rfl | rfl | rfl
      · exact .inl (by simp)
      · exact .inl (by simp)
      · exact .inr hlm)
    exact q (.ref r) _ b l' A' k4 (t3.trans (tk_same s4)) (hs3.same s4) (s4 _ _ ef3) cb ll hA' (bodD_of (SqT.of upd_same) (wd.tk (tk_same s4))) wf dp nr
theorem ok_Lstatement (n : Nat) (hn : n ≤ 11) (T : Tp K mg) (F : Std K "_law_statement" "_law_statement" s_Lstatement (He.ga K "_law_statement")) (D_Ldraw : Dn P w K mg base 1 (He.ga K "_law_draw") ["source", "many"] (spDraw K))
    (D_Lstatement : Dn P w K mg base (2 * n + 1) (He.ga K "_law_statement") ["source", "letters", "heads", "left", "deep", "free"] (spStm K n)) (D_Lbody : Dn P w K mg base (2 * n + 2) (He.ga K "_law_body") ["source", "letters", "heads", "left", "deep", "free"] (spBdy K n)) :
    Dn P w K mg base (2 * n + 3) (He.ga K "_law_statement") ["source", "letters", "heads", "left", "deep", "free"] (spStm K (n + 1)) := by
  refine dn_mk F sc_Lstatement
    (fun _ _ _ _ _ _ us hl => match us, hl with | [_, _, _, _, _, _], _ => rfl)
    (fun vs H Q E h => ?_) fun cdv A outer s H vs Q E hr h => ?_
  · obtain ⟨a, c, al, ah, af, L, Hd, l, d, B, fr, rfl, _⟩ := h; rfl
  obtain ⟨a, c, al, ah, af, L, Hd, l, d, B, fr, rfl, g, d0, dn, bl, q⟩ := h
  refine ⟨_, (pss_cons (ps_augS (pv 3) pe_int get_list pe_int ip_sub set_list)
    (pss_cons (ps_set (i := 6) sc_Lstatement.nd rfl (Or.inl rfl) (pe_f D_Ldraw (hr.mono (by omega)) T.g__law_draw (pa_cons (pv 0) (pa_cons pe_int pa_nil))))
    (pss_cons (ps_if (PW.pt (pw_and (pt_cmpR (oEqK (K := K) rfl (hu64 hr)) (pv 4) pe_int (nomark _)) (pw_and1 (pt_cmpR (inK (K := K) rfl) (pv 6) (pe_tup (pa_cons pe_int (pa_cons pe_int (pa_cons pe_int (pa_cons pe_int pa_nil))))) (by rfl))))) (pss_one (ps_set (i := 6) sc_Lstatement.nd rfl (Or.inl rfl) pe_int)) pss_nil)
    (pss_cons (ps_if (pt_cmpR (oEqK (K := K) rfl (hu64 hr)) (pv 6) pe_int (nomark _)) (pss_one (ps_ret (pe_tup (pa_cons pe_str (pa_cons (pe_ix (ixK (K := K) rfl) (pv 2) (pe_f D_Ldraw (hr.mono (by omega)) T.g__law_draw (pa_cons (pv 0) (pa_cons (pe_callB (cLenK (K := K) rfl) (by rfl) T.b_len PySem.boot_len (pa_cons (pv 2) pa_nil)) pa_nil))) (fun _ _ => rfl)) pa_nil))))) pss_nil)
    (pss_cons (ps_if (pt_cmpR (oEqK (K := K) rfl (hu64 hr)) (pv 6) pe_int (nomark _)) (pss_cons (ps_par (i := 7) (j := 8) (by rfl) sc_Lstatement.nd rfl rfl (by decide) rfl rfl (pa_cons (pe_ix (ixK (K := K) rfl) (pe_lst (pa_cons pe_int (pa_cons pe_int (pa_cons pe_int (pa_cons pe_int pa_nil))))) (pe_f D_Ldraw (hr.mono (by omega)) T.g__law_draw (pa_cons (pv 0) (pa_cons pe_int pa_nil))) (fun _ _ => rfl)) (pa_cons (pe_lst pa_nil) pa_nil)) (by rfl))
    (pss_cons (ps_for PassesOwn.never rfl (pi_range1 rfl T.b_range (pa_cons (pv 7) pa_nil)) (pg_name (i := 9) sc_Lstatement.nd rfl (Or.inl rfl)) (pss_one (ps_expr (pe_bm PySem.F.plainAttrs_list PySem.F.slot_list_append PySem.F.type_list_append mt_append (pv 8) (pa_cons (pe_f D_Lbody (hr.mono (by omega)) T.g__law_body (pa_cons (pv 0) (pa_cons (pv 1) (pa_cons (pv 2) (pa_cons (pv 3) (pa_cons (pe_op op_sub (pv 4) pe_int) (pa_cons (pv 5) pa_nil))))))) pa_nil)))))
    (pss_one (ps_ret (pe_tup (pa_cons pe_str (pa_cons (pe_callTy (tupK (K := K) rfl) (by rfl) T.b_tuple (by decide +kernel) (pa_cons (pv 8) pa_nil)) pa_nil))))))) pss_nil)
    (pss_cons (ps_if (pt_cmpR (oEqK (K := K) rfl (hu64 hr)) (pv 6) pe_int (nomark _)) (pss_one (ps_ret (pe_tup (pa_cons pe_str (pa_cons (pe_f D_Lbody (hr.mono (by omega)) T.g__law_body (pa_cons (pv 0) (pa_cons (pv 1) (pa_cons (pv 2) (pa_cons (pv 3) (pa_cons (pe_op op_sub (pv 4) pe_int) (pa_cons (pv 5) pa_nil))))))) pa_nil))))) pss_nil)
    (pss_cons (ps_if (pt_cmpR (oEqK (K := K) rfl (hu64 hr)) (pv 6) pe_int (nomark _)) (pss_cons (ps_set (i := 10) sc_Lstatement.nd rfl (Or.inl rfl) (pe_f D_Lbody (hr.mono (by omega)) T.g__law_body (pa_cons (pv 0) (pa_cons (pv 1) (pa_cons (pv 2) (pa_cons (pv 3) (pa_cons (pe_op op_sub (pv 4) pe_int) (pa_cons (pv 5) pa_nil))))))))
    (pss_one (ps_ret (pe_tup (pa_cons pe_str (pa_cons (pv 10) (pa_cons (pe_f D_Lbody (hr.mono (by omega)) T.g__law_body (pa_cons (pv 0) (pa_cons (pv 1) (pa_cons (pv 2) (pa_cons (pv 3) (pa_cons (pe_op op_sub (pv 4) pe_int) (pa_cons pe_bl pa_nil))))))) pa_nil))))))) pss_nil)
    (pss_cons (ps_if (PW.pt (pw_and (pt_cmpR (oEqK (K := K) rfl (hu64 hr)) (pv 6) pe_int (nomark _)) (pw_and1 (pt_val (pv 5))))) (pss_one (ps_ret (pe_tup (pa_cons pe_str pa_nil)))) pss_nil)
    (pss_cons (ps_if (pt_cmpR (oEqK (K := K) rfl (hu64 hr)) (pv 6) pe_int (nomark _)) (pss_cons (ps_set (i := 7) sc_Lstatement.nd rfl (Or.inl rfl) (pe_op (oAddK (K := K) rfl) pe_int (pe_f D_Ldraw (hr.mono (by omega)) T.g__law_draw (pa_cons (pv 0) (pa_cons (pv 4) pa_nil)))))
    (pss_cons (ps_set (i := 11) sc_Lstatement.nd rfl (Or.inl rfl) (pe_f D_Lstatement (hr.mono (by omega)) T.g__law_statement (pa_cons (pv 0) (pa_cons (pv 1) (pa_cons (pv 2) (pa_cons (pv 3) (pa_cons (pe_op op_sub (pv 4) (pv 7)) (pa_cons (pv 5) pa_nil))))))))
    (pss_cons (ps_augS (pv 3) pe_int get_list (pv 7) ip_sub set_list)
    (pss_cons (ps_for PassesOwn.never rfl (pi_range1 rfl T.b_range (pa_cons (pv 7) pa_nil)) (pg_name (i := 9) sc_Lstatement.nd rfl (Or.inl rfl)) (pss_one (ps_set (i := 11) sc_Lstatement.nd rfl (Or.inl rfl) (pe_ix (ixK (K := K) rfl) (pe_lst (pa_cons (pe_tup (pa_cons pe_str (pa_cons (pe_tup (pa_cons (pv 11) pa_nil)) pa_nil))) (pa_cons (pe_tup (pa_cons pe_str (pa_cons (pe_tup (pa_cons (pe_tup pa_nil) (pa_cons (pe_tup (pa_cons (pv 11) pa_nil)) pa_nil))) pa_nil))) (pa_cons (pe_tup (pa_cons pe_str (pa_cons (pe_tup (pa_cons (pv 11) pa_nil)) (pa_cons (pe_tup pa_nil) pa_nil)))) pa_nil)))) (pe_f D_Ldraw (hr.mono (by omega)) T.g__law_draw (pa_cons (pv 0) (pa_cons pe_int pa_nil))) (fun _ _ => rfl)))))
    (pss_one (ps_ret (pv 11))))))) pss_nil)
    (pss_one (ps_ret (pe_tup (pa_cons (pe_ix (ixK (K := K) rfl) (pe_lst (pa_cons pe_str (pa_cons pe_str pa_nil))) (pe_f D_Ldraw (hr.mono (by omega)) T.g__law_draw (pa_cons (pv 0) (pa_cons pe_int pa_nil))) (fun _ _ => rfl)) (pa_cons (pe_ix (ixK (K := K) rfl) (pv 1) (pe_f D_Ldraw (hr.mono (by omega)) T.g__law_draw (pa_cons (pv 0) (pa_cons (pe_callB (cLenK (K := K) rfl) (by rfl) T.b_len PySem.boot_len (pa_cons (pv 1) pa_nil)) pa_nil))) (fun _ _ => rfl)) pa_nil)))))))))))))), ?_⟩
  have g1 := g.bl
  have gA := g.bA
  have naf := g.naf
  have sz : 100000 < sizeLine := by decide
  refine ⟨_, rfl, af, [.int l], 0, _, rfl, rfl, SqL.of g.hf, atI_nat (j := 0) rfl, _, _, rfl, rfl, af, _, 0, 0, rfl, rfl, g.hf, rfl, ?_⟩
  have kf : Kp [af] H (upd H af (.lst [.int (l - 1)])) := kp_upd (by simp) _
  have k1 : Kp [a, af] H (upd H af (.lst [.int (l - 1)])) := kf.mono (by simp)
  have t1 : Tk H (upd H af (.lst [.int (l - 1)])) := tk_lst g.hf
  have hs1 : SrcAt (upd H af (.lst [.int (l - 1)])) a c B := g.src.kp kf (by simpa using naf) (by simpa using g.ncf)
  have ef1 : (upd H af (.lst [.int (l - 1)])) af = some (.lst [.int (l - 1)]) := upd_same
  generalize hH1 : upd H af (.lst [.int (l - 1)]) = H1 at k1 t1 hs1 ef1
  have e1 : upd H af (HO.lst ([V.int l].set 0 (V.int ((fun i j : Int => i - j) l 1)))) = H1 := hH1
  rw [e1]
  refine ⟨_, rfl, a, c, 10, B, rfl, hs1, by decide, by decide, by omega, fun p H2 hp k2 t2 hs2 => ?_⟩
  have ef2 := k2 _ _ ef1 (by simpa using naf.symm)
  have k02 := k1.trans (k2.mono (by simp))
  have t02 := t1.trans t2
  dsimp only [gName]
  refine tif_cut (fun σ' H' => ∃ pk : Nat, σ' = [some (.ref a), some (.ref al), some (.ref ah), some (.ref af), some (.int d), some (.bl fr), some (.int pk), none, none, none, none, none] ∧ Same H2 H' ∧ pk < 10 ∧ (d = 0 → pk ≠ 4 ∧ pk ≠ 5 ∧ pk ≠ 6 ∧ pk ≠ 8)) ?rest fun rest => ?_
  case rest =>
    rintro σ' H3 ⟨pk, rfl, s3, hp, hd⟩
    have hs3 := hs2.same s3
    have ef3 := s3 _ _ ef2
    have k03 : Kp [a, af] H H3 := k02.trans (.of s3)
    have t03 := t02.trans (tk_same s3)
    have hM : ∀ x ∈ [a, af], x = a ∨ x = af ∨ H x = none := by
      intro x hx
      simp only [List.mem_cons, List.not_mem_nil, or_false] at hx
      exact hx.elim .inl (fun e => .inr (.inl e))
    have stp : ∀ {H' : Hp} {l' : Int} {A' : Nat}, Kp [a, af] H H' → SrcAt H' a c A' → H' af = some (.lst [.int l']) → -200 ≤ l' → (A' : Int) + 25 * l' ≤ 3000000000000000000 → GenAt H' a c al ah af L Hd l' A' := fun k s f b1 b2 => g.step k hM s f b1 b2
    have g3 := stp k03 hs3 ef3 (by omega) (by omega)
    refine ⟨_, rfl, .inl ⟨rfl, _, rfl, ite2 (fun e => ?_) (fun ne3 => ?_)⟩⟩
    · refine ⟨_, rfl, _, rfl, _, rfl, _, _, rfl, .inl ⟨_, SqL.of g3.hh, rfl⟩, a, c, _, B + 1, rfl, hs3, ?_, ?_, by omega, fun k H4 hk k4 t4 hs4 => ?_⟩
      · rw [List.length_map]; have := g.H1; omega
      · rw [List.length_map]; have := g.H40; omega
      have hk : k < Hd.length := by
        rw [List.length_map] at hk; omega
      have k04 := k03.trans (k4.mono (by simp))
      have ef4 := k4 _ _ ef3 (by simpa using naf.symm)
      have g4 := stp k04 hs4 ef4 (by omega) (by omega)
      have e2 : (Hd.map V.str)[k]? = some (.str Hd[k]) := by rw [List.getElem?_map, List.getElem?_eq_getElem hk]; rfl
      refine .inl ⟨ah, _, (k : Int), _, rfl, rfl, SqL.of g4.hh, atI_nat e2, by show 2 ≤ sizeLine; decide, fun tp htp => ?_⟩
      have s5 := same_new htp (.tup [.str "call", .str Hd[k]])
      exact q (.ref tp) _ (.call Hd[k]) (l - 1) _ (k04.trans (.of s5)) (t03.trans (t4.trans (tk_same s5))) (hs4.same s5) (s5 _ _ ef4) (by simp only [cntS]; omega) (by omega) (by omega) (.tup (SqT.of upd_same) (.cons (.str _) (.cons (.str _) .nil))) (decide_eq_true (List.getElem_mem hk)) (by simp only [depS]; omega) (fun _ => rfl)
    refine ⟨_, rfl, .inl ⟨rfl, _, rfl, ite2 (fun e => ?_) (fun ne4 => ?_)⟩⟩
    · have e := of_decide_eq_true e
      injection e with e
      have d1 : 1 ≤ d := by
        by_cases h : d = 0
        · have := (hd h).1; omega
        · omega
      refine ⟨by show 4 ≤ sizeLine; decide, fun lt hlt => ⟨_, rfl, a, c, 4, B + 1, rfl, hs3.same (same_new hlt _), by decide, by decide, by omega, fun mi H5 hmi k5 t5 hs5 => ?_⟩⟩
      have s4 := same_new hlt (.lst [.int 2, .int 2, .int 3, .int 8])
      have nat : lt ≠ a := by
        obtain ⟨_, _, _, _, h1, _⟩ := hs3
        exact (ne_of_none h1 hlt).symm
      have el5 := k5 lt _ (upd_same (H := H3) (o := .lst [.int 2, .int 2, .int 3, .int 8])) (by simpa using nat)
      obtain ⟨m, em, m2, m8⟩ : ∃ m : Nat, [V.int 2, V.int 2, V.int 3, V.int 8][mi]? = some (.int (m : Int)) ∧ 2 ≤ m ∧ m ≤ 8 := by
        have : mi = 0 ∨ mi = 1 ∨ mi = 2 ∨ mi = 3 := by omega
        rcases this with rfl | rfl | rfl | rfl
        · exact ⟨2, rfl, by decide, by decide⟩
        · exact ⟨2, rfl, by decide, by decide⟩
        · exact ⟨3, rfl, by decide, by decide⟩
        · exact ⟨8, rfl, by decide, by decide⟩
      refine .inl ⟨lt, _, (mi : Int), _, rfl, rfl, SqL.of el5, atI_nat em, Nat.zero_le _, fun lm hlm => ⟨_, _, rfl, ?_⟩⟩
      have k05 : Kp [a, af] H H5 := k03.trans ((Kp.of s4).trans (k5.mono (by simp)))
      have t05 := t03.trans ((tk_same s4).trans t5)
      have ef5 := k5 _ _ (s4 _ _ ef3) (by simpa using naf.symm)
      have s6 := same_new hlm (.lst [])
      generalize hH6 : upd H5 lm (.lst []) = H6 at s6
      have em6 : H6 lm = some (.lst []) := by rw [← hH6]; exact upd_same
      have nal : a ≠ lm := by
        obtain ⟨_, _, _, _, h1, _⟩ := hs5
        exact ne_of_none h1 hlm
      have ncl : c ≠ lm := by
        obtain ⟨_, _, _, _, _, h1, _⟩ := hs5
        exact ne_of_none h1 hlm
      have nfl : af ≠ lm := ne_of_none ef5 hlm
      have hlm0 : H lm = none := kp_none k05 hlm (by simp [nal.symm, nfl.symm])
      have hM6 : ∀ x ∈ [a, af, lm], x = a ∨ x = af ∨ H x = none := by
        intro x hx
        simp only [List.mem_cons, List.not_mem_nil, or_false] at hx
        rcases hx with rfl | rfl | rfl
        · exact .inl rfl
        · exact .inr (.inl rfl)
        · exact .inr (.inr hlm0)
      have k06 : Kp [a, af] H H6 := k05.trans (.of s6)
      refine ⟨_, rfl, _, rfl, by omega, by omega, for_it (walk_range (lo := 0)) (fun i σ H' => ∃ (ws : List V) (bs : List Bod) (v9 : Option V) (l' : Int) (A' : Nat), σ = [some (.ref a), some (.ref al), some (.ref ah), some (.ref af), some (.int d), some (.bl fr), some (.int pk), some (.int m), some (.ref lm), v9, none, none] ∧ Kp [a, af, lm] H H' ∧ Tk H H' ∧ SrcAt H' a c A' ∧ H' af = some (.lst [.int l']) ∧ H' lm = some (.lst ws) ∧ Dats K H' ws (bs.map bodD) ∧ (cntBs bs : Int) ≤ l - 1 - l' ∧ min (l - 1) (1 - 2 * d) ≤ l' ∧ (A' : Int) ≤ B + 2 + i + 25 * (l - 1 - l') ∧ wfBs L Hd bs = true ∧ (depBs bs : Int) ≤ d ∧ (fr = false → nrBs bs = true) ∧ bs.length = i)
        ⟨[], [], none, l - 1, B + 1 + 1, rfl, k06.mono (by simp), t05.trans (tk_same s6), hs5.same s6, s6 _ _ ef5, em6, .nil, by simp [cntBs], by omega, by omega, rfl, by simp [depBs]; omega, fun _ => rfl, rfl⟩ (fun _ _ _ _ _ => trivial) ?_ ?_⟩
      · rintro i z σ H70 H7 hi ⟨ws, bs, v9, l', A', rfl, k7, t7, hs7, ef7, em7, wd, cb, ll, hA', wf, dp, nr, lb⟩ ⟨rfl, hz⟩
        rw [Int.toNat_natCast] at hi
        have lw := wd.length
        rw [List.length_map] at lw
        have g7 := g.step k7 hM6 hs7 ef7 (by omega) (by omega)
        refine ⟨_, rfl, .inl ⟨rfl, _, SqL.of em7⟩, _, rfl, _, rfl, _, rfl, _, rfl, _, rfl, _, _, rfl, rfl, _, rfl, a, c, al, ah, af, L, Hd, l', d - 1, A', fr, rfl, g7, by omega, by omega, by omega, by omega, by omega, fun r H8 b2 l2 A2 k8 t8 hs8 ef8 cs ll2 hA2 sd wfs ds nrs => ?_⟩
        have em8 := k8 _ _ em7 (by simp [nal.symm, nfl.symm])
        refine ⟨lm, _, _, rfl, rfl, em8, by omega, ws ++ [r], bs ++ [b2], _, l2, A2, rfl, (k7.trans (k8.mono (by simp))).trans (kp_upd (by simp) _), t7.trans (t8.trans (tk_lst em8)), hs8.kp (kp_upd (M := [lm]) (by simp) _) (by simpa using nal) (by simpa using ncl), ?_, upd_same, ?_, ?_, by omega, by omega, ?_, ?_, ?_, ?_⟩
        · rw [upd_ne nfl]; exact ef8
        · rw [List.map_append]
          exact ((wd.tk t8).append (.cons sd .nil)).tk (tk_lst em8)
        · rw [cntBs_append]; simp only [cntBs]; omega
        · rw [wfBs_append, wf]; simp only [wfBs, wfs]; rfl
        · rw [depBs_append]; simp only [depBs]; omega
        · intro e
          rw [nrBs_append, nr e]; simp only [nrBs, nrs e]; rfl
        · rw [List.length_append, lb]; rfl
      · rintro σ H7 ⟨ws, bs, v9, l', A', rfl, k7, t7, hs7, ef7, em7, wd, cb, ll, hA', wf, dp, nr, lb⟩
        rw [Int.toNat_natCast] at lb hA'
        refine ⟨_, rfl, lm, _, rfl, .inl ⟨SqL.of em7, fun r hr => ⟨by show 2 ≤ sizeLine; decide, fun tp htp => ?_⟩⟩⟩
        have s8 := same_new hr (.tup ws)
        have s9 := same_new htp (.tup [.str "choose", .ref r])
        have s89 := s8.trans s9
        have k9 := kp_drop (k7.trans (.of s89)) (M := [a, af]) (fun x hx => by
          simp only [List.mem_cons, List.not_mem_nil, or_false] at hx
          rcases hx with rfl | rfl | rfl
          · exact .inl (by simp)
          · exact .inl (by simp)
          · exact .inr hlm0)
        refine q (.ref tp) _ (.cho bs) l' A' k9 (t7.trans (tk_same s89)) (hs7.same s89) (s89 _ _ ef7) (by simp only [cntS]; omega) (by omega) (by omega) (.tup (SqT.of upd_same) (.cons (.str _) (.cons (bodDs_of (SqT.of (s9 _ _ upd_same)) (wd.tk (tk_same s89))) .nil))) ?_ (by simp only [depS]; omega) (fun e => by simp only [nrS]; exact nr e)
        simp only [wfS, Bool.and_eq_true]
        exact ⟨decide_eq_true (by omega), decide_eq_true (by omega), wf⟩
    refine ⟨_, rfl, .inl ⟨rfl, _, rfl, ite2 (fun e => ?_) (fun ne5 => ?_)⟩⟩
    · have e := of_decide_eq_true e
      injection e with e
      have d1 : 1 ≤ d := by
        by_cases h : d = 0
        · have := (hd h).2.1; omega
        · omega
      refine ⟨_, rfl, _, rfl, _, rfl, _, rfl, _, rfl, _, _, rfl, rfl, _, rfl, a, c, al, ah, af, L, Hd, l - 1, d - 1, B + 1, fr, rfl, g3, by omega, by omega, by omega, by omega, by omega, fun r H4 b2 l2 A2 k4 t4 hs4 ef4 cs ll2 hA2 sd wfs ds nrs => ⟨by show 2 ≤ sizeLine; decide, fun tp htp => ?_⟩⟩
      have s5 := same_new htp (.tup [.str "loop", r])
      refine q (.ref tp) _ (.loop b2) l2 A2 (k03.trans (k4.trans (.of s5))) (t03.trans (t4.trans (tk_same s5))) (hs4.same s5) (s5 _ _ ef4) (by simp only [cntS]; omega) (by omega) (by omega) (.tup (SqT.of upd_same) (.cons (.str _) (.cons (sd.tk (tk_same s5)) .nil))) (by simp only [wfS]; exact wfs) (by simp only [depS]; omega) (fun e => by simp only [nrS]; exact nrs e)
    refine ⟨_, rfl, .inl ⟨rfl, _, rfl, ite2 (fun e => ?_) (fun ne6 => ?_)⟩⟩
    · have e := of_decide_eq_true e
      injection e with e
      have d1 : 1 ≤ d := by
        by_cases h : d = 0
        · have := (hd h).2.2.1; omega
        · omega
      refine ⟨_, rfl, _, rfl, _, rfl, _, rfl, _, rfl, _, _, rfl, rfl, _, rfl, a, c, al, ah, af, L, Hd, l - 1, d - 1, B + 1, fr, rfl, g3, by omega, by omega, by omega, by omega, by omega, fun r H4 b2 l2 A2 k4 t4 hs4 ef4 cs ll2 hA2 sd wfs ds nrs => ?_⟩
      have k04 := k03.trans k4
      have g4 := stp k04 hs4 ef4 (by omega) (by omega)
      refine ⟨_, rfl, _, rfl, _, rfl, _, rfl, _, rfl, _, rfl, _, _, rfl, rfl, a, c, al, ah, af, L, Hd, l2, d - 1, A2, false, rfl, g4, by omega, by omega, by omega, by omega, by omega, fun r5 H5 b3 l3 A3 k5 t5 hs5 ef5 cs3 ll3 hA3 sd3 wfs3 ds3 nrs3 => ⟨by show 3 ≤ sizeLine; decide, fun tp htp => ?_⟩⟩
      have s6 := same_new htp (.tup [.str "ensure", r, r5])
      refine q (.ref tp) _ (.ens b2 b3) l3 A3 (k04.trans (k5.trans (.of s6))) (t03.trans (t4.trans (t5.trans (tk_same s6)))) (hs5.same s6) (s6 _ _ ef5) (by simp only [cntS]; omega) (by omega) (by omega) (.tup (SqT.of upd_same) (.cons (.str _) (.cons ((sd.tk t5).tk (tk_same s6)) (.cons (sd3.tk (tk_same s6)) .nil)))) ?_ (by simp only [depS]; omega) (fun e => by simp only [nrS, nrs e, nrs3]; rfl)
      simp only [wfS, wfs, wfs3, nrs3]; rfl
    dsimp only [tNext]
    refine tif_cut (fun σ' H' => σ' = [some (.ref a), some (.ref al), some (.ref ah), some (.ref af), some (.int d), some (.bl fr), some (.int pk), none, none, none, none, none] ∧ H' = H3) ?rest2 fun rest2 => ?_
    case rest2 =>
      rintro σ' H' ⟨rfl, rfl⟩
      refine ⟨_, rfl, .inl ⟨rfl, _, rfl, ite2 (fun e => ?_) (fun ne8 => ?_)⟩⟩
      · have e := of_decide_eq_true e
        injection e with e
        have d1 : 1 ≤ d := by
          by_cases h : d = 0
          · have := (hd h).2.2.2; omega
          · omega
        refine ⟨_, rfl, _, rfl, a, c, d, B + 1, rfl, hs3, by omega, by omega, by omega, fun mm H4 hmm k4 t4 hs4 => .inl ⟨_, _, rfl, rfl, ?_⟩⟩
        have k04 := k03.trans (k4.mono (by simp))
        have ef4 := k4 _ _ ef3 (by simpa using naf.symm)
        have g4 := stp k04 hs4 ef4 (by omega) (by omega)
        refine ⟨_, rfl, _, rfl, _, rfl, _, rfl, _, rfl, _, rfl, _, _, rfl, rfl, _, rfl, a, c, al, ah, af, L, Hd, l - 1, d - (1 + (mm : Int)), B + 1 + 1, fr, rfl, g4, by omega, by omega, by omega, fun r H5 s2 l2 A2 k5 t5 hs5 ef5 cs ll2 hA2 sd wfs ds nrs => ?_⟩
        have k05 := k04.trans k5
        refine ⟨_, rfl, af, [.int l2], 0, _, rfl, rfl, SqL.of ef5, atI_nat (j := 0) rfl, _, rfl, _, _, rfl, rfl, af, _, 0, 0, rfl, rfl, ef5, rfl, ?_⟩
        have kf : Kp [af] H5 (upd H5 af (.lst [.int (l2 - (1 + (mm : Int)))])) := kp_upd (by simp) _
        have k6 : Kp [a, af] H5 (upd H5 af (.lst [.int (l2 - (1 + (mm : Int)))])) := kf.mono (by simp)
        have t6 : Tk H5 (upd H5 af (.lst [.int (l2 - (1 + (mm : Int)))])) := tk_lst ef5
        have hs6 : SrcAt (upd H5 af (.lst [.int (l2 - (1 + (mm : Int)))])) a c A2 := hs5.kp kf (by simpa using naf) (by simpa using g.ncf)
        have ef6 : (upd H5 af (.lst [.int (l2 - (1 + (mm : Int)))])) af = some (.lst [.int (l2 - (1 + (mm : Int)))]) := upd_same
        generalize hH6 : upd H5 af (.lst [.int (l2 - (1 + (mm : Int)))]) = H6 at k6 t6 hs6 ef6
        have e6 : upd H5 af (HO.lst ([V.int l2].set 0 (V.int ((fun i j : Int => i - j) l2 ((fun i j : Int => i + j) 1 (mm : Int)))))) = H6 := hH6
        rw [e6]
        have t06 := t03.trans (t4.trans (t5.trans t6))
        have k06 := k05.trans k6
        refine ⟨_, rfl, _, rfl, by omega, by omega, for_it (walk_range (lo := 0)) (fun i σ H' => ∃ (r : V) (s2 : Stm) (v9 : Option V) (A' : Nat), σ = [some (.ref a), some (.ref al), some (.ref ah), some (.ref af), some (.int d), some (.bl fr), some (.int pk), some (.int (1 + (mm : Int))), none, v9, none, some r] ∧ Kp [a, af] H H' ∧ Tk H H' ∧ SrcAt H' a c A' ∧ H' af = some (.lst [.int (l2 - (1 + (mm : Int)))]) ∧ Dat K H' r (stmD s2) ∧ (cntS s2 : Int) ≤ l - 1 - l2 + i ∧ A' ≤ A2 + i ∧ wfS L Hd s2 = true ∧ (depS s2 : Int) ≤ d - (1 + (mm : Int)) + 1 + i ∧ (fr = false → nrS s2 = true))
          ⟨r, s2, none, A2, rfl, k06, t06, hs6, ef6, sd.tk t6, by omega, by omega, wfs, by omega, nrs⟩ (fun _ _ _ _ _ => trivial) ?_ ?_⟩
        · rintro i z σ H70 H7 hi ⟨r, s2', v9, A', rfl, k7, t7, hs7, ef7, sd7, cs7, hA7, wf7, ds7, nr7⟩ ⟨rfl, hz⟩
          refine ⟨_, rfl, by show 1 ≤ sizeLine; decide, fun t1 h1 => ⟨by show 2 ≤ sizeLine; decide, fun u1 g1 => ⟨Nat.zero_le _, fun t2 h2 => ⟨_, rfl, by show 1 ≤ sizeLine; decide, fun t3 h3 => ⟨by show 2 ≤ sizeLine; decide, fun t4 h4 => ⟨by show 2 ≤ sizeLine; decide, fun u2 g2 => ⟨_, rfl, by show 1 ≤ sizeLine; decide, fun t5 h5 => ⟨Nat.zero_le _, fun t6 h6 => ⟨by show 3 ≤ sizeLine; decide, fun u3 g3 => ⟨by show 3 ≤ sizeLine; decide, fun ll hll => ?_⟩⟩⟩⟩⟩⟩⟩⟩⟩⟩
          have p1 := same_new h1 (.tup [r])
          have p2 := same_new g1 (.tup [.str "loop", .ref t1])
          have p3 := same_new h2 (.tup [])
          have p4 := same_new h3 (.tup [r])
          have p5 := same_new h4 (.tup [.ref t2, .ref t3])
          have p6 := same_new g2 (.tup [.str "choose", .ref t4])
          have p7 := same_new h5 (.tup [r])
          have p8 := same_new h6 (.tup [])
          have p9 := same_new g3 (.tup [.str "ensure", .ref t5, .ref t6])
          have p10 := same_new hll (.lst [.ref u1, .ref u2, .ref u3])
          have r9 := p9.trans p10
          have r8 := p8.trans r9
          have r7 := p7.trans r8
          have r6 := p6.trans r7
          have r5 := p5.trans r6
          have r4 := p4.trans r5
          have r3 := p3.trans r4
          have r2 := p2.trans r3
          have r1 := p1.trans r2
          have nal : a ≠ ll := by
            obtain ⟨_, _, _, _, x1, _⟩ := hs7.same (p1.trans (p2.trans (p3.trans (p4.trans (p5.trans (p6.trans (p7.trans (p8.trans p9))))))))
            exact ne_of_none x1 hll
          refine ⟨_, rfl, a, c, 3, A', rfl, hs7.same r1, by decide, by decide, by omega, fun wi H8 hwi k8 t8 hs8 => ?_⟩
          have el8 := k8 ll _ upd_same (by simpa using nal.symm)
          have ef8 := k8 _ _ (r1 _ _ ef7) (by simpa using naf.symm)
          have k78 : Kp [a, af] H H8 := k7.trans ((Kp.of r1).trans (k8.mono (by simp)))
          have t78 := t7.trans ((tk_same r1).trans t8)
          have tr := (tk_same r1).trans t8
          have dr := sd7.tk tr
          have q1 : SqT K H8 t1 [r] := t8.seq (SqT.of (r2 _ _ upd_same))
          have q2 : SqT K H8 t2 [] := t8.seq (SqT.of (r4 _ _ upd_same))
          have q3 : SqT K H8 t3 [r] := t8.seq (SqT.of (r5 _ _ upd_same))
          have q4 : SqT K H8 t4 [.ref t2, .ref t3] := t8.seq (SqT.of (r6 _ _ upd_same))
          have q5 : SqT K H8 t5 [r] := t8.seq (SqT.of (r8 _ _ upd_same))
          have q6 : SqT K H8 t6 [] := t8.seq (SqT.of (r9 _ _ upd_same))
          have v1 : SqT K H8 u1 [.str "loop", .ref t1] := t8.seq (SqT.of (r3 _ _ upd_same))
          have v2 : SqT K H8 u2 [.str "choose", .ref t4] := t8.seq (SqT.of (r7 _ _ upd_same))
          have v3 : SqT K H8 u3 [.str "ensure", .ref t5, .ref t6] := t8.seq (SqT.of (p10 _ _ upd_same))
          have b1 : Dat K H8 (.ref t1) (bodD [s2']) := bodD_of q1 (.cons dr .nil)
          have b2 : Dat K H8 (.ref t2) (bodD []) := bodD_of q2 .nil
          have b3 : Dat K H8 (.ref t3) (bodD [s2']) := bodD_of q3 (.cons dr .nil)
          have b5 : Dat K H8 (.ref t5) (bodD [s2']) := bodD_of q5 (.cons dr .nil)
          have b6 : Dat K H8 (.ref t6) (bodD []) := bodD_of q6 .nil
          obtain ⟨u, s4, hu, hD, hc, hw, hdp, hn⟩ : ∃ (u : Addr) (s4 : Stm), [V.ref u1, V.ref u2, V.ref u3][wi]? = some (.ref u) ∧ Dat K H8 (.ref u) (stmD s4) ∧ cntS s4 = 1 + cntS s2' ∧ wfS L Hd s4 = true ∧ depS s4 = 1 + depS s2' ∧ nrS s4 = nrS s2' := by
            have : wi = 0 ∨ wi = 1 ∨ wi = 2 := by omega
            rcases this with rfl | rfl | rfl
            · exact ⟨u1, .loop [s2'], rfl, .tup v1 (.cons (.str _) (.cons b1 .nil)), by simp [cntS, cntB], by simp [wfS, wfB, wf7], by simp [depS, depB], by simp [nrS, nrB]⟩
            · refine ⟨u2, .cho [[], [s2']], rfl, .tup v2 (.cons (.str _) (.cons (bodDs_of q4 (.cons b2 (.cons b3 .nil))) .nil)), by simp [cntS, cntB, cntBs], by simp [wfS, wfB, wfBs, wf7], by simp [depS, depB, depBs], by simp [nrS, nrB, nrBs]⟩
            · exact ⟨u3, .ens [s2'] [], rfl, .tup v3 (.cons (.str _) (.cons b5 (.cons b6 .nil))), by simp [cntS, cntB], by simp [wfS, wfB, nrB, wf7], by simp [depS, depB], by simp [nrS, nrB]⟩
          exact .inl ⟨ll, _, (wi : Int), _, rfl, rfl, SqL.of el8, atI_nat hu, .ref u, s4, _, A' + 1, rfl, k78, t78, hs8, ef8, hD, by omega, by omega, hw, by omega, fun e => by rw [hn]; exact nr7 e⟩
        · rintro σ H7 ⟨r, s3, v9, A', rfl, k7, t7, hs7, ef7, sd7, cs7, hA7, wf7, ds7, nr7⟩
          exact ⟨_, rfl, q r _ s3 _ A' k7 t7 hs7 ef7 (by omega) (by omega) (by omega) sd7 wf7 (by omega) nr7⟩
      refine ⟨by show 2 ≤ sizeLine; decide, fun wl hwl => ?_⟩
      have s4 := same_new hwl (.lst [.str "do", .str "undo"])
      have nal : a ≠ wl := by
        obtain ⟨_, _, _, _, x1, _⟩ := hs3
        exact ne_of_none x1 hwl
      refine ⟨_, rfl, a, c, 2, B + 1, rfl, hs3.same s4, by decide, by decide, by omega, fun ui H5 hui k5 t5 hs5 => ?_⟩
      have el5 := k5 wl _ upd_same (by simpa using nal.symm)
      have k05 : Kp [a, af] H H5 := k03.trans ((Kp.of s4).trans (k5.mono (by simp)))
      have ef5 := k5 _ _ (s4 _ _ ef3) (by simpa using naf.symm)
      have g5 := stp k05 hs5 ef5 (by omega) (by omega)
      obtain ⟨u, hu⟩ : ∃ u, [V.str "do", V.str "undo"][ui]? = some (.str (actW u)) := by
        have : ui = 0 ∨ ui = 1 := by omega
        rcases this with rfl | rfl
        · exact ⟨false, rfl⟩
        · exact ⟨true, rfl⟩
      refine .inl ⟨wl, _, (ui : Int), _, rfl, rfl, SqL.of el5, atI_nat hu, _, rfl, _, rfl, _, rfl, _, _, rfl, .inl ⟨_, SqL.of g5.hl, rfl⟩, a, c, _, B + 1 + 1, rfl, hs5, ?_, ?_, by omega, fun k H6 hk k6 t6 hs6 => ?_⟩
      · rw [List.length_map]; have := g.L1; omega
      · rw [List.length_map]; have := g.L20; omega
      have hk : k < L.length := by
        rw [List.length_map] at hk; omega
      have k06 := k05.trans (k6.mono (by simp))
      have ef6 := k6 _ _ ef5 (by simpa using naf.symm)
      have g6 := stp k06 hs6 ef6 (by omega) (by omega)
      have e2 : (L.map V.str)[k]? = some (.str L[k]) := by rw [List.getElem?_map, List.getElem?_eq_getElem hk]; rfl
      refine .inl ⟨al, _, (k : Int), _, rfl, rfl, SqL.of g6.hl, atI_nat e2, by show 2 ≤ sizeLine; decide, fun tp htp => ?_⟩
      have s7 := same_new htp (.tup [.str (actW u), .str L[k]])
      exact q (.ref tp) _ (.act u L[k]) (l - 1) _ (k06.trans (.of s7)) (t03.trans ((tk_same s4).trans (t5.trans (t6.trans (tk_same s7))))) (hs6.same s7) (s7 _ _ ef6) (by simp only [cntS]; omega) (by omega) (by omega) (.tup (SqT.of upd_same) (.cons (.str _) (.cons (.str _) .nil))) (decide_eq_true (List.getElem_mem hk)) (by simp only [depS]; omega) (fun _ => rfl)
    refine ⟨_, rfl, .inl ⟨rfl, _, rfl, ite2 (fun e => ?_) (fun ne7 => ?_)⟩⟩
    · refine ⟨_, rfl, _, rfl, ite2 (fun hf => ?_) (fun hf => ?_)⟩
      · refine ⟨by show 1 ≤ sizeLine; decide, fun tp htp => ?_⟩
        have s7 := same_new htp (.tup [.str "return"])
        exact q (.ref tp) _ .ret (l - 1) _ (k03.trans (.of s7)) (t03.trans (tk_same s7)) (hs3.same s7) (s7 _ _ ef3) (by simp only [cntS]; omega) (by omega) (by omega) (.tup (SqT.of upd_same) (.cons (.str _) .nil)) rfl (by simp only [depS]; omega) (fun e => by rw [e] at hf; cases hf)
      · exact rest2 _ _ ⟨rfl, rfl⟩
    · exact iteF (rest2 _ _ ⟨rfl, rfl⟩)
  refine ⟨_, rfl, .inl ⟨rfl, _, rfl, ite2 (fun h0 => ?_) (fun h0 => ?_)⟩⟩
  · refine ⟨_, rfl, by show 4 ≤ sizeLine; decide, fun tp htp => ⟨tp, _, rfl, .inr (SqT.of upd_same), rfl, rfl, _, rfl, ite2 (fun hin => ?_) (fun hin => ?_)⟩⟩
    · exact rest _ _ ⟨0, rfl, same_new htp _, by decide, fun _ => by decide⟩
    · refine rest _ _ ⟨p, rfl, same_new htp _, by omega, fun _ => ⟨?_, ?_, ?_, ?_⟩⟩ <;> (rintro rfl; exact hin rfl)
  · refine iteF (rest _ _ ⟨p, rfl, fun _ _ h => h, by omega, fun e => (h0 (by rw [e]; rfl)).elim⟩)
theorem dn_no {x q : Str} {st : Stmt} {f : Addr} {ps : List Str} {sp : Sp} (F : Std K x q st f)
    (hb : ∀ (kV doc pm : Value) (an : Option Addr) (cdv ct : Value) (us : List Value), us.length = ps.length → bindArgs (PySem.W.fnOf x q (defArgs st) (defBody st) (defScope st) .none kV doc pm an cdv ct) ⟨us, []⟩ = pure (ps.zip us))
    (hf : ∀ vs H Q E, sp vs H Q E → False) : Dn P w K mg base 0 f ps sp := by
  obtain ⟨fd, F⟩ := F
  exact ⟨⟨fd, ⟨fun _ _ _ _ h => (hf _ _ _ _ h).elim, fun _ _ _ _ _ _ _ _ _ _ _ _ _ h => (hf _ _ _ _ h).elim⟩, F.bindsN hb⟩, F.kp⟩
theorem all_Lstm (T : Tp K mg) (FS : Std K "_law_statement" "_law_statement" s_Lstatement (He.ga K "_law_statement")) (FB : Std K "_law_body" "_law_body" s_Lbody (He.ga K "_law_body")) (D_Ldraw : Dn P w K mg base 1 (He.ga K "_law_draw") ["source", "many"] (spDraw K)) :
    ∀ n : Nat, n ≤ 12 → Dn P w K mg base (2 * n + 1) (He.ga K "_law_statement") ["source", "letters", "heads", "left", "deep", "free"] (spStm K n) ∧ Dn P w K mg base (2 * n + 2) (He.ga K "_law_body") ["source", "letters", "heads", "left", "deep", "free"] (spBdy K n)
  | 0, _ => by
    have h : Dn P w K mg base (2 * 0 + 1) (He.ga K "_law_statement") ["source", "letters", "heads", "left", "deep", "free"] (spStm K 0) := (dn_no FS
      (fun _ _ _ _ _ _ us hl => match us, hl with | [_, _, _, _, _, _], _ => rfl)
      (fun vs H Q E h => by obtain ⟨a, c, al, ah, af, L, Hd, l, d, B, fr, _, _, h1, h2, _⟩ := h; omega)).mono (by omega)
    exact ⟨h, ok_Lbody 0 T FB D_Ldraw h⟩
  | n + 1, hn => by
    obtain ⟨h1, h2⟩ := all_Lstm T FS FB D_Ldraw n (by omega)
    have h : Dn P w K mg base (2 * (n + 1) + 1) (He.ga K "_law_statement") ["source", "letters", "heads", "left", "deep", "free"] (spStm K (n + 1)) := ok_Lstatement n (by omega) T FS D_Ldraw h1 h2
    exact ⟨h, ok_Lbody (n + 1) T FB D_Ldraw h⟩
end
end PK

set_option linter.all false
set_option Elab.async false
set_option maxRecDepth 100000
set_option maxHeartbeats 4000000
/-! KMa: counts of places, names, in plain Lean. -/
namespace PK
open PySem PySem.Spec PyProof.Rows L2
mutual
theorem wfS_mono {L P P' : List Str} (h : ∀ x ∈ P, x ∈ P') : ∀ s : Stm, wfS L P s = true → wfS L P' s = true
  | .act _ _, w => w
  | .call x, w => decide_eq_true (h x (of_decide_eq_true w))
  | .cho bs, w => by
    simp only [wfS, Bool.and_eq_true] at w ⊢
    exact ⟨w.1, w.2.1, wfBs_mono h bs w.2.2⟩
  | .loop b, w => by simp only [wfS] at w ⊢; exact wfB_mono h b w
  | .ret, _ => rfl
  | .ens b s, w => by
    simp only [wfS, Bool.and_eq_true] at w ⊢
    exact ⟨wfB_mono h b w.1, wfB_mono h s w.2.1, w.2.2⟩
theorem wfB_mono {L P P' : List Str} (h : ∀ x ∈ P, x ∈ P') : ∀ b : List Stm, wfB L P b = true → wfB L P' b = true
  | [], _ => rfl
  | s :: r, w => by
    simp only [wfB, Bool.and_eq_true] at w ⊢
    exact ⟨wfS_mono h s w.1, wfB_mono h r w.2⟩
theorem wfBs_mono {L P P' : List Str} (h : ∀ x ∈ P, x ∈ P') : ∀ b : List (List Stm), wfBs L P b = true → wfBs L P' b = true
  | [], _ => rfl
  | s :: r, w => by
    simp only [wfBs, Bool.and_eq_true] at w ⊢
    exact ⟨wfB_mono h s w.1, wfBs_mono h r w.2⟩
end
/-! places, an act as two -/
mutual
def p2S (rt : Nat) : Stm → Nat
  | .act _ _ => 2
  | .call _ => 1
  | .cho bs => 1 + p2Bs rt bs
  | .loop b => 1 + p2B rt b
  | .ret => rt
  | .ens b s => p2B 0 s + p2B (rt + p2B 0 s) b
def p2B (rt : Nat) : List Stm → Nat
  | [] => 0
  | s :: r => p2S rt s + p2B rt r
def p2Bs (rt : Nat) : List (List Stm) → Nat
  | [] => 0
  | b :: r => p2B rt b + p2Bs rt r
end
/-! no return: two places a statement at most -/
mutual
theorem p2S_nr (rt : Nat) : ∀ s : Stm, nrS s = true → p2S rt s ≤ 2 * cntS s
  | .act _ _, _ => by simp only [p2S, cntS]; omega
  | .call _, _ => by simp only [p2S, cntS]; omega
  | .cho bs, h => by simp only [nrS] at h; have := p2Bs_nr rt bs h; simp only [p2S, cntS]; omega
  | .loop b, h => by simp only [nrS] at h; have := p2B_nr rt b h; simp only [p2S, cntS]; omega
  | .ret, h => by cases h
  | .ens b s, h => by
    simp only [nrS, Bool.and_eq_true] at h
    have := p2B_nr (rt + p2B 0 s) b h.1
    have := p2B_nr 0 s h.2
    simp only [p2S, cntS]; omega
theorem p2B_nr (rt : Nat) : ∀ b : List Stm, nrB b = true → p2B rt b ≤ 2 * cntB b
  | [], _ => Nat.le_refl _
  | s :: r, h => by
    simp only [nrB, Bool.and_eq_true] at h
    have := p2S_nr rt s h.1
    have := p2B_nr rt r h.2
    simp only [p2B, cntB]; omega
theorem p2Bs_nr (rt : Nat) : ∀ b : List (List Stm), nrBs b = true → p2Bs rt b ≤ 2 * cntBs b
  | [], _ => Nat.le_refl _
  | s :: r, h => by
    simp only [nrBs, Bool.and_eq_true] at h
    have := p2B_nr rt s h.1
    have := p2Bs_nr rt r h.2
    simp only [p2Bs, cntBs]; omega
end
mutual
theorem plS_nrl (rt : Nat) : ∀ s : Stm, nrS s = true → plS rt s ≤ cntS s
  | .act _ _, _ => by simp only [plS, cntS]; omega
  | .call _, _ => by simp only [plS, cntS]; omega
  | .cho bs, h => by simp only [nrS] at h; have := plBs_nrl rt bs h; simp only [plS, cntS]; omega
  | .loop b, h => by simp only [nrS] at h; have := plB_nrl rt b h; simp only [plS, cntS]; omega
  | .ret, h => by cases h
  | .ens b s, h => by
    simp only [nrS, Bool.and_eq_true] at h
    have := plB_nrl (rt + plB 0 s) b h.1
    have := plB_nrl 0 s h.2
    simp only [plS, cntS]; omega
theorem plB_nrl (rt : Nat) : ∀ b : List Stm, nrB b = true → plB rt b ≤ cntB b
  | [], _ => Nat.le_refl _
  | s :: r, h => by
    simp only [nrB, Bool.and_eq_true] at h
    have := plS_nrl rt s h.1
    have := plB_nrl rt r h.2
    simp only [plB, cntB]; omega
theorem plBs_nrl (rt : Nat) : ∀ b : List (List Stm), nrBs b = true → plBs rt b ≤ cntBs b
  | [], _ => Nat.le_refl _
  | s :: r, h => by
    simp only [nrBs, Bool.and_eq_true] at h
    have := plB_nrl rt s h.1
    have := plBs_nrl rt r h.2
    simp only [plBs, cntBs]; omega
end
/-! any: each statement makes at most as many places as there are statements and returned ones -/
mutual
theorem plS_le {L P : List Str} (M : Nat) : ∀ (s : Stm) (rt : Nat), wfS L P s = true → rt + cntS s ≤ M → plS rt s ≤ cntS s * M
  | .act _ _, rt, _, h => by simp only [plS, cntS] at h ⊢; omega
  | .call _, rt, _, h => by simp only [plS, cntS] at h ⊢; omega
  | .cho bs, rt, w, h => by
    simp only [wfS, Bool.and_eq_true] at w
    simp only [plS, cntS] at h ⊢
    have := plBs_le M bs rt w.2.2 (by omega)
    rw [Nat.add_mul]; omega
  | .loop b, rt, w, h => by
    simp only [wfS] at w
    simp only [plS, cntS] at h ⊢
    have := plB_le M b rt w (by omega)
    rw [Nat.add_mul]; omega
  | .ret, rt, _, h => by simp only [plS, cntS] at h ⊢; omega
  | .ens b s, rt, w, h => by
    simp only [wfS, Bool.and_eq_true] at w
    simp only [plS, cntS] at h ⊢
    have h1 := plB_nrl 0 s w.2.2
    have := plB_le M b (rt + plB 0 s) w.1 (by omega)
    rw [Nat.add_mul, Nat.add_mul]
    omega
theorem plB_le {L P : List Str} (M : Nat) : ∀ (b : List Stm) (rt : Nat), wfB L P b = true → rt + cntB b ≤ M → plB rt b ≤ cntB b * M
  | [], _, _, _ => Nat.zero_le _
  | s :: r, rt, w, h => by
    simp only [wfB, Bool.and_eq_true] at w
    simp only [plB, cntB] at h ⊢
    have := plS_le M s rt w.1 (by omega)
    have := plB_le M r rt w.2 (by omega)
    rw [Nat.add_mul]; omega
theorem plBs_le {L P : List Str} (M : Nat) : ∀ (b : List (List Stm)) (rt : Nat), wfBs L P b = true → rt + cntBs b ≤ M → plBs rt b ≤ cntBs b * M
  | [], _, _, _ => Nat.zero_le _
  | s :: r, rt, w, h => by
    simp only [wfBs, Bool.and_eq_true] at w
    simp only [plBs, cntBs] at h ⊢
    have := plB_le M s rt w.1 (by omega)
    have := plBs_le M r rt w.2 (by omega)
    rw [Nat.add_mul]; omega
end
/-! ### names -/
def nm3 (i m h : Nat) : Str := (stemL.getD i "" ++ sg m) ++ sg h
theorem nm3_all : ∀ i < 4, ∀ m < 20, ∀ h < 2, okName (nm3 i m h) = true ∧ nm3 i m h ≠ "never0" := by decide +kernel
theorem sg_inj : ∀ m < 20, ∀ h < 20, sgL.cps.toList.getD m 0 = sgL.cps.toList.getD h 0 → m = h := by decide +kernel
theorem nm3_inj {i m h m' h' : Nat} (hm : m < 20) (hh : h < 20) (hm' : m' < 20) (hh' : h' < 20) (e : nm3 i m h = nm3 i m' h') : m = m' ∧ h = h' := by
  have e := congrArg (fun s : Str => s.cps.toList) e
  have a : ∀ m h, (nm3 i m h).cps.toList = (stemL.getD i "").cps.toList ++ [sgL.cps.toList.getD m 0] ++ [sgL.cps.toList.getD h 0] := fun m h => by
    show ((_ ++ _) ++ _ : Array _).toList = _
    rw [Array.toList_append, Array.toList_append]
    rfl
  rw [a m h, a m' h'] at e
  have e1 := List.append_inj' e rfl
  have e2 := List.append_inj' e1.1 rfl
  exact ⟨sg_inj m hm m' hm' (by simpa using e2.2), sg_inj h hh h' hh' (by simpa using e1.2)⟩
def namesOf (i f n : Nat) : List Str := (List.range n).map fun k => nameOf i f k
theorem names_ok {i f n : Nat} (hi : i < 4) (hn : n ≤ 40) : ∀ x ∈ namesOf i f n, OkN x ∧ x ≠ "never0" := by
  intro x hx
  obtain ⟨k, hk, rfl⟩ := List.mem_map.mp hx
  have hk := List.mem_range.mp hk
  have h := nm3_all i hi ((f + k) % 20) (Nat.mod_lt _ (by decide)) (k / 20) (by omega)
  exact ⟨okN_of h.1, h.2⟩
theorem names_nodup {i f n : Nat} (hn : n ≤ 40) : (namesOf i f n).Nodup := by
  unfold namesOf List.Nodup
  rw [List.pairwise_map]
  refine (List.pairwise_lt_range (n := n)).imp_of_mem fun {k k'} m m' hlt e => ?_
  have m := List.mem_range.mp m
  have m' := List.mem_range.mp m'
  have := nm3_inj (Nat.mod_lt _ (by decide)) (by omega) (Nat.mod_lt _ (by decide)) (by omega) (show nm3 i ((f + k) % 20) (k / 20) = nm3 i ((f + k') % 20) (k' / 20) from e)
  omega
theorem names_len (i f n : Nat) : (namesOf i f n).length = n := by unfold namesOf; simp
end PK

set_option linter.all false
set_option Elab.async false
set_option maxRecDepth 100000
set_option maxHeartbeats 4000000
/-! KNu: a program, drawn. -/
namespace PK
open PySem PySem.Spec PyProof.Rows L2
def spProg (K : Fg) : Sp := fun vs H Q _ => ∃ (a c : Addr) (m A : Nat), vs = [.ref a, .int m] ∧ SrcAt H a c A ∧ 1 ≤ m ∧ m ≤ 150 ∧ A ≤ 1000000000000000000 ∧
  ∀ (r : V) (H' : Hp) (p : Prog) (A' : Nat), Kp [a] H H' → Tk H H' → SrcAt H' a c A' → A' ≤ A + 10000 → Dat K H' r (progD p) → Valid p → Q r H'
theorem tasg_cut {te : TE} {g : TG} {R : TS} {D : Ends} {σ : L2.St} {H : Hp} (Qm : L2.St → Hp → Prop) (h2 : ∀ σ' H', Qm σ' H' → R D σ' H') (h1 : (∀ σ' H', Qm σ' H' → R D σ' H') → tSeq (tAsg te g) R D σ H) : tSeq (tAsg te g) R D σ H := h1 h2
theorem namesOf_str (i f n : Nat) : ((List.range n).map fun k => V.str (nameOf i f k)) = (namesOf i f n).map V.str := by
  unfold namesOf; rw [List.map_map]; rfl
theorem SrcAt.na {H : Hp} {a c x : Addr} {n : Nat} (h : SrcAt H a c n) (hx : H x = none) : a ≠ x := by
  obtain ⟨_, _, _, _, h1, _⟩ := h
  exact ne_of_none h1 hx
theorem SrcAt.nc {H : Hp} {a c x : Addr} {n : Nat} (h : SrcAt H a c n) (hx : H x = none) : c ≠ x := by
  obtain ⟨_, _, _, _, _, h1, _⟩ := h
  exact ne_of_none h1 hx
theorem progD_of {K : Fg} {H : Hp} {r al ap : Addr} {p : Prog} {ps : List V} (h : SqT K H r [.ref al, .ref ap]) (h1 : SqT K H al (p.ls.map V.str)) (h2 : SqT K H ap ps) (h3 : Dats K H ps (p.ps.map procD)) : Dat K H (.ref r) (progD p) := by
  have e : ∀ l : List Str, Dats K H (l.map V.str) (l.map PyData.str) := fun l => by
    induction l with
    | nil => exact .nil
    | cons x t ih => exact .cons (.str x) ih
  exact .tup h (.cons (.tup h1 (e _)) (.cons (.tup h2 h3) .nil))
theorem procD_of {K : Fg} {H : Hp} {r : Addr} {q : Str × Bod} {v : V} (h : SqT K H r [.str q.1, v]) (d : Dat K H v (bodD q.2)) : Dat K H (.ref r) (procD q) := .tup h (.cons (.str _) (.cons d .nil))
section
variable {P : Program} {w : World} {K : Fg} {mg : Str → Option Value} {base : Heap}
theorem ok_Lprogram (T : Tp K mg) (F : Std K "_law_program" "_law_program" s_Lprogram (He.ga K "_law_program")) (D_Ldraw : Dn P w K mg base 1 (He.ga K "_law_draw") ["source", "many"] (spDraw K))
    (D_Lnames : Dn P w K mg base 2 (He.ga K "_law_names") ["source", "many"] (spNames K)) (D_Lbody : Dn P w K mg base 26 (He.ga K "_law_body") ["source", "letters", "heads", "left", "deep", "free"] (spBdy K 12))
    (D_Llaid : Dn P w K mg base 29 (He.ga K "_law_laid") ["program"] (spLLaid K)) : Dn P w K mg base 30 (He.ga K "_law_program") ["source", "most"] (spProg K) := by
  refine dn_mk F sc_Lprogram
    (fun _ _ _ _ _ _ us hl => match us, hl with | [_, _], _ => rfl)
    (fun vs H Q E h => ?_) fun cdv A outer s H vs Q E hr h => ?_
  · obtain ⟨a, c, m, B, rfl, _⟩ := h; rfl
  obtain ⟨a, c, m, B, rfl, hs, m1, m150, hB, q⟩ := h
  refine ⟨_, (pss_cons (ps_set (i := 2) sc_Lprogram.nd rfl (Or.inl rfl) (pe_f D_Lnames (hr.mono (by omega)) T.g__law_names (pa_cons (pv 0) (pa_cons (pe_ix (ixK (K := K) rfl) (pe_lst (pa_cons pe_int (pa_cons pe_int (pa_cons pe_int (pa_cons pe_int pa_nil))))) (pe_f D_Ldraw (hr.mono (by omega)) T.g__law_draw (pa_cons (pv 0) (pa_cons pe_int pa_nil))) (fun _ _ => rfl)) pa_nil))))
    (pss_cons (ps_set (i := 3) sc_Lprogram.nd rfl (Or.inl rfl) (pe_f D_Lnames (hr.mono (by omega)) T.g__law_names (pa_cons (pv 0) (pa_cons (pe_ix (ixK (K := K) rfl) (pe_lst (pa_cons pe_int (pa_cons pe_int (pa_cons pe_int (pa_cons pe_int (pa_cons pe_int pa_nil)))))) (pe_f D_Ldraw (hr.mono (by omega)) T.g__law_draw (pa_cons (pv 0) (pa_cons pe_int pa_nil))) (fun _ _ => rfl)) pa_nil))))
    (pss_cons (ps_par (i := 4) (j := 5) (by rfl) sc_Lprogram.nd rfl rfl (by decide) rfl rfl (pa_cons (pe_lst pa_nil) (pa_cons (pe_lst (pa_cons (pv 1) pa_nil)) pa_nil)) (by rfl))
    (pss_cons (ps_for PassesOwn.never rfl (pi_range1 rfl T.b_range (pa_cons (pe_callB (cLenK (K := K) rfl) (by rfl) T.b_len PySem.boot_len (pa_cons (pv 3) pa_nil)) pa_nil)) (pg_name (i := 6) sc_Lprogram.nd rfl (Or.inl rfl)) (pss_cons (ps_set (i := 7) sc_Lprogram.nd rfl (Or.inl rfl) (pe_ifExp (PW.pt (pw_and (pt_cmpR op_lt (pe_op (oAddK (K := K) rfl) (pv 6) pe_int) (pe_callB (cLenK (K := K) rfl) (by rfl) T.b_len PySem.boot_len (pa_cons (pv 3) pa_nil)) (nomark _)) (pw_and1 (pt_cmpR op_gt (pe_f D_Ldraw (hr.mono (by omega)) T.g__law_draw (pa_cons (pv 0) (pa_cons pe_int pa_nil))) pe_int (nomark _))))) (pe_slice (slLstK (K := K) rfl) (pv 3) (po_some (pe_op (oAddK (K := K) rfl) (pv 6) pe_int)) po_none) (pv 3)))
    (pss_cons (ps_set (i := 8) sc_Lprogram.nd rfl (Or.inl rfl) (pe_f D_Lbody (hr.mono (by omega)) T.g__law_body (pa_cons (pv 0) (pa_cons (pv 2) (pa_cons (pv 7) (pa_cons (pv 5) (pa_cons (pe_ix (ixK (K := K) rfl) (pe_lst (pa_cons pe_int (pa_cons pe_int (pa_cons pe_int pa_nil)))) (pe_f D_Ldraw (hr.mono (by omega)) T.g__law_draw (pa_cons (pv 0) (pa_cons pe_int pa_nil))) (fun _ _ => rfl)) (pa_cons pe_bl pa_nil))))))))
    (pss_cons (ps_if (pt_cmpR op_gt (pe_callB (cLenK (K := K) rfl) (by rfl) T.b_len PySem.boot_len (pa_cons (pe_ix (ixK (K := K) rfl) (pe_ix (ixK (K := K) rfl) (pe_f D_Llaid (hr.mono (by omega)) T.g__law_laid (pa_cons (pe_tup (pa_cons (pv 2) (pa_cons (pe_op (oAddK (K := K) rfl) (pe_tup (pa_cons (pe_tup (pa_cons (pe_ix (ixK (K := K) rfl) (pv 3) (pv 6) (fun _ _ => rfl)) (pa_cons (pv 8) pa_nil))) pa_nil)) (pe_callTy (tupK (K := K) rfl) (by rfl) T.b_tuple (by decide +kernel) (pa_cons (pe_lc (own := [("head", 9)]) (tt := tYes) rfl sc_Lprogram.nd (iLstK (K := K) rfl (pv 3)) (blkOk_by (N := N_Lprogram) (sc := defScope s_Lprogram) (own := [("head", 9)]) (by decide +kernel)) (fun _ _ _ _ _ => (pg_name (i := 9) sc_Lprogram.nd rfl (Or.inl rfl))) (fun _ _ _ _ _ => pts_nil) (fun _ _ _ _ _ => (pe_tup (pa_cons (pv 9) (pa_cons (pe_tup pa_nil) pa_nil))))) pa_nil))) pa_nil))) pa_nil)) pe_int (fun _ _ => rfl)) pe_int (fun _ _ => rfl)) pa_nil)) pe_int (nomark _)) (pss_one (ps_set (i := 8) sc_Lprogram.nd rfl (Or.inl rfl) (pe_slice (slTupK (K := K) rfl) (pv 8) po_none (po_some pe_int)))) pss_nil)
    (pss_one (ps_expr (pe_bm PySem.F.plainAttrs_list PySem.F.slot_list_append PySem.F.type_list_append mt_append (pv 4) (pa_cons (pe_tup (pa_cons (pe_ix (ixK (K := K) rfl) (pv 3) (pv 6) (fun _ _ => rfl)) (pa_cons (pv 8) pa_nil))) pa_nil))))))))
    (pss_one (ps_ret (pe_tup (pa_cons (pe_callTy (tupK (K := K) rfl) (by rfl) T.b_tuple (by decide +kernel) (pa_cons (pv 2) pa_nil)) (pa_cons (pe_callTy (tupK (K := K) rfl) (by rfl) T.b_tuple (by decide +kernel) (pa_cons (pv 4) pa_nil)) pa_nil))))))))), ?_⟩
  have sz : 100000 < sizeLine := by decide
  refine ⟨_, rfl, by show 4 ≤ sizeLine; decide, fun l1 hl1 => ?_⟩
  have s1 := same_new hl1 (.lst [.int 1, .int 2, .int 3, .int 20])
  refine ⟨_, rfl, a, c, 4, B, rfl, hs.same s1, by decide, by decide, by omega, fun i1 H2 hi1 k2 t2 hs2 => ?_⟩
  have e1 := k2 l1 _ upd_same (by simpa using (hs.na hl1).symm)
  obtain ⟨n1, en1, n11, n120⟩ : ∃ n : Nat, [V.int 1, V.int 2, V.int 3, V.int 20][i1]? = some (.int (n : Int)) ∧ 1 ≤ n ∧ n ≤ 20 := by
    have : i1 = 0 ∨ i1 = 1 ∨ i1 = 2 ∨ i1 = 3 := by omega
    rcases this with rfl | rfl | rfl | rfl
    · exact ⟨1, rfl, by decide, by decide⟩
    · exact ⟨2, rfl, by decide, by decide⟩
    · exact ⟨3, rfl, by decide, by decide⟩
    · exact ⟨20, rfl, by decide, by decide⟩
  refine .inl ⟨l1, _, (i1 : Int), _, rfl, rfl, SqL.of e1, atI_nat en1, a, c, n1, B + 1, rfl, hs2, by omega, by omega, fun si f al H3 hsi hf hal k3 t3 hs3 eal => ?_⟩
  rw [namesOf_str] at eal
  have lL := names_len si f n1
  have okL := names_ok (f := f) hsi (show n1 ≤ 40 by omega)
  have ndL := names_nodup (i := si) (f := f) (show n1 ≤ 40 by omega)
  generalize namesOf si f n1 = L at eal lL okL ndL
  have k03 : Kp [a] H H3 := (Kp.of s1).trans (k2.trans k3)
  have t03 : Tk H H3 := (tk_same s1).trans (t2.trans t3)
  refine ⟨_, rfl, by show 5 ≤ sizeLine; decide, fun l2 hl2 => ?_⟩
  have s4 := same_new hl2 (.lst [.int 1, .int 2, .int 3, .int 5, .int 40])
  refine ⟨_, rfl, a, c, 5, B + 1 + 2, rfl, hs3.same s4, by decide, by decide, by omega, fun i2 H5 hi2 k5 t5 hs5 => ?_⟩
  have e2 := k5 l2 _ upd_same (by simpa using (hs3.na hl2).symm)
  obtain ⟨n2, en2, n21, n240⟩ : ∃ n : Nat, [V.int 1, V.int 2, V.int 3, V.int 5, V.int 40][i2]? = some (.int (n : Int)) ∧ 1 ≤ n ∧ n ≤ 40 := by
    have : i2 = 0 ∨ i2 = 1 ∨ i2 = 2 ∨ i2 = 3 ∨ i2 = 4 := by omega
    rcases this with rfl | rfl | rfl | rfl | rfl
    · exact ⟨1, rfl, by decide, by decide⟩
    · exact ⟨2, rfl, by decide, by decide⟩
    · exact ⟨3, rfl, by decide, by decide⟩
    · exact ⟨5, rfl, by decide, by decide⟩
    · exact ⟨40, rfl, by decide, by decide⟩
  have naL := names_ne_src eal (by omega) hs3
  have eal5 := k5 _ _ (s4 _ _ eal) (by simpa using naL)
  refine .inl ⟨l2, _, (i2 : Int), _, rfl, rfl, SqL.of e2, atI_nat en2, a, c, n2, B + 1 + 2 + 1, rfl, hs5, by omega, by omega, fun sj g ah H6 hsj hg hah k6 t6 hs6 eah => ?_⟩
  rw [namesOf_str] at eah
  have lH := names_len sj g n2
  have okH := names_ok (f := g) hsj (show n2 ≤ 40 by omega)
  have ndH := names_nodup (i := sj) (f := g) (show n2 ≤ 40 by omega)
  generalize namesOf sj g n2 = Hd at eah lH okH ndH
  have eal6 := k6 _ _ eal5 (by simpa using naL)
  have naH := names_ne_src eah (by omega) hs6
  have k06 : Kp [a] H H6 := k03.trans ((Kp.of s4).trans (k5.trans k6))
  have t06 : Tk H H6 := t03.trans ((tk_same s4).trans (t5.trans t6))
  refine ⟨Nat.zero_le _, fun lp hlp => ⟨_, rfl, by show 1 ≤ sizeLine; decide, fun af haf => ⟨_, _, rfl, ?_⟩⟩⟩
  have s7 := same_new hlp (.lst [])
  have s8 := same_new haf (.lst [.int m])
  have s78 := s7.trans s8
  have hlp0 : H6 lp = none := hlp
  have haf0 : H6 af = none := by
    rcases e : H6 af with _ | o
    · rfl
    · rw [s7 _ _ e] at haf; cases haf
  have npf : lp ≠ af := ne_of_none upd_same haf
  generalize hH8 : upd (upd H6 lp (.lst [])) af (.lst [.int m]) = H8 at s78
  have ef8 : H8 af = some (.lst [.int m]) := by rw [← hH8]; exact upd_same
  have ep8 : H8 lp = some (.lst []) := by rw [← hH8, upd_ne npf]; exact upd_same
  have nap := hs6.na hlp0
  have ncp := hs6.nc hlp0
  have naf := hs6.na haf0
  have ncf := hs6.nc haf0
  have nlp := ne_of_none eal6 hlp0
  have nlf := ne_of_none eal6 haf0
  have nhp := ne_of_none eah hlp0
  have nhf := ne_of_none eah haf0
  have lHm : (Hd.map V.str).length = n2 := by rw [List.length_map, lH]
  refine ⟨_, rfl, _, _, rfl, .inl ⟨_, SqL.of (s78 _ _ eah), rfl⟩, ?_⟩
  rw [lHm]
  refine ⟨_, rfl, by omega, by omega, for_it (walk_range (lo := 0)) (fun i σ H' => ∃ (pvs : List V) (ps : List (Str × Bod)) (v6 v7 v8 v9 : Option V) (l' : Int) (A' : Nat), σ = [some (.ref a), some (.int m), some (.ref al), some (.ref ah), some (.ref lp), some (.ref af), v6, v7, v8, v9] ∧ Kp [a, lp, af] H6 H' ∧ Tk H6 H' ∧ SrcAt H' a c A' ∧ H' af = some (.lst [.int l']) ∧ H' lp = some (.lst pvs) ∧ Dats K H' pvs (ps.map procD) ∧ ps.map (·.1) = Hd.take i ∧ (cntP ps : Int) ≤ m - l' ∧ -23 ≤ l' ∧ (A' : Int) ≤ B + 10 + 10 * i + 25 * (m - l') ∧ ∀ q ∈ ps, wfB L Hd q.2 = true ∧ depB q.2 ≤ 12 ∧ 1 + plB 0 q.2 ≤ 300)
    ⟨[], [], none, none, none, none, m, B + 1 + 2 + 1 + 2, rfl, .of s78, tk_same s78, hs6.same s78, ef8, ep8, .nil, rfl, by simp [cntP], by omega, by omega, fun q hq => by cases hq⟩ (fun _ _ _ _ _ => trivial) ?_ ?_⟩
  · rintro i z σ H90 H9 hi ⟨pvs, ps, v6, v7, v8, v9, l', A', rfl, k9, t9, hs9, ef9, ep9, pd, hps, cp, ll, hA', okp⟩ ⟨rfl, hz⟩
    rw [Int.toNat_natCast] at hi
    have hz : z = V.int ((i : Nat) : Int) := by rw [hz]; show V.int (0 + (i : Int)) = _; rw [Int.zero_add]
    subst hz
    have lpv : pvs.length = ps.length := by rw [pd.length, List.length_map]
    have lps : ps.length = i := by rw [← List.length_map (f := (·.1)) (as := ps), hps, List.length_take]; omega
    have k69 : Kp [a] H6 H9 := kp_drop k9 (fun x hx => by
      simp only [List.mem_cons, List.not_mem_nil, or_false] at hx
      rcases hx with rfl | rfl | rfl
      · exact .inl (by simp)
      · exact .inr hlp0
      · exact .inr haf0)
    have eah9 := k69 _ _ eah (by simpa using naH)
    have eal9 := k69 _ _ eal6 (by simpa using naL)
    dsimp only [gName]
    refine tasg_cut (fun σ' H' => ∃ (an : Addr) (Nr : List Str) (A2 : Nat), σ' = [some (.ref a), some (.int m), some (.ref al), some (.ref ah), some (.ref lp), some (.ref af), some (.int i), some (.ref an), v8, v9] ∧ Kp [a] H9 H' ∧ Tk H9 H' ∧ SrcAt H' a c A2 ∧ A2 ≤ A' + 1 ∧ H' an = some (.lst (Nr.map V.str)) ∧ 1 ≤ Nr.length ∧ Nr.length ≤ 40 ∧ (∀ x ∈ Nr, x ∈ Hd)) ?rest fun rest => ?_
    case rest =>
      rintro σ' H10 ⟨an, Nr, A2, rfl, k10, t10, hs10, hA2, ean, nr1, nr40, nrs⟩
      have nan := names_ne_src ean nr1 hs10
      refine ⟨_, rfl, _, rfl, _, rfl, _, rfl, by show 3 ≤ sizeLine; decide, fun l3 hl3 => ?_⟩
      have s11 := same_new hl3 (.lst [.int 2, .int 3, .int 11])
      refine ⟨_, rfl, a, c, 3, A2, rfl, hs10.same s11, by decide, by decide, by omega, fun di H12 hdi k12 t12 hs12 => ?_⟩
      have e3 := k12 l3 _ upd_same (by simpa using (hs10.na hl3).symm)
      obtain ⟨dd, en3, d2, d11⟩ : ∃ dd : Int, [V.int 2, V.int 3, V.int 11][di]? = some (.int dd) ∧ 2 ≤ dd ∧ dd ≤ 11 := by
        have : di = 0 ∨ di = 1 ∨ di = 2 := by omega
        rcases this with rfl | rfl | rfl
        · exact ⟨2, rfl, by decide, by decide⟩
        · exact ⟨3, rfl, by decide, by decide⟩
        · exact ⟨11, rfl, by decide, by decide⟩
      have k9c : Kp [a] H9 H12 := k10.trans ((Kp.of s11).trans k12)
      have t9c : Tk H9 H12 := t10.trans ((tk_same s11).trans t12)
      have ef12 := k9c _ _ ef9 (by simpa using naf.symm)
      have ep12 := k9c _ _ ep9 (by simpa using nap.symm)
      have eal12 := k9c _ _ eal9 (by simpa using naL)
      have eah12 := k9c _ _ eah9 (by simpa using naH)
      have ean12 := k12 _ _ (s11 _ _ ean) (by simpa using nan)
      have g12 : GenAt H12 a c al an af L Nr l' (A2 + 1) := ⟨hs12, eal12, ean12, ef12, naf, ncf, by omega, by omega, nr1, nr40, by omega, by omega⟩
      refine .inl ⟨l3, _, (di : Int), _, rfl, rfl, SqL.of e3, atI_nat en3, a, c, al, an, af, L, Nr, l', dd, A2 + 1, true, rfl, g12, by omega, by omega, by omega, by omega, by omega, fun r H13 b l2 A3 k13 t13 hs13 ef13 cb ll2 hA3 bd wf db _ => ?_⟩
      have wfH : wfB L Hd b = true := wfB_mono nrs b wf
      have nlf' : al ≠ af := nlf
      have eal13 := k13 _ _ eal12 (by simp [naL, nlf])
      have eah13 := k13 _ _ eah12 (by simp [naH, nhf])
      have ep13 := k13 _ _ ep12 (by simp [nap.symm, npf])
      have hil : i < Hd.length := by omega
      have eHi : (Hd.map V.str)[i]? = some (.str Hd[i]) := by rw [List.getElem?_map, List.getElem?_eq_getElem hil]; rfl
      dsimp only [gName]
      refine tif_cut (fun σ' H' => ∃ (r' : V) (b' : Bod), σ' = [some (.ref a), some (.int m), some (.ref al), some (.ref ah), some (.ref lp), some (.ref af), some (.int i), some (.ref an), some r', v9] ∧ Same H13 H' ∧ Dat K H' r' (bodD b') ∧ (b' = b ∨ b' = []) ∧ 1 + plB 0 b' ≤ 300) ?rest2 fun rest2 => ?_
      case rest2 =>
        rintro σ' H14 ⟨r', b', rfl, s14, bd', hb', pl'⟩
        have ep14 := s14 _ _ ep13
        have eah14 := s14 _ _ eah13
        refine ⟨_, rfl, .inl ⟨rfl, _, SqL.of ep14⟩, _, rfl, _, rfl, .inl ⟨ah, _, (i : Int), _, rfl, rfl, SqL.of eah14, atI_nat eHi, _, rfl, by show 2 ≤ sizeLine; decide, fun tp htp => ?_⟩⟩
        have s15 := same_new htp (.tup [.str Hd[i], r'])
        have ep15 := s15 _ _ ep14
        have sx := s14.trans s15
        have kU : Kp [lp] (upd H14 tp (.tup [.str Hd[i], r'])) (upd (upd H14 tp (.tup [.str Hd[i], r'])) lp (.lst (pvs ++ [.ref tp]))) := kp_upd (by simp) _
        have tU := tk_lst (o' := .lst (pvs ++ [.ref tp])) ep15
        refine ⟨lp, _, _, rfl, rfl, ep15, by omega, pvs ++ [.ref tp], ps ++ [(Hd[i], b')], _, _, _, _, l2, A3, rfl, k9.trans ((k9c.mono (by simp)).trans ((k13.mono (by simp)).trans ((Kp.of sx).trans (kU.mono (by simp))))), t9.trans (t9c.trans (t13.trans ((tk_same sx).trans tU))), (hs13.same sx).kp kU (by simpa using nap) (by simpa using ncp), ?_, upd_same, ?_, ?_, ?_, by omega, by omega, ?_⟩
        · rw [upd_ne npf.symm]; exact sx _ _ ef13
        · rw [List.map_append]
          exact ((pd.tk (t9c.trans (t13.trans (tk_same sx)))).append (.cons (procD_of (q := (Hd[i], b')) (SqT.of upd_same) (bd'.tk (tk_same s15))) .nil)).tk tU
        · rw [List.map_append, hps, take_snoc (List.getElem?_eq_getElem hil)]; rfl
        · have e : cntP (ps ++ [(Hd[i], b')]) = cntP ps + cntB b' := by unfold cntP; rw [List.map_append, List.sum_append]; simp
          have : cntB b' ≤ cntB b := by rcases hb' with rfl | rfl <;> simp [cntB]
          omega
        · intro q hq
          rcases List.mem_append.mp hq with hq | hq
          · exact okp q hq
          · rw [List.mem_singleton.mp hq]
            rcases hb' with rfl | rfl
            · exact ⟨wfH, by show depB b' ≤ 12; omega, pl'⟩
            · exact ⟨rfl, by show depB [] ≤ 12; simp [depB], pl'⟩
      refine ⟨_, rfl, _, rfl, _, rfl, .inl ⟨ah, _, (i : Int), _, rfl, rfl, SqL.of eah13, atI_nat eHi, _, rfl, by show 2 ≤ sizeLine; decide, fun u1 hu1 => ⟨by show 1 ≤ sizeLine; decide, fun u2 hu2 => ?_⟩⟩⟩
      have p1 := same_new hu1 (.tup [.str Hd[i], r])
      have p2 := same_new hu2 (.tup [.ref u1])
      have p12 := p1.trans p2
      have eahx := p12 _ _ eah13
      refine ⟨_, rfl, ah, rfl, ⟨_, SqL.of eahx⟩, fun D nD => lc_acc walk_list [] (fun j acc H' => Dats K H' acc ((Hd.take j).map fun h => procD (h, []))) nD (fun _ _ _ k _ _ => SqL.of ((Kp.nil k) _ _ eahx)) (fun _ _ _ _ _ _ hD p => p.tk (tk_lst hD)) .nil ?_ (by simp) ?_ ?_⟩
      · rw [lHm]; exact Nat.lt_of_le_of_lt n240 (by decide)
      · rintro j y acc H3' H3'' hj k t hD la hd ⟨rfl, hy⟩ N E1 hN _
        rw [List.getElem?_map] at hy
        obtain ⟨x, hx, rfl⟩ : ∃ x, Hd[j]? = some x ∧ y = .str x := by
          cases e : Hd[j]? with
          | none => rw [e] at hy; cases hy
          | some x => rw [e] at hy; exact ⟨x, rfl, (Option.some.inj hy).symm⟩
        refine ⟨rfl, tyes ⟨_, rfl, Nat.zero_le _, fun e1 he1 => ⟨by show 2 ≤ sizeLine; decide, fun e2 he2 => ?_⟩⟩⟩
        have z1 := same_new he1 (.tup [])
        have z2 := same_new he2 (.tup [.str x, .ref e1])
        have zz := z1.trans z2
        refine hN _ _ (.of zz) (tk_same zz) ?_
        rw [take_snoc hx, List.map_append]
        exact (hd.tk (tk_same zz)).append (.cons (procD_of (q := (x, [])) (SqT.of upd_same) (bodD_of (SqT.of (z2 _ _ upd_same)) .nil)) .nil)
      rintro H15 acc k15 t15 hD _ accD
      rw [lHm, ← lH, List.take_length] at accD
      have s15 := Kp.nil k15
      refine ⟨D, _, rfl, .inl ⟨SqL.of hD, fun r1 hr1 => ?_⟩⟩
      have p3 := same_new hr1 (.tup acc)
      have lacc : acc.length = n2 := by rw [accD.length, List.length_map, lH]
      refine .inr (.inr (.inr ⟨u2, r1, _, acc, rfl, rfl, SqT.of (p3 _ _ (s15 _ _ upd_same)), SqT.of upd_same, by simp; omega, (fun e => by cases e), (fun _ e => by rw [e] at lacc; simp at lacc; omega), fun _ _ pp hpp => ⟨by show 2 ≤ sizeLine; decide, fun wt hwt => ?_⟩⟩))
      have p4 := same_new hpp (.tup ([.ref u1] ++ acc))
      have p5 := same_new hwt (.tup [.ref al, .ref pp])
      have p25 := p2.trans (s15.trans (p3.trans (p4.trans p5)))
      have p15 := p1.trans p25
      have dps : Dats K (upd (upd (upd H15 r1 (.tup acc)) pp (.tup ([.ref u1] ++ acc))) wt (.tup [.ref al, .ref pp])) ([V.ref u1] ++ acc) (((Hd[i], b) :: Hd.map fun h => (h, ([] : Bod))).map procD) := by
        refine Dats.append (vs := [_]) (ds := [_]) (.cons (procD_of (q := (Hd[i], b)) (SqT.of (p25 _ _ upd_same)) (bd.tk (tk_same p15))) .nil) ?_
        rw [List.map_map]
        exact accD.tk (tk_same (p3.trans (p4.trans p5)))
      have hmap : (((Hd[i], b) :: Hd.map fun h => (h, ([] : Bod))).map (·.1)) = Hd[i] :: Hd := by
        rw [List.map_cons, List.map_map]
        exact congrArg (Hd[i] :: ·) (List.map_id' Hd)
      have pb : plB 0 b ≤ 200 * 200 := Nat.le_trans (plB_le 200 b 0 wf (by omega)) (Nat.mul_le_mul_right _ (by omega))
      refine ⟨wt, .ref al, pp, L, (Hd[i], b) :: Hd.map fun h => (h, []), _, al, rfl, SqT.of upd_same, rfl, .inr (p15 _ _ eal13), by omega, SqT.of (p5 _ _ upd_same), dps, ?_, fun H16 rv s16 lv => ?_⟩
      · rw [hmap]
        refine ⟨by simp; omega, fun q hq => ?_, fun q hq => ?_, fun q hq => ?_⟩
        · rcases List.mem_cons.mp hq with rfl | hq
          · exact wfB_mono (fun x hx => List.mem_cons_of_mem _ hx) b wfH
          · obtain ⟨h, _, rfl⟩ := List.mem_map.mp hq; rfl
        · rcases List.mem_cons.mp hq with rfl | hq
          · show depB b ≤ 12; omega
          · obtain ⟨h, _, rfl⟩ := List.mem_map.mp hq; show depB [] ≤ 12; simp [depB]
        · rcases List.mem_cons.mp hq with rfl | hq
          · show 1 + plB 0 b ≤ 1000000; omega
          · obtain ⟨h, _, rfl⟩ := List.mem_map.mp hq; show 1 + plB 0 [] ≤ 1000000; simp [plB]
      obtain ⟨ra, xs, rfl, hra, _, hx⟩ := lv
      obtain ⟨b0, c0, ys, hx0, hb0, hc0, hys⟩ := hx 0 _ rfl
      have lys : ys.length = 1 + plB 0 b := by
        have := hys.length
        rw [List.length_map, layP_len] at this
        exact this
      have sAll := p15.trans s16
      refine .inl ⟨ra, _, 0, _, rfl, rfl, SqL.of hra, atI_nat (j := 0) hx0, .inr (.inl ⟨b0, _, 1, _, rfl, rfl, hb0, atI_nat (j := 1) rfl, _, _, rfl, .inl ⟨_, SqL.of hc0, rfl⟩, _, _, rfl, rfl, _, rfl, ite2 (fun hgt => ?_) (fun hle => ?_)⟩)⟩
      · obtain ⟨br, bws, rfl, hbr, hbws⟩ := bd.inv_tup
        refine ⟨_, rfl, _, rfl, br, bws, rfl, (tk_same sAll).seq hbr, fun hw => ?_, fun _ pn hpn => ?_⟩
        · have h2 := hw.2
          rw [show (0 : Int) = ((0 : Nat) : Int) from rfl, HT.sIx_nat] at h2
          have h3 := hbws.length
          rw [stmDs_map, List.length_map] at h3
          have hb0 : b = [] := List.eq_nil_of_length_eq_zero (by omega)
          exact rest2 _ _ ⟨.ref br, b, rfl, sAll, bd.tk (tk_same sAll), .inl rfl, by rw [hb0]; simp [plB]⟩
        · have sn := same_new hpn (.tup (cutV bws none (some 0)))
          have hc : cutV bws none (some 0) = [] := by
            unfold cutV
            rw [HT.sIx_none, show (0 : Int) = ((0 : Nat) : Int) from rfl, HT.sIx_nat]; simp
          exact rest2 _ _ ⟨.ref pn, [], rfl, sAll.trans sn, bodD_of (SqT.of (by rw [hc]; exact upd_same)) .nil, .inr rfl, by simp [plB]⟩
      · refine rest2 _ _ ⟨r, b, rfl, sAll, bd.tk (tk_same sAll), .inl rfl, ?_⟩
        have := hle
        simp only [decide_eq_true_eq] at this
        omega
    refine ⟨_, rfl, .inl ⟨_, _, rfl, rfl, _, rfl, _, _, rfl, .inl ⟨_, SqL.of eah9, rfl⟩, _, _, rfl, rfl, _, rfl, ite2 (fun hlt => ?_) (fun hge => ?_)⟩⟩
    · have hlt := of_decide_eq_true hlt
      rw [lHm] at hlt
      refine ⟨_, rfl, a, c, 4, A', rfl, hs9, by decide, by decide, by omega, fun d H10 hd k10 t10 hs10 => ⟨_, _, rfl, rfl, _, rfl, ite2 (fun _ => ?_) (fun _ => ?_)⟩⟩
      · have eah10 := k10 _ _ eah9 (by simpa using naH)
        have l1 : (cutV (Hd.map V.str) (some ((i : Int) + 1)) none) = ((Hd.drop (i + 1)).map V.str) := by
          unfold cutV
          rw [HT.sIx_none, show ((i : Int) + 1) = ((i + 1 : Nat) : Int) from rfl, HT.sIx_nat, lHm, Nat.min_eq_left (by omega), List.map_drop]
          exact List.take_of_length_le (by rw [List.length_drop, lHm]; omega)
        refine ⟨_, rfl, _, rfl, .inl ⟨_, _, rfl, rfl, _, rfl, ah, _, rfl, SqL.of eah10, fun p hp => ?_⟩⟩
        have sn := same_new hp (.lst (cutV (Hd.map V.str) (some ((i : Int) + 1)) none))
        exact rest _ _ ⟨p, Hd.drop (i + 1), A' + 1, rfl, k10.trans (.of sn), t10.trans (tk_same sn), hs10.same sn, Nat.le_refl _, by rw [← l1]; exact upd_same, by rw [List.length_drop]; omega, by rw [List.length_drop]; omega, fun x h => List.mem_of_mem_drop h⟩
      · exact ⟨_, rfl, rest _ _ ⟨ah, Hd, A' + 1, rfl, k10, t10, hs10, Nat.le_refl _, k10 _ _ eah9 (by simpa using naH), by omega, by omega, fun x h => h⟩⟩
    · exact iteF ⟨_, rfl, rest _ _ ⟨ah, Hd, A', rfl, .refl _ _, .refl _, hs9, by omega, eah9, by omega, by omega, fun x h => h⟩⟩
  · rintro σ H9 ⟨pvs, ps, v6, v7, v8, v9, l', A', rfl, k9, t9, hs9, ef9, ep9, pd, hps, cp, ll, hA', okp⟩
    rw [Int.toNat_natCast] at hps hA'
    have eal9 := k9 _ _ eal6 (by simp [naL, nlp, nlf])
    refine ⟨_, rfl, al, _, rfl, .inl ⟨SqL.of eal9, fun r1 hr1 => ⟨_, rfl, lp, _, rfl, .inl ⟨SqL.of ((same_new hr1 _) _ _ ep9), fun r2 hr2 => ⟨by show 2 ≤ sizeLine; decide, fun r3 hr3 => ?_⟩⟩⟩⟩⟩
    have w1 := same_new hr1 (.tup (L.map V.str))
    have w2 := same_new hr2 (.tup pvs)
    have w3 := same_new hr3 (.tup [.ref r1, .ref r2])
    have w := w1.trans (w2.trans w3)
    have kk : Kp [a] H6 H9 := kp_drop k9 (fun x hx => by
      simp only [List.mem_cons, List.not_mem_nil, or_false] at hx
      rcases hx with rfl | rfl | rfl
      · exact .inl (by simp)
      · exact .inr hlp0
      · exact .inr haf0)
    have e : ps.map (·.1) = Hd := by rw [hps, List.take_of_length_le (by omega)]
    refine q (.ref r3) _ ⟨L, ps⟩ A' (k06.trans (kk.trans (.of w))) (t06.trans (t9.trans (tk_same w))) (hs9.same w) (by omega) (progD_of (SqT.of upd_same) (SqT.of (w3 _ _ (w2 _ _ upd_same))) (SqT.of (w3 _ _ upd_same)) (pd.tk (tk_same w))) ?_
    have el : ps.length = n2 := by rw [← lH, ← e, List.length_map]
    exact ⟨by show 1 ≤ L.length; omega, by show L.length ≤ 20; omega, by show 1 ≤ ps.length; omega, by show ps.length ≤ 40; omega, ⟨fun x hx => (okL x hx).1, fun x hx => (okH x (by rw [← e]; exact hx)).1⟩, ndL, by show (ps.map (·.1)).Nodup; rw [e]; exact ndH, fun q hq => by show wfB L (ps.map (·.1)) q.2 = true; rw [e]; exact (okp q hq).1, fun q hq => (okp q hq).2.1, by show cntP ps ≤ 400; omega, fun q hq => (okp q hq).2.2⟩
end
end PK

set_option linter.all false
set_option Elab.async false
set_option maxRecDepth 100000
set_option maxHeartbeats 4000000
/-! KNv: the size of a body. -/
namespace PK
open PySem PySem.Spec PyProof.Rows L2
def spSize (K : Fg) (n : Nat) : Sp := fun vs H Q _ => ∃ (v : V) (L Hd : List Str) (b : Bod), vs = [v] ∧ Dat K H v (bodD b) ∧ wfB L Hd b = true ∧ depB b < n ∧ ∀ H', Same H H' → Q (.int (cntB b : Nat)) H'
theorem cntB_take {b : Bod} {i : Nat} {s : Stm} (h : b[i]? = some s) : cntB (b.take (i + 1)) = cntB (b.take i) + cntS s := by
  rw [take_snoc h, cntB_append]; simp [cntB]
theorem cntBs_sum (bs : List Bod) : cntBs bs = (bs.map cntB).sum := by
  induction bs with
  | nil => rfl
  | cons b r ih => simp only [cntBs, List.map_cons, List.sum_cons, ih]
theorem dep_mem {b : Bod} {s : Stm} (h : s ∈ b) : depS s ≤ depB b := by
  induction b with
  | nil => cases h
  | cons t r ih =>
    simp only [depB]
    rcases List.mem_cons.mp h with rfl | h
    · omega
    · have := ih h; omega
theorem deps_mem {bs : List Bod} {b : Bod} (h : b ∈ bs) : depB b ≤ depBs bs := by
  induction bs with
  | nil => cases h
  | cons t r ih =>
    simp only [depBs]
    rcases List.mem_cons.mp h with rfl | h
    · omega
    · have := ih h; omega
/-- bodies in a tuple -/
theorem bods_at {K : Fg} {H : Hp} {vs : List V} {bs : List Bod} (h : Dats K H vs (bs.map bodD)) {i : Nat} {v : V} (e : vs[i]? = some v) : ∃ b, bs[i]? = some b ∧ Dat K H v (bodD b) := by
  induction bs generalizing vs i with
  | nil => cases h.inv_nil; cases e
  | cons b r ih =>
    obtain ⟨w, ws, rfl, h1, h2⟩ := h.inv_cons
    cases i with
    | zero => cases e; exact ⟨b, rfl, h1⟩
    | succ i => exact ih h2 e
theorem stms_at {K : Fg} {H : Hp} {vs : List V} {b : Bod} (h : Dats K H vs (b.map stmD)) {i : Nat} {v : V} (e : vs[i]? = some v) : ∃ s, b[i]? = some s ∧ Dat K H v (stmD s) := by
  induction b generalizing vs i with
  | nil => cases h.inv_nil; cases e
  | cons b r ih =>
    obtain ⟨w, ws, rfl, h1, h2⟩ := h.inv_cons
    cases i with
    | zero => cases e; exact ⟨b, rfl, h1⟩
    | succ i => exact ih h2 e
theorem sum_cast (bs : List Bod) : ((bs.map fun x => ((cntB x : Nat) : Int)).sum) = (cntBs bs : Nat) := by
  induction bs with
  | nil => rfl
  | cons b r ih => simp only [List.map_cons, List.sum_cons, cntBs, ih]; omega
section
variable {P : Program} {w : World} {K : Fg} {mg : Str → Option Value} {base : Heap}
theorem ok_Lsize (n : Nat) (T : Tp K mg) (F : Std K "_law_size" "_law_size" s_Lsize (He.ga K "_law_size")) (D_Lsize : Dn P w K mg base n (He.ga K "_law_size") ["body"] (spSize K n)) : Dn P w K mg base (n + 1) (He.ga K "_law_size") ["body"] (spSize K (n + 1)) := by
  refine dn_mk F sc_Lsize
    (fun _ _ _ _ _ _ us hl => match us, hl with | [_], _ => rfl)
    (fun vs H Q E h => ?_) fun cdv A outer s H vs Q E hr h => ?_
  · obtain ⟨v, L, Hd, b, rfl, _⟩ := h; rfl
  obtain ⟨v, L, Hd, b, rfl, hd, wf, dp, q⟩ := h
  obtain ⟨ab, ws, rfl, hA, hX⟩ := hd.inv_tup
  rw [stmDs_map] at hX
  have lw := hX.length
  rw [List.length_map] at lw
  refine ⟨_, (pss_cons (ps_set (i := 1) sc_Lsize.nd rfl (Or.inl rfl) (pe_callB (cLenK (K := K) rfl) (by rfl) T.b_len PySem.boot_len (pa_cons (pv 0) pa_nil)))
    (pss_cons (ps_for PassesOwn.never rfl (iTupK (K := K) rfl (pv 0)) (pg_name (i := 2) sc_Lsize.nd rfl (Or.inl rfl)) (pss_one (ps_if (pt_cmpR (oEqK (K := K) rfl (hu64 hr)) (pe_ix (ixK (K := K) rfl) (pv 2) pe_int (fun _ _ => rfl)) pe_str (nomark _)) (pss_one (ps_aug (i := 1) sc_Lsize.nd rfl (Or.inl rfl) (pe_callB (sumK (K := K) rfl rfl) (by rfl) T.b_sum (by decide +kernel) (pa_cons (pe_lc (own := [("inner", 3)]) (tt := tYes) rfl sc_Lsize.nd (iTupK (K := K) rfl (pe_ix (ixK (K := K) rfl) (pv 2) pe_int (fun _ _ => rfl))) (blkOk_by (N := N_Lsize) (sc := defScope s_Lsize) (own := [("inner", 3)]) (by decide +kernel)) (fun _ _ _ _ _ => (pg_name (i := 3) sc_Lsize.nd rfl (Or.inl rfl))) (fun _ _ _ _ _ => pts_nil) (fun _ _ _ _ _ => (pe_f D_Lsize (hr.mono (by omega)) T.g__law_size (pa_cons (pv 3) pa_nil)))) pa_nil)) ip_add)) (pss_one (ps_if (pt_cmpR (inK (K := K) rfl) (pe_ix (ixK (K := K) rfl) (pv 2) pe_int (fun _ _ => rfl)) (pe_tup (pa_cons pe_str (pa_cons pe_str pa_nil))) (by rfl)) (pss_one (ps_aug (i := 1) sc_Lsize.nd rfl (Or.inl rfl) (pe_callB (sumK (K := K) rfl rfl) (by rfl) T.b_sum (by decide +kernel) (pa_cons (pe_lc (own := [("inner", 3)]) (tt := tYes) rfl sc_Lsize.nd (iTupK (K := K) rfl (pe_slice (slTupK (K := K) rfl) (pv 2) (po_some pe_int) po_none)) (blkOk_by (N := N_Lsize) (sc := defScope s_Lsize) (own := [("inner", 3)]) (by decide +kernel)) (fun _ _ _ _ _ => (pg_name (i := 3) sc_Lsize.nd rfl (Or.inl rfl))) (fun _ _ _ _ _ => pts_nil) (fun _ _ _ _ _ => (pe_f D_Lsize (hr.mono (by omega)) T.g__law_size (pa_cons (pv 3) pa_nil)))) pa_nil)) ip_add)) pss_nil)))))
    (pss_one (ps_ret (pv 1))))), ?_⟩
  refine ⟨_, rfl, _, _, rfl, .inr ⟨_, hA, rfl⟩, ?_⟩
  refine ⟨_, rfl, ab, rfl, ⟨_, hA⟩, for_it walk_tup (fun i σ H' => ∃ (tot : Int) (v2 v3 : Option V), σ = [some (.ref ab), some (.int tot), v2, v3] ∧ Same H H' ∧ tot = (cntB (b.take i) : Nat) + ((b.length : Nat) : Int) - i)
    ⟨_, none, none, rfl, fun _ _ h => h, by simp [cntB]; omega⟩ (fun _ _ _ _ ⟨_, _, _, _, s, _⟩ => (tk_same s).seq hA) ?_ ?_⟩
  · rintro i z σ H20 H2 hi ⟨tot, v2, v3, rfl, s2, et⟩ ⟨rfl, hz⟩
    obtain ⟨s1, hs1, sd⟩ := stms_at (hX.tk (tk_same s2)) hz
    have m1 := List.mem_of_getElem? hs1
    have w1 := wfB_mem wf m1
    have d1 := dep_mem m1
    have ct := cntB_take hs1
    obtain ⟨sa, wd, ys, rfl, rfl, hsa, hys⟩ := stm_get sd

    cases s1 with
    | act u x =>
      cases u
      all_goals refine ⟨_, rfl, .inr (.inl ⟨sa, _, 0, _, rfl, rfl, hsa, atI_nat (j := 0) rfl, .inl ⟨rfl, _, rfl, iteF ?_⟩⟩)⟩
      all_goals refine ⟨_, rfl, .inr (.inl ⟨sa, _, 0, _, rfl, rfl, hsa, atI_nat (j := 0) rfl, by show 2 ≤ sizeLine; decide, fun tp htp => ⟨tp, _, rfl, .inr (SqT.of upd_same), rfl, rfl, _, rfl, iff' rfl ?_⟩⟩)⟩
      all_goals exact ⟨_, _, _, rfl, s2.trans (same_new htp _), by rw [ct, et]; simp only [cntS]; omega⟩
    | call x =>
      refine ⟨_, rfl, .inr (.inl ⟨sa, _, 0, _, rfl, rfl, hsa, atI_nat (j := 0) rfl, .inl ⟨rfl, _, rfl, iteF ?_⟩⟩)⟩
      refine ⟨_, rfl, .inr (.inl ⟨sa, _, 0, _, rfl, rfl, hsa, atI_nat (j := 0) rfl, by show 2 ≤ sizeLine; decide, fun tp htp => ⟨tp, _, rfl, .inr (SqT.of upd_same), rfl, rfl, _, rfl, iff' rfl ?_⟩⟩)⟩
      exact ⟨_, _, _, rfl, s2.trans (same_new htp _), by rw [ct, et]; simp only [cntS]; omega⟩
    | ret =>
      refine ⟨_, rfl, .inr (.inl ⟨sa, _, 0, _, rfl, rfl, hsa, atI_nat (j := 0) rfl, .inl ⟨rfl, _, rfl, iteF ?_⟩⟩)⟩
      refine ⟨_, rfl, .inr (.inl ⟨sa, _, 0, _, rfl, rfl, hsa, atI_nat (j := 0) rfl, by show 2 ≤ sizeLine; decide, fun tp htp => ⟨tp, _, rfl, .inr (SqT.of upd_same), rfl, rfl, _, rfl, iff' rfl ?_⟩⟩)⟩
      exact ⟨_, _, _, rfl, s2.trans (same_new htp _), by rw [ct, et]; simp only [cntS]; omega⟩
    | cho bs =>
      obtain ⟨y1, yr, rfl, hy1, hyr⟩ := hys.inv_cons
      cases hyr.inv_nil
      obtain ⟨bp, bws, rfl, hbp, hbd⟩ := hy1.inv_tup
      rw [bodDs_map] at hbd
      have lbs := hbd.length
      rw [List.length_map] at lbs
      simp only [wfS, Bool.and_eq_true, decide_eq_true_eq] at w1
      simp only [depS] at d1
      refine ⟨_, rfl, .inr (.inl ⟨sa, _, 0, _, rfl, rfl, hsa, atI_nat (j := 0) rfl, .inl ⟨rfl, _, rfl, ift rfl ?_⟩⟩)⟩
      refine ⟨_, rfl, _, rfl, .inr (.inl ⟨sa, _, 1, _, rfl, rfl, hsa, atI_nat (j := 1) rfl, ?_⟩)⟩
      refine ⟨bp, rfl, ⟨_, hbp⟩, fun D nD => lc_acc walk_tup [] (fun j acc _ => acc = (bs.take j).map fun x => V.int (cntB x : Nat)) nD (fun _ _ _ _ t _ => t.seq hbp) (fun _ _ _ _ _ _ _ p => p) rfl ?_ (by simp) ?_ ?_⟩
      · rw [lbs]; exact Nat.lt_of_le_of_lt w1.2.1 (by decide)
      · rintro j y acc H3 H3' hj k t hD la rfl ⟨rfl, hy⟩ N E1 hN _
        obtain ⟨b2, hb2, bd2⟩ := bods_at (hbd.tk t) hy
        have m2 := List.mem_of_getElem? hb2
        refine ⟨rfl, tyes ⟨_, rfl, _, L, Hd, b2, rfl, bd2, wfBs_mem w1.2.2 m2, by have := deps_mem m2; omega, fun H4 s4 => hN _ _ (.of s4) (tk_same s4) ?_⟩⟩
        rw [take_snoc hb2, List.map_append]; rfl
      rintro H3 acc k3 t3 hD _ rfl
      have s3 := Kp.nil k3
      rw [lbs, List.take_length] at hD
      refine ⟨D, bs.map fun x => (cntB x : Nat), rfl, SqL.of (by rw [List.map_map]; exact hD), _, _, rfl, rfl, ?_⟩
      exact ⟨_, _, _, rfl, s2.trans s3, by rw [ct, et]; simp only [cntS]; have := sum_cast bs; omega⟩
    | loop b1 =>
      obtain ⟨y1, yr, rfl, hy1, hyr⟩ := hys.inv_cons
      cases hyr.inv_nil
      simp only [wfS] at w1
      simp only [depS] at d1
      refine ⟨_, rfl, .inr (.inl ⟨sa, _, 0, _, rfl, rfl, hsa, atI_nat (j := 0) rfl, .inl ⟨rfl, _, rfl, iteF ?_⟩⟩)⟩
      refine ⟨_, rfl, .inr (.inl ⟨sa, _, 0, _, rfl, rfl, hsa, atI_nat (j := 0) rfl, by show 2 ≤ sizeLine; decide, fun tp htp => ⟨tp, _, rfl, .inr (SqT.of upd_same), rfl, rfl, _, rfl, ift rfl ?_⟩⟩)⟩
      have x1 := same_new htp (.tup [.str "loop", .str "ensure"])
      refine ⟨_, rfl, _, rfl, _, rfl, ?_⟩
      have hq := (tk_same x1).seq hsa
      refine ⟨sa, _, rfl, hq, fun hw => ?_, fun _ rp hrp => ?_⟩
      · exact absurd hw.1 (by rw [show (1 : Int) = ((1 : Nat) : Int) from rfl, HT.sIx_nat]; simp)
      have x2 := same_new hrp (.tup (cutV (.str (wrd (.loop b1)) :: [y1]) (some 1) none))
      have ec : cutV (V.str (wrd (.loop b1)) :: [y1]) (some 1) none = [y1] := by
        unfold cutV
        rw [HT.sIx_none, show (1 : Int) = ((1 : Nat) : Int) from rfl, HT.sIx_nat]
        simp
      rw [ec]
      have x2 := same_new hrp (.tup [y1])
      have hbd : Dats K _ [y1] ([b1].map bodD) := .cons (hy1.tk ((tk_same x1).trans (tk_same x2))) .nil
      have e1 : [y1].length = [b1].length := rfl
      refine ⟨rp, rfl, ⟨_, (SqT.of upd_same)⟩, fun D nD => lc_acc walk_tup [] (fun j acc _ => acc = ([b1].take j).map fun x => V.int (cntB x : Nat)) nD (fun _ _ _ _ t _ => t.seq (SqT.of upd_same)) (fun _ _ _ _ _ _ _ p => p) rfl ?_ (by simp) ?_ ?_⟩
      · rw [e1]; exact Nat.lt_of_lt_of_le (show _ < 3 from by simp) (by decide)
      · rintro j y acc H3 H3' hj k t hD la rfl ⟨rfl, hy⟩ N E1 hN _
        obtain ⟨b2, hb2, bd2⟩ := bods_at (hbd.tk t) hy
        have m2 := List.mem_of_getElem? hb2
        refine ⟨rfl, tyes ⟨_, rfl, _, L, Hd, b2, rfl, bd2, by rw [List.mem_singleton.mp m2]; exact w1, by rw [List.mem_singleton.mp m2]; omega, fun H4 s4 => hN _ _ (.of s4) (tk_same s4) ?_⟩⟩
        rw [take_snoc hb2, List.map_append]; rfl
      rintro H3 acc k3 t3 hD _ rfl
      have s3 := Kp.nil k3
      rw [e1, List.take_length] at hD
      refine ⟨D, [b1].map fun x => (cntB x : Nat), rfl, SqL.of (by rw [List.map_map]; exact hD), _, _, rfl, rfl, ?_⟩
      exact ⟨_, _, _, rfl, (s2.trans (x1.trans x2)).trans s3, by rw [ct, et]; simp only [cntS]; have := sum_cast [b1]; simp only [cntBs] at this; omega⟩
    | ens b1 b3 =>
      obtain ⟨y1, yr, rfl, hy1, hyr⟩ := hys.inv_cons
      obtain ⟨y2, yr, rfl, hy2, hyr⟩ := hyr.inv_cons
      cases hyr.inv_nil
      simp only [wfS, Bool.and_eq_true] at w1
      simp only [depS] at d1
      refine ⟨_, rfl, .inr (.inl ⟨sa, _, 0, _, rfl, rfl, hsa, atI_nat (j := 0) rfl, .inl ⟨rfl, _, rfl, iteF ?_⟩⟩)⟩
      refine ⟨_, rfl, .inr (.inl ⟨sa, _, 0, _, rfl, rfl, hsa, atI_nat (j := 0) rfl, by show 2 ≤ sizeLine; decide, fun tp htp => ⟨tp, _, rfl, .inr (SqT.of upd_same), rfl, rfl, _, rfl, ift rfl ?_⟩⟩)⟩
      have x1 := same_new htp (.tup [.str "loop", .str "ensure"])
      refine ⟨_, rfl, _, rfl, _, rfl, ?_⟩
      have hq := (tk_same x1).seq hsa
      refine ⟨sa, _, rfl, hq, fun hw => ?_, fun _ rp hrp => ?_⟩
      · exact absurd hw.1 (by rw [show (1 : Int) = ((1 : Nat) : Int) from rfl, HT.sIx_nat]; simp)
      have x2 := same_new hrp (.tup (cutV (.str (wrd (.ens b1 b3)) :: [y1, y2]) (some 1) none))
      have ec : cutV (V.str (wrd (.ens b1 b3)) :: [y1, y2]) (some 1) none = [y1, y2] := by
        unfold cutV
        rw [HT.sIx_none, show (1 : Int) = ((1 : Nat) : Int) from rfl, HT.sIx_nat]
        simp
      rw [ec]
      have x2 := same_new hrp (.tup [y1, y2])
      have hbd : Dats K _ [y1, y2] ([b1, b3].map bodD) := .cons (hy1.tk ((tk_same x1).trans (tk_same x2))) (.cons (hy2.tk ((tk_same x1).trans (tk_same x2))) .nil)
      have e1 : [y1, y2].length = [b1, b3].length := rfl
      refine ⟨rp, rfl, ⟨_, (SqT.of upd_same)⟩, fun D nD => lc_acc walk_tup [] (fun j acc _ => acc = ([b1, b3].take j).map fun x => V.int (cntB x : Nat)) nD (fun _ _ _ _ t _ => t.seq (SqT.of upd_same)) (fun _ _ _ _ _ _ _ p => p) rfl ?_ (by simp) ?_ ?_⟩
      · rw [e1]; exact Nat.lt_of_lt_of_le (show _ < 3 from by simp) (by decide)
      · rintro j y acc H3 H3' hj k t hD la rfl ⟨rfl, hy⟩ N E1 hN _
        obtain ⟨b2, hb2, bd2⟩ := bods_at (hbd.tk t) hy
        have m2 := List.mem_of_getElem? hb2
        refine ⟨rfl, tyes ⟨_, rfl, _, L, Hd, b2, rfl, bd2, by rcases List.mem_cons.mp m2 with e | m2; (rw [e]; exact w1.1); (rw [List.mem_singleton.mp m2]; exact w1.2.1), by rcases List.mem_cons.mp m2 with e | m2; (rw [e]; omega); (rw [List.mem_singleton.mp m2]; omega), fun H4 s4 => hN _ _ (.of s4) (tk_same s4) ?_⟩⟩
        rw [take_snoc hb2, List.map_append]; rfl
      rintro H3 acc k3 t3 hD _ rfl
      have s3 := Kp.nil k3
      rw [e1, List.take_length] at hD
      refine ⟨D, [b1, b3].map fun x => (cntB x : Nat), rfl, SqL.of (by rw [List.map_map]; exact hD), _, _, rfl, rfl, ?_⟩
      exact ⟨_, _, _, rfl, (s2.trans (x1.trans x2)).trans s3, by rw [ct, et]; simp only [cntS]; have := sum_cast [b1, b3]; simp only [cntBs] at this; omega⟩
  · rintro σ H2 ⟨tot, v2, v3, rfl, s2, et⟩
    refine ⟨_, rfl, ?_⟩
    rw [lw, List.take_length] at et
    have e : tot = (cntB b : Nat) := by omega
    rw [e]; exact q _ s2
theorem all_Lsize (T : Tp K mg) (F : Std K "_law_size" "_law_size" s_Lsize (He.ga K "_law_size")) : ∀ n : Nat, Dn P w K mg base n (He.ga K "_law_size") ["body"] (spSize K n)
  | 0 => dn_no F
    (fun _ _ _ _ _ _ us hl => match us, hl with | [_], _ => rfl)
    (fun vs H Q E h => by obtain ⟨v, L, Hd, b, _, _, _, h, _⟩ := h; omega)
  | n + 1 => ok_Lsize n T F (all_Lsize T F n)
end
end PK

set_option linter.all false
set_option Elab.async false
set_option maxRecDepth 100000
set_option maxHeartbeats 4000000
/-! KNw: kept bodies. -/
namespace PK
open PySem PySem.Spec PyProof.Rows L2
/-! draws of a kept body at a depth, of a turn -/
def kD : Nat → Nat
  | 0 => 200
  | n + 1 => 200 + 9 * kD n
def tD : Nat → Nat
  | 0 => 50
  | n + 1 => 50 + 3 * kD n
theorem kD_eq (n : Nat) : kD n = 50 + 3 * tD n := by cases n <;> simp only [kD, tD] <;> omega
theorem kD_pos (n : Nat) : 200 ≤ kD n := by cases n <;> simp only [kD] <;> omega
theorem p2B_append (rt : Nat) (a b : Bod) : p2B rt (a ++ b) = p2B rt a + p2B rt b := by
  induction a with
  | nil => simp [p2B]
  | cons s r ih => simp only [List.cons_append, p2B, ih]; omega
/-! ### acts alone -/
theorem Acts.wf {L P : List Str} {b : Bod} (h : Acts L b) : wfB L P b = true := by
  induction b with
  | nil => rfl
  | cons s r ih =>
    obtain ⟨u, x, rfl, hx⟩ := h s List.mem_cons_self
    simp only [wfB, wfS, Bool.and_eq_true]
    exact ⟨decide_eq_true hx, ih fun s hs => h s (List.mem_cons_of_mem _ hs)⟩
theorem Acts.nr {L : List Str} {b : Bod} (h : Acts L b) : nrB b = true := by
  induction b with
  | nil => rfl
  | cons s r ih =>
    obtain ⟨u, x, rfl, hx⟩ := h s List.mem_cons_self
    simp only [nrB, nrS, Bool.true_and]
    exact ih fun s hs => h s (List.mem_cons_of_mem _ hs)
theorem Acts.dep {L : List Str} {b : Bod} (h : Acts L b) : depB b ≤ 1 := by
  induction b with
  | nil => simp [depB]
  | cons s r ih =>
    obtain ⟨u, x, rfl, hx⟩ := h s List.mem_cons_self
    have := ih fun s hs => h s (List.mem_cons_of_mem _ hs)
    simp only [depB, depS]; omega
theorem Acts.cnt {L : List Str} {b : Bod} (h : Acts L b) : cntB b = b.length := by
  induction b with
  | nil => rfl
  | cons s r ih =>
    obtain ⟨u, x, rfl, hx⟩ := h s List.mem_cons_self
    have := ih fun s hs => h s (List.mem_cons_of_mem _ hs)
    simp only [cntB, cntS, List.length_cons]; omega
theorem Acts.p2 {L : List Str} {b : Bod} (h : Acts L b) (rt : Nat) : p2B rt b = 2 * b.length := by
  induction b with
  | nil => rfl
  | cons s r ih =>
    obtain ⟨u, x, rfl, hx⟩ := h s List.mem_cons_self
    have := ih fun s hs => h s (List.mem_cons_of_mem _ hs)
    simp only [p2B, p2S, List.length_cons]; omega
theorem Acts.take {L : List Str} {b : Bod} (h : Acts L b) (n : Nat) : Acts L (b.take n) := fun s hs => h s (List.mem_of_mem_take hs)
/-- a kept body under way: i turns, at depth d -/
structure KGo (L Hd : List Str) (d : Nat) (tl : Bool) (i : Nat) (b : Bod) : Prop where
  wf : wfB L Hd b = true
  dep : depB b ≤ d + 3
  nr : tl = false → nrB b = true
  p2 : p2B 0 b ≤ 2 * cntB b + 3 * i
  len : b.length ≤ 10 * i
theorem KGo.nil {L Hd : List Str} {d : Nat} {tl : Bool} : KGo L Hd d tl 0 [] := ⟨rfl, by simp [depB], fun _ => rfl, by simp [p2B], Nat.zero_le _⟩
theorem KGo.mono {L Hd : List Str} {d i j : Nat} {tl : Bool} {b : Bod} (h : KGo L Hd d tl i b) (l : i ≤ j) : KGo L Hd d tl j b :=
  ⟨h.wf, h.dep, h.nr, by have := h.p2; omega, by have := h.len; omega⟩
theorem KGo.add {L Hd : List Str} {d i j : Nat} {tl : Bool} {b b2 : Bod} (h : KGo L Hd d tl i b) (g : KGo L Hd d tl j b2) : KGo L Hd d tl (i + j) (b ++ b2) := by
  obtain ⟨h1, h2, h3, h4, h5⟩ := h
  obtain ⟨g1, g2, g3, g4, g5⟩ := g
  refine ⟨by rw [wfB_append, h1, g1]; rfl, by rw [depB_append]; omega, fun e => by rw [nrB_append, h3 e, g3 e]; rfl, by rw [p2B_append, cntB_append]; omega, by rw [List.length_append]; omega⟩
theorem Acts.kgo {L Hd : List Str} {d i : Nat} {tl : Bool} {b : Bod} (h : Acts L b) (hl : b.length ≤ 10 * i) : KGo L Hd d tl i b :=
  ⟨h.wf, by have := h.dep; omega, fun _ => h.nr, by rw [h.p2, h.cnt]; omega, by omega⟩
theorem KGo.one {L Hd : List Str} {d : Nat} {tl : Bool} {s : Stm} (w : wfS L Hd s = true) (dp : depS s ≤ d + 3) (n : nrS s = true) : KGo L Hd d tl 1 [s] :=
  ⟨by simp only [wfB, w]; rfl, by simp only [depB]; omega, fun _ => by simp only [nrB, n]; rfl, by have := p2S_nr 0 s n; simp only [p2B, cntB]; omega, by simp⟩
/-! ### words -/
theorem dat_ints_get {K : Fg} {H : Hp} {v : V} {xs : List Int} (h : Dat K H v (intsD xs)) : ∃ a, v = .ref a ∧ SqT K H a (xs.map V.int) := by
  obtain ⟨a, vs, rfl, hA, hX⟩ := h.inv_tup
  rw [dats_int_inv hX] at hA
  exact ⟨a, rfl, hA⟩
theorem radd_ints {K : Fg} {x y : V} {H : Hp} {xs ys : List Int} {Q : V → Hp → Prop} (hx : Dat K H x (intsD xs)) (hy : Dat K H y (intsD ys)) (hz : xs.length + ys.length ≤ 1000)
    (q : ∀ r H', Same H H' → Dat K H' r (intsD (xs ++ ys)) → Q r H') : rAdd K x y H Q := by
  obtain ⟨a, rfl, ha⟩ := dat_ints_get hx
  obtain ⟨b, rfl, hb⟩ := dat_ints_get hy
  refine .inr (.inr (.inr ⟨a, b, _, _, rfl, rfl, ha, hb, by rw [List.length_map, List.length_map]; exact Nat.le_trans hz (by decide), fun e => ?_, fun _ e => ?_, fun _ _ p hp => ?_⟩))
  · have e : xs = [] := by simpa using e
    subst e
    exact q _ _ (fun _ _ h => h) hy
  · have e : ys = [] := by simpa using e
    subst e
    exact q _ _ (fun _ _ h => h) (by rw [List.append_nil]; exact hx)
  · refine q _ _ (same_new hp _) (.tup (SqT.of upd_same) ?_)
    rw [← List.map_append]
    exact dats_int_mk _
theorem LW.opp {n : Nat} {xs : List Int} (h : LW n xs) : LW n (xs.reverse.map fun x => -x) := by
  intro x hx
  obtain ⟨y, hy, rfl⟩ := List.mem_map.mp hx
  have := h y (List.mem_reverse.mp hy)
  exact ⟨by omega, by omega, by omega⟩
theorem LW.append {n : Nat} {xs ys : List Int} (h : LW n xs) (g : LW n ys) : LW n (xs ++ ys) := fun x hx => (List.mem_append.mp hx).elim (h x) (g x)
theorem LW.sub {n : Nat} {xs ys : List Int} (h : LW n xs) (m : ∀ y ∈ ys, y ∈ xs) : LW n ys := fun y hy => h y (m y hy)
theorem cutV_take (xs : List V) (n : Nat) : cutV xs none (some (n : Int)) = xs.take n := by
  unfold cutV
  rw [HT.sIx_none, HT.sIx_nat, List.drop_zero, Nat.sub_zero]
  by_cases h : n ≤ xs.length
  · rw [Nat.min_eq_left h]
  · rw [Nat.min_eq_right (by omega), List.take_of_length_le (Nat.le_refl _), List.take_of_length_le (by omega)]
/-- the statement of pick 4 -/
theorem KGo.four {L Hd : List Str} {d : Nat} {tl : Bool} {o m s : Bod} (ht : tl = true) (ho : Acts L o) (hm : Acts L m) (hs : Acts L s) (l : s.length ≤ 4) : KGo L Hd d tl 1 [.ens [.cho [o ++ [.ret] ++ m.take 1, m]] s] := by
  have h1 := hm.take 1
  refine ⟨?_, ?_, fun e => ?_, ?_, by simp⟩
  · simp only [wfB, wfS, wfBs, wfB_append, ho.wf, h1.wf, hm.wf, hs.wf, hs.nr]; rfl
  · have := ho.dep
    have := h1.dep
    have := hm.dep
    have := hs.dep
    simp only [depB, depS, depBs, depB_append]; omega
  · rw [ht] at e; cases e
  · simp only [p2B, p2S, p2Bs, p2B_append, ho.p2, h1.p2, hm.p2, hs.p2, cntB, cntS, cntBs, cntB_append, ho.cnt, h1.cnt, hm.cnt, hs.cnt]
    omega
/-- what a kept body reads -/
structure KeAt (K : Fg) (H : Hp) (a c al ah an af : Addr) (L Hd : List Str) (A : Nat) : Prop where
  src : SrcAt H a c A
  hl : H al = some (.lst (L.map V.str))
  hh : H ah = some (.lst (Hd.map V.str))
  hn : ∃ nvs, H an = some (.lst nvs) ∧ nvs.length = Hd.length ∧ ∀ (k : Nat) v, nvs[k]? = some v → ∃ xs, Dat K H v (intsD xs) ∧ LW L.length xs ∧ xs.length ≤ 4
  hf : ∃ l : Int, H af = some (.lst [.int l])
  naf : a ≠ af
  ncf : c ≠ af
  na : an ≠ a
  nf : an ≠ af
  L1 : 1 ≤ L.length
  L20 : L.length ≤ 20
  H1 : 1 ≤ Hd.length
  H40 : Hd.length ≤ 40
theorem KeAt.step {K : Fg} {H H' : Hp} {a c al ah an af : Addr} {L Hd : List Str} {A A' : Nat} (g : KeAt K H a c al ah an af L Hd A) (k : Kp [a, af] H H') (t : Tk H H') (hs : SrcAt H' a c A') (hf : ∃ l : Int, H' af = some (.lst [.int l])) : KeAt K H' a c al ah an af L Hd A' := by
  obtain ⟨l, hfl⟩ := g.hf
  have n : ∀ {al : Addr} {L : List Str}, H al = some (.lst (L.map V.str)) → 1 ≤ L.length → al ∉ [a, af] := fun {al L} h h1 m => by
    simp only [List.mem_cons, List.not_mem_nil, or_false] at m
    rcases m with e | e
    · exact names_ne_src h h1 g.src e
    · exact names_ne_int h h1 hfl e
  obtain ⟨nvs, h1, h2, h3⟩ := g.hn
  exact ⟨hs, k _ _ g.hl (n g.hl g.L1), k _ _ g.hh (n g.hh g.H1), ⟨nvs, k _ _ h1 (by simp [g.na, g.nf]), h2, fun k v e => let ⟨xs, d, r⟩ := h3 k v e; ⟨xs, d.tk t, r⟩⟩, hf, g.naf, g.ncf, g.na, g.nf, g.L1, g.L20, g.H1, g.H40⟩
def spKept (K : Fg) (n : Nat) : Sp := fun vs H Q _ => ∃ (a c al ah an af : Addr) (L Hd : List Str) (d A : Nat) (wv : V) (xs : List Int) (tl : Bool), vs = [.ref a, .ref al, .ref ah, .ref an, .ref af, .int d, wv, .bl tl] ∧ KeAt K H a c al ah an af L Hd A ∧ d < n ∧ n ≤ 4 ∧ A + kD d ≤ 3000000000000000000 ∧ Dat K H wv (intsD xs) ∧ LW L.length xs ∧ xs.length ≤ 4 ∧
  ∀ (r : V) (H' : Hp) (b : Bod) (A' : Nat), Kp [a, af] H H' → Tk H H' → SrcAt H' a c A' → (∃ l : Int, H' af = some (.lst [.int l])) → A' ≤ A + kD d → Dat K H' r (bodD b) → KGo L Hd d tl 8 b → Q r H'
/-- under way: made at lm -/
structure KIn (K : Fg) (a c af lm : Addr) (H H' : Hp) (ws : List V) (b : Bod) (A' : Nat) : Prop where
  kp : Kp [a, af] H H'
  tk : Tk H H'
  src : SrcAt H' a c A'
  hf : ∃ l : Int, H' af = some (.lst [.int l])
  nm : H lm = none
  hm : H' lm = some (.lst ws)
  md : Dats K H' ws (b.map stmD)
theorem kp_updn {M : List Addr} {H H' : Hp} {x : Addr} (k : Kp M H H') (n : H x = none) (o : HO) : Kp M H (upd H' x o) := fun b u e m => by
  rw [upd_ne (ne_of_none e n)]; exact k b u e m
theorem KIn.same {K : Fg} {a c af lm : Addr} {H H1 H2 : Hp} {ws : List V} {b : Bod} {A : Nat} (h : KIn K a c af lm H H1 ws b A) (s : Same H1 H2) : KIn K a c af lm H H2 ws b A :=
  ⟨h.kp.trans (.of s), h.tk.trans (tk_same s), h.src.same s, let ⟨l, e⟩ := h.hf; ⟨l, s _ _ e⟩, h.nm, s _ _ h.hm, h.md.tk (tk_same s)⟩
/-- a call that changes the source and left alone -/
theorem KIn.call {K : Fg} {a c af lm : Addr} {H H1 H2 : Hp} {ws : List V} {b : Bod} {A A2 : Nat} (h : KIn K a c af lm H H1 ws b A) (na : H a ≠ none) (nf : H af ≠ none) (k : Kp [a, af] H1 H2) (t : Tk H1 H2) (s : SrcAt H2 a c A2) (f : ∃ l : Int, H2 af = some (.lst [.int l])) : KIn K a c af lm H H2 ws b A2 := by
  have n : lm ∉ [a, af] := fun m => by
    simp only [List.mem_cons, List.not_mem_nil, or_false] at m
    rcases m with e | e
    · exact na (e ▸ h.nm)
    · exact nf (e ▸ h.nm)
  exact ⟨h.kp.trans k, h.tk.trans t, s, f, h.nm, k _ _ h.hm n, h.md.tk t⟩
/-- draws: the source alone -/
theorem KIn.draw {K : Fg} {a c af lm : Addr} {H H1 H2 : Hp} {ws : List V} {b : Bod} {A A2 : Nat} (h : KIn K a c af lm H H1 ws b A) (na : H a ≠ none) (nf : H af ≠ none) (naf : a ≠ af) (k : Kp [a] H1 H2) (t : Tk H1 H2) (s : SrcAt H2 a c A2) : KIn K a c af lm H H2 ws b A2 :=
  h.call na nf (k.mono (by simp)) t s (let ⟨l, e⟩ := h.hf; ⟨l, k _ _ e (by simpa using naf.symm)⟩)
/-- made grows in place -/
theorem KIn.app {K : Fg} {a c af lm : Addr} {H H1 : Hp} {ws : List V} {b : Bod} {A : Nat} (h : KIn K a c af lm H H1 ws b A) (na : H a ≠ none) (nc : H c ≠ none) (nf : H af ≠ none) {v : V} {s : Stm} (d : Dat K H1 v (stmD s)) : KIn K a c af lm H (upd H1 lm (.lst (ws ++ [v]))) (ws ++ [v]) (b ++ [s]) A := by
  have t := tk_lst (o' := .lst (ws ++ [v])) h.hm
  refine ⟨kp_updn h.kp h.nm _, h.tk.trans t, h.src.kp (kp_upd (M := [lm]) (by simp) _) (fun m => ?_) (fun m => ?_), let ⟨l, e⟩ := h.hf; ⟨l, ?_⟩, h.nm, upd_same, ?_⟩
  · rw [List.mem_singleton] at m; exact na (m ▸ h.nm)
  · rw [List.mem_singleton] at m; exact nc (m ▸ h.nm)
  · rw [upd_ne (show af ≠ lm from fun m => nf (by rw [m]; exact h.nm))]; exact e
  · rw [List.map_append]
    exact (h.md.append (.cons d .nil)).tk t
/-- another own list changes -/
theorem KIn.side {K : Fg} {a c af lm p : Addr} {H H1 : Hp} {ws xs ys : List V} {b : Bod} {A : Nat} (h : KIn K a c af lm H H1 ws b A) (na : H a ≠ none) (nc : H c ≠ none) (nf : H af ≠ none) (np : H p = none) (n : p ≠ lm) (e : H1 p = some (.lst xs)) : KIn K a c af lm H (upd H1 p (.lst ys)) ws b A := by
  have t := tk_lst (o' := .lst ys) e
  refine ⟨kp_updn h.kp np _, h.tk.trans t, h.src.kp (kp_upd (M := [p]) (by simp) _) (fun m => ?_) (fun m => ?_), let ⟨l, e⟩ := h.hf; ⟨l, ?_⟩, h.nm, ?_, h.md.tk t⟩
  · rw [List.mem_singleton] at m; exact na (m ▸ np)
  · rw [List.mem_singleton] at m; exact nc (m ▸ np)
  · rw [upd_ne (show af ≠ p from fun m => nf (by rw [m]; exact np))]; exact e
  · rw [upd_ne n.symm]; exact h.hm
theorem KIn.left {K : Fg} {a c af lm : Addr} {H H1 : Hp} {ws : List V} {b : Bod} {A : Nat} {l l' : Int} (h : KIn K a c af lm H H1 ws b A) (nf : H af ≠ none) (naf : a ≠ af) (ncf : c ≠ af) (e : H1 af = some (.lst [.int l])) : KIn K a c af lm H (upd H1 af (.lst [.int l'])) ws b A := by
  have t := tk_lst (o' := .lst [.int l']) e
  refine ⟨h.kp.trans (kp_upd (by simp) _), h.tk.trans t, h.src.kp (kp_upd (M := [af]) (by simp) _) (by simpa using naf) (by simpa using ncf), ⟨l', upd_same⟩, h.nm, ?_, h.md.tk t⟩
  rw [upd_ne (show lm ≠ af from fun m => nf (by rw [← m]; exact h.nm))]; exact h.hm
theorem KIn.none' {K : Fg} {a c af lm p : Addr} {H H1 : Hp} {ws : List V} {b : Bod} {A : Nat} (h : KIn K a c af lm H H1 ws b A) (np : H1 p = none) : H p = none := by
  refine kp_none h.kp np (fun m => ?_)
  simp only [List.mem_cons, List.not_mem_nil, or_false] at m
  obtain ⟨_, _, _, _, h1, _⟩ := h.src
  obtain ⟨_, h2⟩ := h.hf
  rcases m with e | e
  · rw [e, h1] at np; cases np
  · rw [e, h2] at np; cases np
/-- made, and more, made anew -/
theorem KIn.cat {K : Fg} {a c af lm p : Addr} {H H1 : Hp} {ws ws2 : List V} {b b2 : Bod} {A : Nat} (h : KIn K a c af lm H H1 ws b A) (hp : H1 p = none) (d : Dats K H1 ws2 (b2.map stmD)) : KIn K a c af p H (upd H1 p (.lst (ws ++ ws2))) (ws ++ ws2) (b ++ b2) A := by
  have s := same_new hp (.lst (ws ++ ws2))
  have h' := h.same s
  exact ⟨h'.kp, h'.tk, h'.src, h'.hf, h.none' hp, upd_same, by rw [List.map_append]; exact (h.md.append d).tk (tk_same s)⟩
/-- made made anew -/
theorem KIn.new {K : Fg} {a c af lm p : Addr} {H H1 : Hp} {ws ws' : List V} {b b' : Bod} {A : Nat} (h : KIn K a c af lm H H1 ws b A) (np : H p = none) (hm : H1 p = some (.lst ws')) (d : Dats K H1 ws' (b'.map stmD)) : KIn K a c af p H H1 ws' b' A :=
  ⟨h.kp, h.tk, h.src, h.hf, np, hm, d⟩
section
variable {P : Program} {w : World} {K : Fg} {mg : Str → Option Value} {base : Heap}
theorem ok_Lkept (n : Nat) (T : Tp K mg) (F : Std K "_law_kept" "_law_kept" s_Lkept (He.ga K "_law_kept")) (D_Ldraw : Dn P w K mg base 1 (He.ga K "_law_draw") ["source", "many"] (spDraw K))
    (D_Lword : Dn P w K mg base 2 (He.ga K "_law_word") ["source", "many", "most"] (spWord K)) (D_Lnet : Dn P w K mg base 1 (He.ga K "_law_net") ["letters"] (spNet K))
    (D_Lopposite : Dn P w K mg base 1 (He.ga K "_law_opposite") ["letters"] (spOpp K)) (D_Lstraight : Dn P w K mg base 2 (He.ga K "_law_straight") ["source", "letters", "word"] (spStraight K))
    (D_Lkept : Dn P w K mg base (n + 2) (He.ga K "_law_kept") ["source", "letters", "heads", "nets", "left", "deep", "word", "tail"] (spKept K n)) :
    Dn P w K mg base (n + 3) (He.ga K "_law_kept") ["source", "letters", "heads", "nets", "left", "deep", "word", "tail"] (spKept K (n + 1)) := by
  refine dn_mk F sc_Lkept
    (fun _ _ _ _ _ _ us hl => match us, hl with | [_, _, _, _, _, _, _, _], _ => rfl)
    (fun vs H Q E h => ?_) fun cdv A outer s H vs Q E hr h => ?_
  · obtain ⟨a, c, al, ah, an, af, L, Hd, d, B, wv, xs, tl, rfl, _⟩ := h; rfl
  obtain ⟨a, c, al, ah, an, af, L, Hd, d, B, wv, xs, tl, rfl, g, dn, n4, hB, wd, wl, w4, q⟩ := h
  refine ⟨_, (pss_cons (ps_par (i := 8) (j := 9) (by rfl) sc_Lkept.nd rfl rfl (by decide) rfl rfl (pa_cons (pe_lst pa_nil) (pa_cons (pv 6) pa_nil)) (by rfl))
    (pss_cons (ps_for PassesOwn.never rfl (pi_range1 rfl T.b_range (pa_cons (pe_f D_Ldraw (hr.mono (by omega)) T.g__law_draw (pa_cons (pv 0) (pa_cons pe_int pa_nil))) pa_nil)) (pg_name (i := 10) sc_Lkept.nd rfl (Or.inl rfl)) (pss_cons (ps_par (i := 11) (j := 12) (by rfl) sc_Lkept.nd rfl rfl (by decide) rfl rfl (pa_cons (pe_f D_Ldraw (hr.mono (by omega)) T.g__law_draw (pa_cons (pv 0) (pa_cons pe_int pa_nil))) (pa_cons (pe_f D_Lword (hr.mono (by omega)) T.g__law_word (pa_cons (pv 0) (pa_cons (pe_callB (cLenK (K := K) rfl) (by rfl) T.b_len PySem.boot_len (pa_cons (pv 1) pa_nil)) (pa_cons pe_int pa_nil)))) pa_nil)) (by rfl))
    (pss_cons (ps_augS (pv 4) pe_int get_list pe_int ip_sub set_list)
    (pss_cons (ps_if (PW.pt (pw_and (pt_cmpR op_lt (pv 11) pe_int (nomark _)) (pw_and1 (PW.pt (pw_or (pt_cmpR (oEqK (K := K) rfl (hu64 hr)) (pv 5) pe_int (nomark _)) (pw_or1 (pt_cmpR op_lt (pe_ix (ixK (K := K) rfl) (pv 4) pe_int (fun _ _ => rfl)) pe_int (nomark _)))))))) (pss_one (ps_set (i := 11) sc_Lkept.nd rfl (Or.inl rfl) pe_int)) pss_nil)
    (pss_cons (ps_if (pt_cmpR (oEqK (K := K) rfl (hu64 hr)) (pv 11) pe_int (nomark _)) (pss_cons (ps_set (i := 13) sc_Lkept.nd rfl (Or.inl rfl) (pe_lst pa_nil))
    (pss_cons (ps_for PassesOwn.never rfl (pi_range1 rfl T.b_range (pa_cons (pe_op (oAddK (K := K) rfl) pe_int (pe_f D_Ldraw (hr.mono (by omega)) T.g__law_draw (pa_cons (pv 0) (pa_cons pe_int pa_nil)))) pa_nil)) (pg_name (i := 14) sc_Lkept.nd rfl (Or.inl rfl)) (pss_one (ps_expr (pe_bm PySem.F.plainAttrs_list PySem.F.slot_list_append PySem.F.type_list_append mt_append (pv 13) (pa_cons (pe_f D_Lkept (hr.mono (by omega)) T.g__law_kept (pa_cons (pv 0) (pa_cons (pv 1) (pa_cons (pv 2) (pa_cons (pv 3) (pa_cons (pv 4) (pa_cons (pe_op op_sub (pv 5) pe_int) (pa_cons (pv 12) (pa_cons pe_bl pa_nil))))))))) pa_nil)))))
    (pss_one (ps_expr (pe_bm PySem.F.plainAttrs_list PySem.F.slot_list_append PySem.F.type_list_append mt_append (pv 8) (pa_cons (pe_tup (pa_cons pe_str (pa_cons (pe_callTy (tupK (K := K) rfl) (by rfl) T.b_tuple (by decide +kernel) (pa_cons (pv 13) pa_nil)) pa_nil))) pa_nil)))))) (pss_one (ps_if (pt_cmpR (oEqK (K := K) rfl (hu64 hr)) (pv 11) pe_int (nomark _)) (pss_cons (ps_set (i := 12) sc_Lkept.nd rfl (Or.inl rfl) (pe_tup pa_nil))
    (pss_one (ps_expr (pe_bm PySem.F.plainAttrs_list PySem.F.slot_list_append PySem.F.type_list_append mt_append (pv 8) (pa_cons (pe_tup (pa_cons pe_str (pa_cons (pe_f D_Lkept (hr.mono (by omega)) T.g__law_kept (pa_cons (pv 0) (pa_cons (pv 1) (pa_cons (pv 2) (pa_cons (pv 3) (pa_cons (pv 4) (pa_cons (pe_op op_sub (pv 5) pe_int) (pa_cons (pe_tup pa_nil) (pa_cons pe_bl pa_nil))))))))) pa_nil))) pa_nil))))) (pss_one (ps_if (pt_cmpR (oEqK (K := K) rfl (hu64 hr)) (pv 11) pe_int (nomark _)) (pss_cons (ps_set (i := 15) sc_Lkept.nd rfl (Or.inl rfl) (pe_f D_Lword (hr.mono (by omega)) T.g__law_word (pa_cons (pv 0) (pa_cons (pe_callB (cLenK (K := K) rfl) (by rfl) T.b_len PySem.boot_len (pa_cons (pv 1) pa_nil)) (pa_cons pe_int pa_nil)))))
    (pss_cons (ps_set (i := 16) sc_Lkept.nd rfl (Or.inl rfl) (pe_f D_Lkept (hr.mono (by omega)) T.g__law_kept (pa_cons (pv 0) (pa_cons (pv 1) (pa_cons (pv 2) (pa_cons (pv 3) (pa_cons (pv 4) (pa_cons (pe_op op_sub (pv 5) pe_int) (pa_cons (pv 15) (pa_cons pe_bl pa_nil))))))))))
    (pss_cons (ps_set (i := 17) sc_Lkept.nd rfl (Or.inl rfl) (pe_f D_Lnet (hr.mono (by omega)) T.g__law_net (pa_cons (pe_op (oAddK (K := K) rfl) (pe_f D_Lopposite (hr.mono (by omega)) T.g__law_opposite (pa_cons (pv 15) pa_nil)) (pv 12)) pa_nil)))
    (pss_one (ps_expr (pe_bm PySem.F.plainAttrs_list PySem.F.slot_list_append PySem.F.type_list_append mt_append (pv 8) (pa_cons (pe_tup (pa_cons pe_str (pa_cons (pv 16) (pa_cons (pe_f D_Lkept (hr.mono (by omega)) T.g__law_kept (pa_cons (pv 0) (pa_cons (pv 1) (pa_cons (pv 2) (pa_cons (pv 3) (pa_cons (pv 4) (pa_cons (pe_op op_sub (pv 5) pe_int) (pa_cons (pv 17) (pa_cons pe_bl pa_nil))))))))) pa_nil)))) pa_nil))))))) (pss_one (ps_if (pt_cmpR (oEqK (K := K) rfl (hu64 hr)) (pv 11) pe_int (nomark _)) (pss_cons (ps_set (i := 14) sc_Lkept.nd rfl (Or.inl rfl) (pe_f D_Ldraw (hr.mono (by omega)) T.g__law_draw (pa_cons (pv 0) (pa_cons (pe_callB (cLenK (K := K) rfl) (by rfl) T.b_len PySem.boot_len (pa_cons (pv 2) pa_nil)) pa_nil))))
    (pss_cons (ps_set (i := 12) sc_Lkept.nd rfl (Or.inl rfl) (pe_ix (ixK (K := K) rfl) (pv 3) (pv 14) (fun _ _ => rfl)))
    (pss_one (ps_expr (pe_bm PySem.F.plainAttrs_list PySem.F.slot_list_append PySem.F.type_list_append mt_append (pv 8) (pa_cons (pe_tup (pa_cons pe_str (pa_cons (pe_ix (ixK (K := K) rfl) (pv 2) (pv 14) (fun _ _ => rfl)) pa_nil))) pa_nil)))))) (pss_one (ps_if (PW.pt (pw_and (pt_cmpR (oEqK (K := K) rfl (hu64 hr)) (pv 11) pe_int (nomark _)) (pw_and1 (pt_val (pv 7))))) (pss_cons (ps_set (i := 17) sc_Lkept.nd rfl (Or.inl rfl) (pe_f D_Lword (hr.mono (by omega)) T.g__law_word (pa_cons (pv 0) (pa_cons (pe_callB (cLenK (K := K) rfl) (by rfl) T.b_len PySem.boot_len (pa_cons (pv 1) pa_nil)) (pa_cons pe_int pa_nil)))))
    (pss_cons (ps_set (i := 18) sc_Lkept.nd rfl (Or.inl rfl) (pe_op (oAddK (K := K) rfl) (pe_f D_Lstraight (hr.mono (by omega)) T.g__law_straight (pa_cons (pv 0) (pa_cons (pv 1) (pa_cons (pe_f D_Lnet (hr.mono (by omega)) T.g__law_net (pa_cons (pe_op (oAddK (K := K) rfl) (pv 9) (pe_f D_Lopposite (hr.mono (by omega)) T.g__law_opposite (pa_cons (pv 17) pa_nil))) pa_nil)) pa_nil)))) (pe_lst (pa_cons (pe_tup (pa_cons pe_str pa_nil)) pa_nil))))
    (pss_cons (ps_set (i := 19) sc_Lkept.nd rfl (Or.inl rfl) (pe_f D_Lstraight (hr.mono (by omega)) T.g__law_straight (pa_cons (pv 0) (pa_cons (pv 1) (pa_cons (pe_f D_Lnet (hr.mono (by omega)) T.g__law_net (pa_cons (pe_op (oAddK (K := K) rfl) (pv 12) (pe_f D_Lopposite (hr.mono (by omega)) T.g__law_opposite (pa_cons (pv 17) pa_nil))) pa_nil)) pa_nil)))))
    (pss_cons (ps_set (i := 20) sc_Lkept.nd rfl (Or.inl rfl) (pe_tup (pa_cons (pe_callTy (tupK (K := K) rfl) (by rfl) T.b_tuple (by decide +kernel) (pa_cons (pe_op (oAddK (K := K) rfl) (pv 18) (pe_slice (slLstK (K := K) rfl) (pv 19) po_none (po_some pe_int))) pa_nil)) (pa_cons (pe_callTy (tupK (K := K) rfl) (by rfl) T.b_tuple (by decide +kernel) (pa_cons (pv 19) pa_nil)) pa_nil))))
    (pss_one (ps_expr (pe_bm PySem.F.plainAttrs_list PySem.F.slot_list_append PySem.F.type_list_append mt_append (pv 8) (pa_cons (pe_tup (pa_cons pe_str (pa_cons (pe_tup (pa_cons (pe_tup (pa_cons pe_str (pa_cons (pv 20) pa_nil))) pa_nil)) (pa_cons (pe_callTy (tupK (K := K) rfl) (by rfl) T.b_tuple (by decide +kernel) (pa_cons (pe_f D_Lstraight (hr.mono (by omega)) T.g__law_straight (pa_cons (pv 0) (pa_cons (pv 1) (pa_cons (pv 17) pa_nil)))) pa_nil)) pa_nil)))) pa_nil)))))))) (pss_one (ps_set (i := 8) sc_Lkept.nd rfl (Or.inl rfl) (pe_op (oAddK (K := K) rfl) (pv 8) (pe_f D_Lstraight (hr.mono (by omega)) T.g__law_straight (pa_cons (pv 0) (pa_cons (pv 1) (pa_cons (pv 12) pa_nil))))))))))))))))
    (pss_one (ps_set (i := 9) sc_Lkept.nd rfl (Or.inl rfl) (pe_f D_Lnet (hr.mono (by omega)) T.g__law_net (pa_cons (pe_op (oAddK (K := K) rfl) (pe_f D_Lopposite (hr.mono (by omega)) T.g__law_opposite (pa_cons (pv 12) pa_nil)) (pv 9)) pa_nil)))))))))
    (pss_cons (ps_set (i := 8) sc_Lkept.nd rfl (Or.inl rfl) (pe_op (oAddK (K := K) rfl) (pv 8) (pe_f D_Lstraight (hr.mono (by omega)) T.g__law_straight (pa_cons (pv 0) (pa_cons (pv 1) (pa_cons (pv 9) pa_nil))))))
    (pss_cons (ps_if (PW.pt (pw_and (pt_val (pv 7)) (pw_and1 (pt_cmpR (oEqK (K := K) rfl (hu64 hr)) (pe_f D_Ldraw (hr.mono (by omega)) T.g__law_draw (pa_cons (pv 0) (pa_cons pe_int pa_nil))) pe_int (nomark _))))) (pss_one (ps_set (i := 8) sc_Lkept.nd rfl (Or.inl rfl) (pe_op (oAddK (K := K) rfl) (pe_op (oAddK (K := K) rfl) (pv 8) (pe_lst (pa_cons (pe_tup (pa_cons pe_str pa_nil)) pa_nil))) (pe_f D_Lstraight (hr.mono (by omega)) T.g__law_straight (pa_cons (pv 0) (pa_cons (pv 1) (pa_cons (pe_f D_Lword (hr.mono (by omega)) T.g__law_word (pa_cons (pv 0) (pa_cons (pe_callB (cLenK (K := K) rfl) (by rfl) T.b_len PySem.boot_len (pa_cons (pv 1) pa_nil)) (pa_cons pe_int pa_nil)))) pa_nil))))))) pss_nil)
    (pss_one (ps_ret (pe_callTy (tupK (K := K) rfl) (by rfl) T.b_tuple (by decide +kernel) (pa_cons (pv 8) pa_nil)))))))), ?_⟩
  have sz : 100000 < sizeLine := by decide
  have kde := kD_eq d
  have na : H a ≠ none := by
    obtain ⟨_, _, _, _, h1, _⟩ := g.src
    rw [h1]; simp
  have nc : H c ≠ none := by
    obtain ⟨_, _, _, _, _, h1, _⟩ := g.src
    rw [h1]; simp
  have nf : H af ≠ none := by
    obtain ⟨_, h1⟩ := g.hf
    rw [h1]; simp
  have naf := g.naf
  have stp : ∀ {lm : Addr} {H' : Hp} {ws : List V} {b : Bod} {A' : Nat}, KIn K a c af lm H H' ws b A' → KeAt K H' a c al ah an af L Hd A' := fun k => g.step k.kp k.tk k.src k.hf
  refine ⟨Nat.zero_le _, fun lm hlm => ⟨_, rfl, _, _, rfl, ?_⟩⟩
  have s1 := same_new hlm (.lst [])
  have k1 : KIn K a c af lm H (upd H lm (.lst [])) [] [] B := ⟨.of s1, tk_same s1, g.src.same s1, let ⟨l, e⟩ := g.hf; ⟨l, s1 _ _ e⟩, hlm, upd_same, .nil⟩
  generalize upd H lm (.lst []) = H1 at k1
  refine ⟨_, rfl, a, c, 4, B, rfl, k1.src, by decide, by decide, by omega, fun t H2 ht k2 t2 hs2 => ?_⟩
  have k2 := k1.draw na nf naf k2 t2 hs2
  have tde : ∀ i, i < 3 → i * tD d ≤ 2 * tD d := fun i hi => Nat.mul_le_mul_right _ (by omega)
  have dat_tk : ∀ {H1 H2 : Hp} {v : V} {x : PyData}, Dat K H1 v x → Same H1 H2 → Dat K H2 v x := fun d s => d.tk (tk_same s)
  refine ⟨_, rfl, by omega, by omega, for_it (walk_range (lo := 0)) (fun i σ H' => ∃ (lm : Addr) (ws : List V) (b : Bod) (rv : V) (rx : List Int) (A' : Nat) (v10 v11 v12 v13 v14 v15 v16 v17 v18 v19 v20 : Option V), σ = [some (.ref a), some (.ref al), some (.ref ah), some (.ref an), some (.ref af), some (.int d), some wv, some (.bl tl), some (.ref lm), some rv, v10, v11, v12, v13, v14, v15, v16, v17, v18, v19, v20] ∧ KIn K a c af lm H H' ws b A' ∧ KGo L Hd d tl i b ∧ Dat K H' rv (intsD rx) ∧ LW L.length rx ∧ rx.length ≤ 4 + 4 * i ∧ A' ≤ B + 1 + i * tD d)
    ⟨lm, [], [], wv, xs, B + 1, none, none, none, none, none, none, none, none, none, none, none, rfl, k2, .nil, wd.tk k2.tk, wl, by omega, by omega⟩ (fun _ _ _ _ _ => trivial) ?_ ?_⟩
  · rintro i z σ H30 H3 hi ⟨lm, ws, b, rv, rx, A', v10, v11, v12, v13, v14, v15, v16, v17, v18, v19, v20, rfl, k3, go, rd, rl, rn, hA'⟩ ⟨rfl, hz⟩
    rw [Int.toNat_natCast] at hi
    have tdi := tde i (by omega)
    have l60 := go.len
    have g3 := stp k3
    refine ⟨_, rfl, a, c, 7, A', rfl, k3.src, by decide, by decide, by omega, fun pk H4 hpk k4 t4 hs4 => ?_⟩
    have i4 := k3.draw na nf naf k4 t4 hs4
    have g4 := stp i4
    refine ⟨_, rfl, _, rfl, _, _, rfl, .inl ⟨_, SqL.of g4.hl, rfl⟩, a, c, (L.map V.str).length, 2, A' + 1, rfl, hs4, by rw [List.length_map]; exact g.L1, by rw [List.length_map]; exact g.L20, by decide, by omega, fun part H5 px A5 k5 t5 hs5 hA5 pd pl pn => ⟨_, _, rfl, ?_⟩⟩
    rw [List.length_map] at pl
    have i5 := i4.draw na nf naf k5 t5 hs5
    obtain ⟨lv, hlv⟩ := i5.hf
    refine ⟨_, rfl, af, [.int lv], 0, _, rfl, rfl, SqL.of hlv, atI_nat (j := 0) rfl, _, _, rfl, rfl, af, _, 0, 0, rfl, rfl, hlv, rfl, ?_⟩
    have i6 := i5.left (l' := lv - 1) nf naf g.ncf hlv
    have t6 : Tk H3 (upd H5 af (.lst [.int (lv - 1)])) := t4.trans (t5.trans (tk_lst hlv))
    have t56 : Tk H5 (upd H5 af (.lst [.int (lv - 1)])) := tk_lst hlv
    have e6 : (upd H5 af (.lst [.int (lv - 1)])) af = some (.lst [.int (lv - 1)]) := upd_same
    generalize hH6 : upd H5 af (.lst [.int (lv - 1)]) = H6 at i6 t6 t56 e6
    have hH : upd H5 af (HO.lst ([V.int lv].set 0 (V.int ((fun i j : Int => i - j) lv 1)))) = H6 := hH6
    rw [hH]
    have rd6 := rd.tk t6
    have pd6 := pd.tk t56
    dsimp only
    refine tif_cut (fun σ' H' => ∃ pk' : Nat, σ' = [some (.ref a), some (.ref al), some (.ref ah), some (.ref an), some (.ref af), some (.int d), some wv, some (.bl tl), some (.ref lm), some rv, some z, some (.int pk'), some part, v13, v14, v15, v16, v17, v18, v19, v20] ∧ H' = H6 ∧ (pk' < 3 → 1 ≤ d)) ?rest fun rest => ?_
    case rest =>
      rintro σ' H' ⟨pk', rfl, rfl, hpd⟩
      refine tif_cut (fun σ' H7 => ∃ (lm : Addr) (ws : List V) (b2 : Bod) (part : V) (px : List Int) (A7 : Nat) (v11 v13 v14 v15 v16 v17 v18 v19 v20 : Option V), σ' = [some (.ref a), some (.ref al), some (.ref ah), some (.ref an), some (.ref af), some (.int d), some wv, some (.bl tl), some (.ref lm), some rv, some z, v11, some part, v13, v14, v15, v16, v17, v18, v19, v20] ∧ KIn K a c af lm H H7 ws (b ++ b2) A7 ∧ KGo L Hd d tl 1 b2 ∧ Dat K H7 part (intsD px) ∧ LW L.length px ∧ px.length ≤ 4 ∧ Dat K H7 rv (intsD rx) ∧ A7 ≤ A' + tD d) ?rest2 fun rest2 => ?_
      case rest2 =>
        rintro σ' H7 ⟨lm, ws, b2, part, px, A7, v11, v13, v14, v15, v16, v17, v18, v19, v20, rfl, i7, go7, pd7, pl7, pn7, rd7, hA7⟩
        refine ⟨_, rfl, part, px, rfl, pd7, by omega, fun H8 r8 s8 d8 => ⟨_, rfl, radd_ints d8 (dat_tk rd7 s8) (by simp; omega) fun r9 H9 s9 d9 => ?_⟩⟩
        obtain ⟨a9, rfl, q9⟩ := dat_ints_get d9
        refine ⟨a9, _, rfl, .inl q9, by simp; omega, fun H10 r10 ys s10 d10 m10 n10 => ?_⟩
        have s7 := s8.trans (s9.trans s10)
        refine ⟨lm, ws, b ++ b2, r10, ys, A7, _, _, _, _, _, _, _, _, _, _, _, rfl, i7.same s7, go.add go7, d10, (pl7.opp.append rl).sub m10, ?_, ?_⟩
        · rw [List.length_append, List.length_map, List.length_reverse] at n10; omega
        · rw [Nat.add_mul]; omega
      have hm6 := i6.hm
      have g6 := stp i6
      have lws := i6.md.length
      rw [List.length_map] at lws
      have s2z : 2 ≤ sizeLine := by decide
      have hvs : ∀ (d' : Nat) (v : V), [V.ref a, V.ref al, V.ref ah, V.ref an, V.ref af, V.int (((d' + 1 : Nat) : Int) - 1), v, V.bl false] = [V.ref a, V.ref al, V.ref ah, V.ref an, V.ref af, V.int (d' : Int), v, V.bl false] := fun d' v => by
        rw [show ((d' + 1 : Nat) : Int) - 1 = (d' : Int) by omega]
      refine ⟨_, rfl, .inl ⟨rfl, _, rfl, ite2 (fun e => ?_) (fun ne0 => ?_)⟩⟩
      · have e := of_decide_eq_true e
        injection e with e
        obtain ⟨d', rfl⟩ : ∃ d', d = d' + 1 := ⟨d - 1, by have := hpd (by omega); omega⟩
        have tdd : tD (d' + 1) = 50 + 3 * kD d' := rfl
        have kp200 := kD_pos d'
        refine ⟨Nat.zero_le _, fun bl hbl => ?_⟩
        have s7 := same_new hbl (.lst [])
        have i7 := i6.same s7
        have nbl : bl ≠ lm := (ne_of_none hm6 hbl).symm
        have hbl0 := i6.none' hbl
        have eb7 : (upd H' bl (.lst [])) bl = some (.lst []) := upd_same
        have t7 := tk_same s7
        generalize upd H' bl (.lst []) = H7 at i7 eb7 t7
        refine ⟨_, rfl, a, c, 2, A5, rfl, i7.src, by decide, by decide, by omega, fun mm H8 hmm k8 t8 hs8 => .inl ⟨_, _, rfl, rfl, ?_⟩⟩
        have i8 := i7.draw na nf naf k8 t8 hs8
        have nba : bl ≠ a := fun e => na (by rw [← e]; exact hbl0)
        have nbf : bl ≠ af := fun e => nf (by rw [← e]; exact hbl0)
        have eb8 := k8 _ _ eb7 (by simpa using nba)
        have m2 : mm < 2 := by omega
        refine ⟨_, rfl, by omega, by omega, for_it (walk_range (lo := 0)) (fun j σ H9 => ∃ (bws : List V) (bs : List Bod) (v14 : Option V) (A9 : Nat), σ = [some (.ref a), some (.ref al), some (.ref ah), some (.ref an), some (.ref af), some (.int ((d' + 1 : Nat) : Int)), some wv, some (.bl tl), some (.ref lm), some rv, some z, some (.int pk'), some part, some (.ref bl), v14, v15, v16, v17, v18, v19, v20] ∧ KIn K a c af lm H H9 ws b A9 ∧ Tk H8 H9 ∧ H9 bl = some (.lst bws) ∧ Dats K H9 bws (bs.map bodD) ∧ wfBs L Hd bs = true ∧ depBs bs ≤ d' + 3 ∧ nrBs bs = true ∧ bs.length = j ∧ A9 ≤ A' + 12 + j * kD d')
          ⟨[], [], v14, A5 + 1, rfl, i8, .refl _, eb8, .nil, rfl, by simp [depBs], rfl, rfl, by omega⟩ (fun _ _ _ _ _ => trivial) ?_ ?_⟩
        · rintro j z' σ H90 H9 hj ⟨bws, bs, v14, A9, rfl, i9, t9, eb9, bd9, wf9, dp9, nr9, ln9, hA9⟩ ⟨rfl, hz'⟩
          have hj : j < 3 := by omega
          have jk : j * kD d' ≤ 2 * kD d' := Nat.mul_le_mul_right _ (by omega)
          have g9 := stp i9
          have lb9 := bd9.length
          rw [List.length_map] at lb9
          refine ⟨_, rfl, .inl ⟨rfl, _, SqL.of eb9⟩, _, rfl, _, rfl, _, rfl, _, rfl, _, rfl, _, rfl, _, _, rfl, rfl, _, rfl, a, c, al, ah, an, af, L, Hd, d', A9, part, px, false, hvs d' part, g9, by omega, by omega, by omega, pd6.tk (t7.trans (t8.trans t9)), pl, by omega, fun r H10 b2 A10 k10 t10 hs10 hf10 hA10 bd10 go10 => ?_⟩
          have i10 := i9.call na nf k10 t10 hs10 hf10
          have eb10 := k10 _ _ eb9 (by simp [nba, nbf])
          have i11 := i10.side (ys := bws ++ [r]) na nc nf hbl0 nbl eb10
          refine ⟨bl, _, _, rfl, rfl, eb10, by omega, bws ++ [r], bs ++ [b2], _, A10, rfl, i11, t9.trans (t10.trans (tk_lst eb10)), upd_same, ?_, ?_, ?_, ?_, by rw [List.length_append, ln9]; rfl, ?_⟩
          · rw [List.map_append]
            exact ((bd9.tk t10).append (.cons bd10 .nil)).tk (tk_lst eb10)
          · rw [wfBs_append, wf9]; simp only [wfBs, go10.wf]; rfl
          · have := go10.dep; rw [depBs_append]; simp only [depBs]; omega
          · rw [nrBs_append, nr9]; simp only [nrBs, go10.nr rfl]; rfl
          · rw [Nat.add_mul]; omega
        · rintro σ H9 ⟨bws, bs, v14, A9, rfl, i9, t9, eb9, bd9, wf9, dp9, nr9, ln9, hA9⟩
          have e2 : ((2 : Int) + (mm : Int)).toNat = 2 + mm := by omega
          have ln9 : bs.length = 2 + mm := by rw [ln9]; exact e2
          have hA9 : A9 ≤ A' + 12 + (2 + mm) * kD d' := by rw [← e2]; exact hA9
          have mk : (2 + mm) * kD d' ≤ 3 * kD d' := Nat.mul_le_mul_right _ (by omega)
          refine ⟨_, rfl, .inl ⟨rfl, _, SqL.of i9.hm⟩, _, rfl, bl, _, rfl, .inl ⟨SqL.of eb9, fun r hr => ⟨by show 2 ≤ sizeLine; decide, fun tp htp => ?_⟩⟩⟩
          have s10 := same_new hr (.tup bws)
          have s11 := same_new htp (.tup [.str "choose", .ref r])
          have s12 := s10.trans s11
          have i12 := i9.same s12
          have d12 : Dat K (upd (upd H9 r (.tup bws)) tp (.tup [.str "choose", .ref r])) (.ref tp) (stmD (.cho bs)) := .tup (SqT.of upd_same) (.cons (.str _) (.cons (bodDs_of (SqT.of (s11 _ _ upd_same)) (bd9.tk (tk_same s12))) .nil))
          have tt : Tk H' (upd (upd (upd H9 r (.tup bws)) tp (.tup [.str "choose", .ref r])) lm (.lst (ws ++ [.ref tp]))) := t7.trans (t8.trans (t9.trans ((tk_same s12).trans (tk_lst i12.hm))))
          refine ⟨lm, _, _, rfl, rfl, i12.hm, by omega, rest2 _ _ ⟨lm, _, [.cho bs], part, px, A9, _, _, _, _, _, _, _, _, _, rfl, i12.app na nc nf d12, .one ?_ (by simp only [depS]; omega) (by simp only [nrS]; exact nr9), pd6.tk tt, pl, by omega, rd6.tk tt, by omega⟩⟩
          simp only [wfS, Bool.and_eq_true]
          exact ⟨decide_eq_true (by omega), decide_eq_true (by omega), wf9⟩
      refine ⟨_, rfl, .inl ⟨rfl, _, rfl, ite2 (fun e => ?_) (fun ne1 => ?_)⟩⟩
      · have e := of_decide_eq_true e
        injection e with e
        obtain ⟨d', rfl⟩ : ∃ d', d = d' + 1 := ⟨d - 1, by have := hpd (by omega); omega⟩
        have tdd : tD (d' + 1) = 50 + 3 * kD d' := rfl
        have kp200 := kD_pos d'
        refine ⟨Nat.zero_le _, fun ep hep => ⟨_, rfl, .inl ⟨rfl, _, SqL.of ((same_new hep _) _ _ hm6)⟩, _, rfl, _, rfl, _, rfl, _, rfl, _, rfl, _, rfl, _, _, rfl, rfl, Nat.zero_le _, fun eq heq => ?_⟩⟩
        have s7 := same_new hep (.tup [])
        have s8 := same_new heq (.tup [])
        have i8 := i6.same (s7.trans s8)
        have g8 := stp i8
        refine ⟨a, c, al, ah, an, af, L, Hd, d', A5, .ref eq, [], false, hvs d' _, g8, by omega, by omega, by omega, .tup (SqT.of upd_same) .nil, (fun x hx => by cases hx), by simp, fun r H9 b2 A9 k9 t9 hs9 hf9 hA9 bd9 go9 => ⟨by show 2 ≤ sizeLine; decide, fun tp htp => ?_⟩⟩
        have i9 := i8.call na nf k9 t9 hs9 hf9
        have s10 := same_new htp (.tup [.str "loop", r])
        have i10 := i9.same s10
        have d10 : Dat K (upd H9 tp (.tup [.str "loop", r])) (.ref tp) (stmD (.loop b2)) := .tup (SqT.of upd_same) (.cons (.str _) (.cons (bd9.tk (tk_same s10)) .nil))
        have tu := (tk_same s10).trans (tk_lst (o' := .lst (ws ++ [.ref tp])) i10.hm)
        have de := go9.dep
        refine ⟨lm, _, _, rfl, rfl, i10.hm, by omega, rest2 _ _ ⟨lm, _, [.loop b2], .ref ep, [], A9, _, _, _, _, _, _, _, _, _, rfl, i10.app na nc nf d10, .one (by simp only [wfS]; exact go9.wf) (by simp only [depS]; omega) (by simp only [nrS]; exact go9.nr rfl), ?_, (fun x hx => by cases hx), by simp, rd6.tk ((tk_same (s7.trans s8)).trans (t9.trans tu)), by omega⟩⟩
        exact .tup ((tk_same s8 |>.trans (t9.trans tu)).seq (SqT.of upd_same)) .nil
      refine ⟨_, rfl, .inl ⟨rfl, _, rfl, ite2 (fun e => ?_) (fun ne2 => ?_)⟩⟩
      · have e := of_decide_eq_true e
        injection e with e
        obtain ⟨d', rfl⟩ : ∃ d', d = d' + 1 := ⟨d - 1, by have := hpd (by omega); omega⟩
        have tdd : tD (d' + 1) = 50 + 3 * kD d' := rfl
        have kp200 := kD_pos d'
        refine ⟨_, rfl, _, rfl, _, _, rfl, .inl ⟨_, SqL.of g6.hl, rfl⟩, a, c, (L.map V.str).length, 2, A5, rfl, i6.src, by rw [List.length_map]; exact g.L1, by rw [List.length_map]; exact g.L20, by decide, by omega, fun fv H7 fx A7 k7 t7 hs7 hA7 fd fl fn => ?_⟩
        rw [List.length_map] at fl
        have i7 := i6.draw na nf naf k7 t7 hs7
        have g7 := stp i7
        refine ⟨_, rfl, _, rfl, _, rfl, _, rfl, _, rfl, _, rfl, _, _, rfl, rfl, _, rfl, a, c, al, ah, an, af, L, Hd, d', A7, fv, fx, false, hvs d' _, g7, by omega, by omega, by omega, fd, fl, by omega, fun r H8 b2 A8 k8 t8 hs8 hf8 hA8 bd8 go8 => ?_⟩
        have i8 := i7.call na nf k8 t8 hs8 hf8
        refine ⟨_, rfl, fv, fx, rfl, fd.tk t8, by omega, fun H9 r9 s9 d9 => ⟨_, rfl, radd_ints d9 (pd6.tk (t7.trans (t8.trans (tk_same s9)))) (by simp; omega) fun r10 H10 s10 d10 => ?_⟩⟩
        obtain ⟨a10, rfl, q10⟩ := dat_ints_get d10
        refine ⟨a10, _, rfl, .inl q10, by simp; omega, fun H11 r11 ys s11 d11 m11 n11 => ?_⟩
        have s12 := s9.trans (s10.trans s11)
        have i11 := i8.same s12
        have g11 := stp i11
        rw [List.length_append, List.length_map, List.length_reverse] at n11
        refine ⟨_, rfl, .inl ⟨rfl, _, SqL.of i11.hm⟩, _, rfl, _, rfl, _, rfl, _, rfl, _, rfl, _, rfl, _, rfl, _, _, rfl, rfl, _, rfl, a, c, al, ah, an, af, L, Hd, d', A8, r11, ys, false, hvs d' _, g11, by omega, by omega, by omega, d11, (fl.opp.append pl).sub m11, by omega, fun r13 H13 b3 A13 k13 t13 hs13 hf13 hA13 bd13 go13 => ⟨by show 3 ≤ sizeLine; decide, fun tp htp => ?_⟩⟩
        have i13 := i11.call na nf k13 t13 hs13 hf13
        have s14 := same_new htp (.tup [.str "ensure", r, r13])
        have i14 := i13.same s14
        have d14 : Dat K (upd H13 tp (.tup [.str "ensure", r, r13])) (.ref tp) (stmD (.ens b2 b3)) := .tup (SqT.of upd_same) (.cons (.str _) (.cons (bd8.tk ((tk_same s12).trans (t13.trans (tk_same s14)))) (.cons (bd13.tk (tk_same s14)) .nil)))
        have tu := t7.trans (t8.trans ((tk_same s12).trans (t13.trans ((tk_same s14).trans (tk_lst (o' := .lst (ws ++ [.ref tp])) i14.hm)))))
        have de := go8.dep
        have de2 := go13.dep
        refine ⟨lm, _, _, rfl, rfl, i14.hm, by omega, rest2 _ _ ⟨lm, _, [.ens b2 b3], part, px, A13, _, _, _, _, _, _, _, _, _, rfl, i14.app na nc nf d14, .one (by simp only [wfS, go8.wf, go13.wf, go13.nr rfl]; rfl) (by simp only [depS]; omega) (by simp only [nrS, go8.nr rfl, go13.nr rfl]; rfl), pd6.tk tu, pl, by omega, rd6.tk tu, by omega⟩⟩
      have tdp : 50 ≤ tD d := by cases d <;> simp only [tD] <;> omega
      refine ⟨_, rfl, .inl ⟨rfl, _, rfl, ite2 (fun e => ?_) (fun ne3 => ?_)⟩⟩
      · refine ⟨_, rfl, _, rfl, _, _, rfl, .inl ⟨_, SqL.of g6.hh, rfl⟩, a, c, _, A5, rfl, i6.src, by rw [List.length_map]; have := g.H1; omega, by rw [List.length_map]; have := g.H40; omega, by omega, fun k H7 hk k7 t7 hs7 => ?_⟩
        have hk : k < Hd.length := by
          rw [List.length_map] at hk; omega
        have i7 := i6.draw na nf naf k7 t7 hs7
        have g7 := stp i7
        obtain ⟨nvs, en, ln, hx⟩ := g7.hn
        have ek : nvs[k]? = some nvs[k] := List.getElem?_eq_getElem (by omega)
        obtain ⟨px2, pd2, pl2, pn2⟩ := hx k _ ek
        have e2 : (Hd.map V.str)[k]? = some (.str Hd[k]) := by rw [List.getElem?_map, List.getElem?_eq_getElem hk]; rfl
        refine ⟨_, rfl, _, rfl, .inl ⟨an, _, (k : Int), _, rfl, rfl, SqL.of en, atI_nat ek, ?_⟩⟩
        refine ⟨_, rfl, .inl ⟨rfl, _, SqL.of i7.hm⟩, _, rfl, _, rfl, .inl ⟨ah, _, (k : Int), _, rfl, rfl, SqL.of g7.hh, atI_nat e2, by show 2 ≤ sizeLine; decide, fun tp htp => ?_⟩⟩
        have s8 := same_new htp (.tup [.str "call", .str Hd[k]])
        have i8 := i7.same s8
        have d8 : Dat K (upd H7 tp (.tup [.str "call", .str Hd[k]])) (.ref tp) (stmD (.call Hd[k])) := .tup (SqT.of upd_same) (.cons (.str _) (.cons (.str _) .nil))
        have tu := (tk_same s8).trans (tk_lst (o' := .lst (ws ++ [.ref tp])) i8.hm)
        exact ⟨lm, _, _, rfl, rfl, i8.hm, by omega, rest2 _ _ ⟨lm, _, [.call Hd[k]], nvs[k], px2, A5 + 1, _, _, _, _, _, _, _, _, _, rfl, i8.app na nc nf d8, .one (decide_eq_true (List.getElem_mem hk)) (by simp only [depS]; omega) rfl, pd2.tk tu, pl2, pn2, rd6.tk (t7.trans tu), by omega⟩⟩
      refine ⟨_, rfl, .inl ⟨rfl, _, rfl, ite2 (fun e => ⟨_, rfl, _, rfl, ite2 (fun ht => ?_) (fun hf => ?_)⟩) (fun ne4 => iteF ?_)⟩⟩
      · refine ⟨_, rfl, _, rfl, _, _, rfl, .inl ⟨_, SqL.of g6.hl, rfl⟩, a, c, (L.map V.str).length, 2, A5, rfl, i6.src, by rw [List.length_map]; exact g.L1, by rw [List.length_map]; exact g.L20, by decide, by omega, fun sv H7 sx A7 k7 t7 hs7 hA7 sd sl sn => ?_⟩
        rw [List.length_map] at sl
        have i7 := i6.draw na nf naf k7 t7 hs7
        refine ⟨_, rfl, _, rfl, _, rfl, _, rfl, sv, sx, rfl, sd, by omega, fun H8 r8 s8 d8 => radd_ints (rd6.tk (t7.trans (tk_same s8))) d8 (by simp; omega) fun r9 H9 s9 d9 => ?_⟩
        obtain ⟨a9, rfl, q9⟩ := dat_ints_get d9
        refine ⟨a9, _, rfl, .inl q9, by simp; omega, fun H10 r10 ys s10 d10 m10 n10 => ?_⟩
        rw [List.length_append, List.length_map, List.length_reverse] at n10
        have s7 := s8.trans (s9.trans s10)
        have i10 := i7.same s7
        have g10 := stp i10
        refine ⟨a, c, al, L, r10, ys, A7, rfl, i10.src, g10.hl, g.L1, g.L20, d10, (rl.append sl.opp).sub m10, by omega, by omega, fun r11 H11 ws11 b11 A11 k11 t11 hs11 hA11 n11 e11 d11 ac11 l11 => ?_⟩
        have i11 := i10.draw na nf naf k11 t11 hs11
        have lw11 := d11.length
        rw [List.length_map] at lw11
        refine ⟨by show 1 ≤ sizeLine; decide, fun rp hrp => ⟨by show 1 ≤ sizeLine; decide, fun rw_ hrw => ?_⟩⟩
        have s12 := same_new hrp (.tup [.str "return"])
        have s13 := same_new hrw (.lst [.ref rp])
        refine .inr (.inr (.inl ⟨r11, rw_, _, _, rfl, rfl, s13 _ _ (s12 _ _ e11), upd_same, by simp; omega, fun po hpo => ?_⟩))
        have s14 := same_new hpo (.lst (ws11 ++ [.ref rp]))
        have s1214 := s12.trans (s13.trans s14)
        have i14 := i11.same s1214
        have dout : Dats K (upd (upd (upd H11 rp (.tup [.str "return"])) rw_ (.lst [.ref rp])) po (.lst (ws11 ++ [.ref rp]))) (ws11 ++ [.ref rp]) ((b11 ++ [Stm.ret]).map stmD) := by
          rw [List.map_append]
          exact (d11.tk (tk_same s1214)).append (.cons (.tup (SqT.of (s14 _ _ (s13 _ _ upd_same))) (.cons (.str _) .nil)) .nil)
        have epo : (upd (upd (upd H11 rp (.tup [.str "return"])) rw_ (.lst [.ref rp])) po (.lst (ws11 ++ [.ref rp]))) po = some (.lst (ws11 ++ [.ref rp])) := upd_same
        have npo := i14.src.na (x := po)
        have npa : po ≠ a := fun e => na (by rw [← e]; exact (i11.same (s12.trans s13)).none' hpo)
        have t14 : Tk H7 (upd (upd (upd H11 rp (.tup [.str "return"])) rw_ (.lst [.ref rp])) po (.lst (ws11 ++ [.ref rp]))) := (tk_same s7).trans (t11.trans (tk_same s1214))
        generalize upd (upd (upd H11 rp (.tup [.str "return"])) rw_ (.lst [.ref rp])) po (.lst (ws11 ++ [.ref rp])) = H14 at i14 dout epo t14
        have sd14 := sd.tk t14
        refine ⟨_, rfl, _, rfl, _, rfl, _, rfl, sv, sx, rfl, sd14, by omega, fun H15 r15 s15 d15 => radd_ints (pd6.tk (t7.trans (t14.trans (tk_same s15)))) d15 (by simp; omega) fun r16 H16 s16 d16 => ?_⟩
        obtain ⟨a16, rfl, q16⟩ := dat_ints_get d16
        refine ⟨a16, _, rfl, .inl q16, by simp; omega, fun H17 r17 zs s17 d17 m17 n17 => ?_⟩
        rw [List.length_append, List.length_map, List.length_reverse] at n17
        have s1517 := s15.trans (s16.trans s17)
        have i17 := i14.same s1517
        have g17 := stp i17
        refine ⟨a, c, al, L, r17, zs, A11, rfl, i17.src, g17.hl, g.L1, g.L20, d17, (pl.append sl.opp).sub m17, by omega, by omega, fun r18 H18 ws18 b18 A18 k18 t18 hs18 hA18 n18 e18 d18 ac18 l18 => ?_⟩
        have i18 := i17.draw na nf naf k18 t18 hs18
        have lw18 := d18.length
        rw [List.length_map] at lw18
        have epo18 := k18 _ _ (s1517 _ _ epo) (by simpa using npa)
        have dout18 := dout.tk ((tk_same s1517).trans t18)
        have t1418 : Tk H14 H18 := (tk_same s1517).trans t18
        have sd18 := sd14.tk t1418
        refine ⟨_, rfl, _, rfl, _, rfl, r18, _, rfl, SqL.of e18, fun ps hps => ?_⟩
        have s19 := same_new hps (.lst (cutV ws18 none (some 1)))
        have ecut : cutV ws18 none (some 1) = ws18.take 1 := cutV_take ws18 1
        have lcut : (cutV ws18 none (some 1)).length ≤ 1 := by rw [ecut, List.length_take]; omega
        refine .inr (.inr (.inl ⟨po, ps, _, _, rfl, rfl, s19 _ _ epo18, upd_same, by simp; omega, fun pw hpw => ?_⟩))
        have s20 := same_new hpw (.lst ((ws11 ++ [.ref rp]) ++ cutV ws18 none (some 1)))
        refine ⟨pw, _, rfl, .inl ⟨SqL.of upd_same, fun pt hpt => ?_⟩⟩
        have s21 := same_new hpt (.tup ((ws11 ++ [.ref rp]) ++ cutV ws18 none (some 1)))
        refine ⟨_, rfl, r18, _, rfl, .inl ⟨SqL.of (s21 _ _ (s20 _ _ (s19 _ _ e18))), fun pt2 hpt2 => ⟨by show 2 ≤ sizeLine; decide, fun py hpy => ?_⟩⟩⟩
        have s22 := same_new hpt2 (.tup ws18)
        have s23 := same_new hpy (.tup [.ref pt, .ref pt2])
        have s1923 := s19.trans (s20.trans (s21.trans (s22.trans s23)))
        have i23 := i18.same s1923
        refine ⟨_, rfl, .inl ⟨rfl, _, SqL.of i23.hm⟩, _, rfl, by show 2 ≤ sizeLine; decide, fun pc hpc => ⟨by show 1 ≤ sizeLine; decide, fun pb hpb => ?_⟩⟩
        have s24 := same_new hpc (.tup [.str "choose", .ref py])
        have s25 := same_new hpb (.tup [.ref pc])
        have s2425 := s24.trans s25
        have i25 := i23.same s2425
        have g25 := stp i25
        have s1925 := s1923.trans s2425
        refine ⟨_, rfl, _, rfl, _, rfl, a, c, al, L, sv, sx, A18, rfl, i25.src, g25.hl, g.L1, g.L20, sd18.tk (tk_same s1925), sl, by omega, by omega, fun r26 H26 ws26 b26 A26 k26 t26 hs26 hA26 n26 e26 d26 ac26 l26 => ?_⟩
        have i26 := i25.draw na nf naf k26 t26 hs26
        refine ⟨r26, _, rfl, .inl ⟨SqL.of e26, fun pe hpe => ⟨by show 3 ≤ sizeLine; decide, fun pf hpf => ?_⟩⟩⟩
        have s27 := same_new hpe (.tup ws26)
        have s28 := same_new hpf (.tup [.str "ensure", .ref pb, .ref pe])
        have i28 := i26.same (s27.trans s28)
        have tf := t26.trans (tk_same (s27.trans s28))
        have x1 : Dat K (upd (upd H26 pe (.tup ws26)) pf (.tup [.str "ensure", .ref pb, .ref pe])) (.ref pt) (bodD (b11 ++ [.ret] ++ b18.take 1)) := by
          refine bodD_of (ws := (ws11 ++ [.ref rp]) ++ cutV ws18 none (some 1)) (((tk_same (s22.trans (s23.trans s2425))).trans tf).seq (SqT.of upd_same)) ?_
          rw [ecut, List.map_append, List.map_take]
          exact (dout18.tk ((tk_same s1925).trans tf)).append ((d18.tk ((tk_same s1925).trans tf)).take 1)
        have x2 : Dat K (upd (upd H26 pe (.tup ws26)) pf (.tup [.str "ensure", .ref pb, .ref pe])) (.ref pt2) (bodD b18) := bodD_of (((tk_same (s23.trans s2425)).trans tf).seq (SqT.of upd_same)) (d18.tk ((tk_same s1925).trans tf))
        have x3 : Dat K (upd (upd H26 pe (.tup ws26)) pf (.tup [.str "ensure", .ref pb, .ref pe])) (.ref py) (.tuple (bodDs [b11 ++ [.ret] ++ b18.take 1, b18])) := bodDs_of (((tk_same s2425).trans tf).seq (SqT.of upd_same)) (.cons x1 (.cons x2 .nil))
        have x4 : Dat K (upd (upd H26 pe (.tup ws26)) pf (.tup [.str "ensure", .ref pb, .ref pe])) (.ref pb) (bodD [.cho [b11 ++ [.ret] ++ b18.take 1, b18]]) := bodD_of (tf.seq (SqT.of upd_same)) (.cons (.tup (((tk_same s25).trans tf).seq (SqT.of upd_same)) (.cons (.str _) (.cons x3 .nil))) .nil)
        have x5 : Dat K (upd (upd H26 pe (.tup ws26)) pf (.tup [.str "ensure", .ref pb, .ref pe])) (.ref pe) (bodD b26) := bodD_of (SqT.of (s28 _ _ upd_same)) (d26.tk (tk_same (s27.trans s28)))
        have x6 : Dat K (upd (upd H26 pe (.tup ws26)) pf (.tup [.str "ensure", .ref pb, .ref pe])) (.ref pf) (stmD (.ens [.cho [b11 ++ [.ret] ++ b18.take 1, b18]] b26)) := .tup (SqT.of upd_same) (.cons (.str _) (.cons x4 (.cons x5 .nil)))
        have tt : Tk H' (upd (upd (upd H26 pe (.tup ws26)) pf (.tup [.str "ensure", .ref pb, .ref pe])) lm (.lst (ws ++ [.ref pf]))) := t7.trans (t14.trans (t1418.trans ((tk_same s1925).trans (tf.trans (tk_lst i28.hm)))))
        exact ⟨lm, _, _, rfl, rfl, i28.hm, by omega, rest2 _ _ ⟨lm, _, [.ens [.cho [b11 ++ [.ret] ++ b18.take 1, b18]] b26], part, px, A26, _, _, _, _, _, _, _, _, _, rfl, i28.app na nc nf x6, .four ht ac11 ac18 ac26 (by omega), pd6.tk tt, pl, by omega, rd6.tk tt, by omega⟩⟩
      all_goals
        refine ⟨_, rfl, _, rfl, _, rfl, _, rfl, a, c, al, L, part, px, A5, rfl, i6.src, g6.hl, g.L1, g.L20, pd6, pl, by omega, by omega, fun r7 H7 ws7 b7 A7 k7 t7 hs7 hA7 n7 e7 d7 ac7 l7 => ?_⟩
        have i7 := i6.draw na nf naf k7 t7 hs7
        have lw7 := d7.length
        rw [List.length_map] at lw7
        refine .inr (.inr (.inl ⟨lm, r7, _, _, rfl, rfl, i7.hm, e7, by omega, fun p hp => ?_⟩))
        have tn := tk_same (same_new hp (.lst (ws ++ ws7)))
        exact rest2 _ _ ⟨p, _, b7, part, px, A7, _, _, _, _, _, _, _, _, _, rfl, i7.cat hp d7, ac7.kgo (by omega), pd6.tk (t7.trans tn), pl, by omega, rd6.tk (t7.trans tn), by omega⟩
    refine ⟨_, rfl, _, _, rfl, rfl, _, rfl, ite2 (fun h3 => ?_) (fun h3 => ?_)⟩
    · refine ⟨_, rfl, .inl ⟨rfl, _, rfl, ite2 (fun hd => ?_) (fun hd => ?_)⟩⟩
      · exact iteT (rest _ _ ⟨6, rfl, rfl, fun h => by omega⟩)
      · have d1 : 1 ≤ d := by
          by_cases e : d = 0
          · exact absurd (by rw [e]; rfl) hd
          · omega
        exact ⟨_, rfl, .inl ⟨af, _, 0, _, rfl, rfl, SqL.of e6, atI_nat (j := 0) rfl, _, _, rfl, rfl, _, rfl, ite2 (fun _ => rest _ _ ⟨6, rfl, rfl, fun h => by omega⟩) (fun _ => rest _ _ ⟨pk, rfl, rfl, fun _ => d1⟩)⟩⟩
    · refine iteF (rest _ _ ⟨pk, rfl, rfl, fun h => absurd (decide_eq_true (by omega)) h3⟩)
  · rintro σ H3 ⟨lm, ws, b, rv, rx, A', v10, v11, v12, v13, v14, v15, v16, v17, v18, v19, v20, rfl, k3, go, rd, rl, rn, hA'⟩
    rw [Int.toNat_natCast] at go rn hA'
    have ti : t * tD d ≤ 3 * tD d := Nat.mul_le_mul_right _ (by omega)
    have l30 := go.len
    have lws := k3.md.length
    rw [List.length_map] at lws
    have g3 := stp k3
    have r16 : rx.length ≤ 16 := by omega
    refine ⟨_, rfl, _, rfl, _, rfl, _, rfl, a, c, al, L, rv, rx, A', rfl, k3.src, g3.hl, g.L1, g.L20, rd, rl, by omega, by omega, fun r4 H4 ws4 b4 A4 k4 t4 hs4 hA4 n4 e4 d4 ac4 l4 => ?_⟩
    have i4 := k3.draw na nf naf k4 t4 hs4
    have lw4 := d4.length
    rw [List.length_map] at lw4
    refine .inr (.inr (.inl ⟨lm, r4, _, _, rfl, rfl, i4.hm, e4, by omega, fun p hp => ?_⟩))
    have i5 := i4.cat hp d4
    have go5 := go.add (ac4.kgo (Hd := Hd) (d := d) (tl := tl) (i := 2) (by omega))
    generalize upd H4 p (.lst (ws ++ ws4)) = H5 at i5
    have g5 := stp i5
    dsimp only [gName]
    refine tif_cut (fun σ' H' => ∃ (lm : Addr) (ws : List V) (b : Bod) (A' : Nat) (v9 v10 v11 v12 v13 v14 v15 v16 v17 v18 v19 v20 : Option V), σ' = [some (.ref a), some (.ref al), some (.ref ah), some (.ref an), some (.ref af), some (.int d), some wv, some (.bl tl), some (.ref lm), v9, v10, v11, v12, v13, v14, v15, v16, v17, v18, v19, v20] ∧ KIn K a c af lm H H' ws b A' ∧ KGo L Hd d tl 8 b ∧ A' ≤ B + kD d) ?rest fun rest => ?_
    case rest =>
      rintro σ' H' ⟨lm, ws, b, A', v9, v10, v11, v12, v13, v14, v15, v16, v17, v18, v19, v20, rfl, k6, go6, hA6⟩
      refine ⟨_, rfl, lm, _, rfl, .inl ⟨SqL.of k6.hm, fun r hr => ?_⟩⟩
      have i7 := k6.same (same_new hr (.tup ws))
      exact q (.ref r) _ b A' i7.kp i7.tk i7.src i7.hf hA6 (bodD_of (SqT.of upd_same) i7.md) go6
    have i5b := i5
    refine ⟨_, rfl, _, rfl, ite2 (fun htl => ?_) (fun htl => iteF (rest _ _ ⟨p, _, _, A4, _, _, _, _, _, _, _, _, _, _, _, _, rfl, i5, go5.mono (by omega), by omega⟩))⟩
    refine ⟨_, rfl, a, c, 4, A4, rfl, i5.src, by decide, by decide, by omega, fun m6 H6 hm6 k6 t6 hs6 => .inl ⟨rfl, _, rfl, ite2 (fun _ => ?_) (fun _ => ?_)⟩⟩
    · have i6 := i5.draw na nf naf k6 t6 hs6
      refine ⟨_, rfl, by show 1 ≤ sizeLine; decide, fun tp htp => ⟨by show 1 ≤ sizeLine; decide, fun rl_ hrl => ?_⟩⟩
      have s7 := same_new htp (.tup [.str "return"])
      have s8 := same_new hrl (.lst [.ref tp])
      have i8 := i6.same (s7.trans s8)
      have l5 := go5.len
      have lm5 := i8.md.length
      rw [List.length_map] at lm5
      refine .inr (.inr (.inl ⟨p, rl_, _, _, rfl, rfl, i8.hm, upd_same, by simp at lm5 ⊢; omega, fun p2 hp2 => ?_⟩))
      have i9 := i8.cat (b2 := [.ret]) hp2 (.cons (.tup (SqT.of (s8 _ _ upd_same)) (.cons (.str _) .nil)) .nil)
      have go9 := go5.add (j := 1) (b2 := [.ret]) ⟨rfl, by simp [depB, depS], (fun e => by rw [e] at htl; cases htl), by simp [p2B, p2S], by simp⟩
      have g9 := stp i9
      refine ⟨_, rfl, _, rfl, _, rfl, _, rfl, _, _, rfl, .inl ⟨_, SqL.of g9.hl, rfl⟩, a, c, (L.map V.str).length, 2, A4 + 1, rfl, i9.src, by rw [List.length_map]; exact g.L1, by rw [List.length_map]; exact g.L20, by decide, by omega, fun wv2 H10 wx A10 k10 t10 hs10 hA10 wd2 wl2 wn2 => ?_⟩
      rw [List.length_map] at wl2
      have i10 := i9.draw na nf naf k10 t10 hs10
      have g10 := stp i10
      refine ⟨a, c, al, L, wv2, wx, A10, rfl, i10.src, g10.hl, g.L1, g.L20, wd2, wl2, by omega, by omega, fun r11 H11 ws11 b11 A11 k11 t11 hs11 hA11 n11 e11 d11 ac11 l11 => ?_⟩
      have i11 := i10.draw na nf naf k11 t11 hs11
      have lw11 := d11.length
      rw [List.length_map] at lw11
      have l9 := go9.len
      have lm9 := i11.md.length
      rw [List.length_map] at lm9
      refine .inr (.inr (.inl ⟨p2, r11, _, _, rfl, rfl, i11.hm, e11, by omega, fun p3 hp3 => ?_⟩))
      exact rest _ _ ⟨p3, _, _, A11, _, _, _, _, _, _, _, _, _, _, _, _, rfl, i11.cat hp3 d11, (go9.add (ac11.kgo (i := 1) (by omega))).mono (by omega), by omega⟩
    · exact rest _ _ ⟨p, _, _, A4 + 1, _, _, _, _, _, _, _, _, _, _, _, _, rfl, i5.draw na nf naf k6 t6 hs6, go5.mono (by omega), by omega⟩
theorem all_Lkept (T : Tp K mg) (F : Std K "_law_kept" "_law_kept" s_Lkept (He.ga K "_law_kept")) (D_Ldraw : Dn P w K mg base 1 (He.ga K "_law_draw") ["source", "many"] (spDraw K))
    (D_Lword : Dn P w K mg base 2 (He.ga K "_law_word") ["source", "many", "most"] (spWord K)) (D_Lnet : Dn P w K mg base 1 (He.ga K "_law_net") ["letters"] (spNet K))
    (D_Lopposite : Dn P w K mg base 1 (He.ga K "_law_opposite") ["letters"] (spOpp K)) (D_Lstraight : Dn P w K mg base 2 (He.ga K "_law_straight") ["source", "letters", "word"] (spStraight K)) :
    ∀ n : Nat, Dn P w K mg base (n + 2) (He.ga K "_law_kept") ["source", "letters", "heads", "nets", "left", "deep", "word", "tail"] (spKept K n)
  | 0 => (dn_no F
    (fun _ _ _ _ _ _ us hl => match us, hl with | [_, _, _, _, _, _, _, _], _ => rfl)
    (fun vs H Q E h => by obtain ⟨a, c, al, ah, an, af, L, Hd, d, B, wv, xs, tl, _, _, h, _⟩ := h; omega)).mono (by omega)
  | n + 1 => ok_Lkept n T F D_Ldraw D_Lword D_Lnet D_Lopposite D_Lstraight (all_Lkept T F D_Ldraw D_Lword D_Lnet D_Lopposite D_Lstraight n)
end
end PK

set_option linter.all false
set_option Elab.async false
set_option maxRecDepth 100000
set_option maxHeartbeats 4000000
/-! KNx: kept programs. -/
namespace PK
open PySem PySem.Spec PyProof.Rows L2
mutual
theorem pl_p2S : ∀ (s : Stm) (x y : Nat), x ≤ y → plS x s ≤ p2S y s
  | .act _ _, _, _, _ => by simp only [plS, p2S]; omega
  | .call _, _, _, _ => by simp only [plS, p2S]; omega
  | .cho bs, x, y, h => by have := pl_p2Bs bs x y h; simp only [plS, p2S]; omega
  | .loop b, x, y, h => by have := pl_p2B b x y h; simp only [plS, p2S]; omega
  | .ret, _, _, h => h
  | .ens b s, x, y, h => by
    have h1 := pl_p2B s 0 0 (Nat.le_refl _)
    have := pl_p2B b (x + plB 0 s) (y + p2B 0 s) (by omega)
    simp only [plS, p2S]; omega
theorem pl_p2B : ∀ (b : List Stm) (x y : Nat), x ≤ y → plB x b ≤ p2B y b
  | [], _, _, _ => Nat.le_refl _
  | s :: r, x, y, h => by
    have := pl_p2S s x y h
    have := pl_p2B r x y h
    simp only [plB, p2B]; omega
theorem pl_p2Bs : ∀ (b : List (List Stm)) (x y : Nat), x ≤ y → plBs x b ≤ p2Bs y b
  | [], _, _, _ => Nat.le_refl _
  | s :: r, x, y, h => by
    have := pl_p2B s x y h
    have := pl_p2Bs r x y h
    simp only [plBs, p2Bs]; omega
end
theorem p2Bs_append (rt : Nat) (a b : List Bod) : p2Bs rt (a ++ b) = p2Bs rt a + p2Bs rt b := by
  induction a with
  | nil => simp [p2Bs]
  | cons s r ih => simp only [List.cons_append, p2Bs, ih]; omega
/-- a program with room for one change -/
structure KProg (p : Prog) : Prop where
  l1 : 1 ≤ p.ls.length
  l2 : p.ls.length ≤ 20
  p1 : 1 ≤ p.ps.length
  p2 : p.ps.length ≤ 5
  nm : Nm p.ls p.heads
  dl : p.ls.Nodup
  dh : p.heads.Nodup
  wf : ∀ q ∈ p.ps, wfB p.ls p.heads q.2 = true
  dep : ∀ q ∈ p.ps, depB q.2 ≤ 11
  cnt : cntP p.ps ≤ 399
  pl : ∀ q ∈ p.ps, 1 + p2B 0 q.2 ≤ 300
theorem KProg.valid {p : Prog} (h : KProg p) : Valid p :=
  ⟨h.l1, h.l2, h.p1, by have := h.p2; omega, h.nm, h.dl, h.dh, h.wf, fun q hq => by have := h.dep q hq; omega, by have := h.cnt; omega, fun q hq => by have := h.pl q hq; have := pl_p2B q.2 0 0 (Nat.le_refl _); omega⟩
def spKProg (K : Fg) : Sp := fun vs H Q _ => ∃ (a c : Addr) (A : Nat), vs = [.ref a] ∧ SrcAt H a c A ∧ A ≤ 1000000000000000000 ∧
  ∀ (r : V) (H' : Hp) (p : Prog) (A' : Nat), Kp [a] H H' → Tk H H' → SrcAt H' a c A' → A' ≤ A + 1000000 → Dat K H' r (progD p) → KProg p → Q r H'
/-- a way of a kept procedure -/
structure WyOk (L P : List Str) (m k : Nat) (b : Bod) : Prop where
  wf : wfB L P b = true
  dep : depB b ≤ 6
  cnt : cntB b ≤ m
  p2 : p2B 0 b ≤ k
/-- the body that cannot end -/
def nevB (x y : Str) : Bod := [.act false x, .call "never0", .act true y]
theorem cutV_drop (xs : List V) (n : Nat) : cutV xs (some (n : Int)) none = xs.drop n := by
  unfold cutV
  rw [HT.sIx_none, HT.sIx_nat]
  by_cases h : n ≤ xs.length
  · rw [Nat.min_eq_left h]
    exact List.take_of_length_le (by rw [List.length_drop]; omega)
  · rw [Nat.min_eq_right (by omega), Nat.sub_self, List.take_zero, List.drop_eq_nil_of_le (by omega)]
theorem nev_wf {L P : List Str} {x y : Str} (hx : x ∈ L) (hy : y ∈ L) (hn : ("never0" : Str) ∈ P) : wfB L P (nevB x y) = true := by
  simp only [nevB, wfB, wfS, decide_eq_true hx, decide_eq_true hy, decide_eq_true hn]; rfl
theorem bodDs_rot {α : Type} (xs : List α) (n : Nat) : (xs.drop n ++ xs.take n).length = xs.length := by
  rw [List.length_append, List.length_drop, List.length_take]; omega
theorem wfBs_rot {L P : List Str} (bs : List Bod) (n : Nat) (h : wfBs L P bs = true) : wfBs L P (bs.drop n ++ bs.take n) = true := by
  have := wfBs_append (L := L) (P := P) (bs.take n) (bs.drop n)
  rw [List.take_append_drop, h] at this
  have := (Bool.and_eq_true _ _ ▸ this.symm : _ ∧ _)
  rw [wfBs_append, this.1, this.2]; rfl
theorem cnt_rot (bs : List Bod) (n : Nat) : cntBs (bs.drop n ++ bs.take n) = cntBs bs ∧ depBs (bs.drop n ++ bs.take n) = depBs bs ∧ p2Bs 0 (bs.drop n ++ bs.take n) = p2Bs 0 bs := by
  have e := List.take_append_drop n bs
  have h1 := cntBs_append (bs.take n) (bs.drop n)
  have h2 := depBs_append (bs.take n) (bs.drop n)
  have h3 := p2Bs_append 0 (bs.take n) (bs.drop n)
  rw [e] at h1 h2 h3
  refine ⟨?_, ?_, ?_⟩
  · rw [cntBs_append]; omega
  · rw [depBs_append]; omega
  · rw [p2Bs_append]; omega
section
variable {P : Program} {w : World} {K : Fg} {mg : Str → Option Value} {base : Heap}
theorem ok_Lkept_program (T : Tp K mg) (F : Std K "_law_kept_program" "_law_kept_program" s_Lkept_program (He.ga K "_law_kept_program")) (D_Ldraw : Dn P w K mg base 1 (He.ga K "_law_draw") ["source", "many"] (spDraw K))
    (D_Lnames : Dn P w K mg base 2 (He.ga K "_law_names") ["source", "many"] (spNames K)) (D_Lword : Dn P w K mg base 2 (He.ga K "_law_word") ["source", "many", "most"] (spWord K))
    (D_Lstraight : Dn P w K mg base 2 (He.ga K "_law_straight") ["source", "letters", "word"] (spStraight K)) (D_Lkept : Dn P w K mg base 6 (He.ga K "_law_kept") ["source", "letters", "heads", "nets", "left", "deep", "word", "tail"] (spKept K 4))
    (D_Lsize : Dn P w K mg base 12 (He.ga K "_law_size") ["body"] (spSize K 12)) : Dn P w K mg base 13 (He.ga K "_law_kept_program") ["source"] (spKProg K) := by
  refine dn_mk F sc_Lkept_program
    (fun _ _ _ _ _ _ us hl => match us, hl with | [_], _ => rfl)
    (fun vs H Q E h => ?_) fun cdv A outer s H vs Q E hr h => ?_
  · obtain ⟨a, c, B, rfl, _⟩ := h; rfl
  obtain ⟨a, c, B, rfl, hs, hB, q⟩ := h
  refine ⟨_, (pss_cons (ps_set (i := 1) sc_Lkept_program.nd rfl (Or.inr rfl) (pe_f D_Lnames (hr.mono (by omega)) T.g__law_names (pa_cons (pv 0) (pa_cons (pe_ix (ixK (K := K) rfl) (pe_lst (pa_cons pe_int (pa_cons pe_int (pa_cons pe_int (pa_cons pe_int pa_nil))))) (pe_f D_Ldraw (hr.mono (by omega)) T.g__law_draw (pa_cons (pv 0) (pa_cons pe_int pa_nil))) (fun _ _ => rfl)) pa_nil))))
    (pss_cons (ps_set (i := 2) sc_Lkept_program.nd rfl (Or.inl rfl) (pe_f D_Lnames (hr.mono (by omega)) T.g__law_names (pa_cons (pv 0) (pa_cons (pe_op (oAddK (K := K) rfl) pe_int (pe_f D_Ldraw (hr.mono (by omega)) T.g__law_draw (pa_cons (pv 0) (pa_cons pe_int pa_nil)))) pa_nil))))
    (pss_cons (ps_par3 (i := 4) (j := 5) (l := 6) (by rfl) sc_Lkept_program.nd rfl rfl rfl (by decide) (by decide) (by decide) rfl rfl rfl (pa_cons (pe_lc (own := [("head", 3)]) (tt := tYes) rfl sc_Lkept_program.nd (iLstK (K := K) rfl (pv 2)) (blkOk_by (N := N_Lkept_program) (sc := defScope s_Lkept_program) (own := [("head", 3)]) (by decide +kernel)) (fun _ _ _ _ _ => (pg_name (i := 3) sc_Lkept_program.nd rfl (Or.inl rfl))) (fun _ _ _ _ _ => pts_nil) (fun _ _ _ _ _ => (pe_f D_Lword (hr.mono (by omega)) T.g__law_word (pa_cons (pv 0) (pa_cons (pe_callB (cLenK (K := K) rfl) (by rfl) T.b_len PySem.boot_len (pa_cons (pv 1) pa_nil)) (pa_cons pe_int pa_nil)))))) (pa_cons (pe_lst pa_nil) (pa_cons (pe_lst pa_nil) pa_nil))) (by rfl))
    (pss_cons (ps_if (pt_cmpR (oEqK (K := K) rfl (hu64 hr)) (pe_f D_Ldraw (hr.mono (by omega)) T.g__law_draw (pa_cons (pv 0) (pa_cons pe_int pa_nil))) pe_int (nomark _)) (pss_one (ps_set (i := 6) sc_Lkept_program.nd rfl (Or.inl rfl) (pe_lst (pa_cons (pe_tup (pa_cons (pe_tup (pa_cons pe_str (pa_cons (pe_ix (ixK (K := K) rfl) (pv 1) pe_int (fun _ _ => rfl)) pa_nil))) (pa_cons (pe_tup (pa_cons pe_str (pa_cons pe_str pa_nil))) (pa_cons (pe_tup (pa_cons pe_str (pa_cons (pe_ix (ixK (K := K) rfl) (pv 1) (pe_un un_neg pe_int) (fun _ _ => rfl)) pa_nil))) pa_nil)))) pa_nil)))) pss_nil)
    (pss_cons (ps_for PassesOwn.never rfl (pi_range1 rfl T.b_range (pa_cons (pe_callB (cLenK (K := K) rfl) (by rfl) T.b_len PySem.boot_len (pa_cons (pv 2) pa_nil)) pa_nil)) (pg_name (i := 7) sc_Lkept_program.nd rfl (Or.inl rfl)) (pss_cons (ps_set (i := 8) sc_Lkept_program.nd rfl (Or.inl rfl) (pe_callTy (tupK (K := K) rfl) (by rfl) T.b_tuple (by decide +kernel) (pa_cons (pe_f D_Lstraight (hr.mono (by omega)) T.g__law_straight (pa_cons (pv 0) (pa_cons (pv 1) (pa_cons (pe_ix (ixK (K := K) rfl) (pv 4) (pv 7) (fun _ _ => rfl)) pa_nil)))) pa_nil)))
    (pss_cons (ps_set (i := 9) sc_Lkept_program.nd rfl (Or.inl rfl) (pe_f D_Lkept (hr.mono (by omega)) T.g__law_kept (pa_cons (pv 0) (pa_cons (pv 1) (pa_cons (pv 2) (pa_cons (pv 4) (pa_cons (pe_lst (pa_cons pe_int pa_nil)) (pa_cons (pe_op (oAddK (K := K) rfl) pe_int (pe_f D_Ldraw (hr.mono (by omega)) T.g__law_draw (pa_cons (pv 0) (pa_cons pe_int pa_nil)))) (pa_cons (pe_ix (ixK (K := K) rfl) (pv 4) (pv 7) (fun _ _ => rfl)) (pa_cons pe_bl pa_nil))))))))))
    (pss_cons (ps_if (pt_cmpR op_gt (pe_f D_Lsize (hr.mono (by omega)) T.g__law_size (pa_cons (pv 9) pa_nil)) pe_int (nomark _)) (pss_one (ps_set (i := 9) sc_Lkept_program.nd rfl (Or.inl rfl) (pv 8))) pss_nil)
    (pss_cons (ps_par (i := 10) (j := 11) (by rfl) sc_Lkept_program.nd rfl rfl (by decide) rfl rfl (pa_cons (pe_op (oAddK (K := K) rfl) (pe_lst (pa_cons (pv 8) (pa_cons (pv 9) pa_nil))) (pv 6)) (pa_cons (pe_f D_Ldraw (hr.mono (by omega)) T.g__law_draw (pa_cons (pv 0) (pa_cons pe_int pa_nil))) pa_nil)) (by rfl))
    (pss_one (ps_expr (pe_bm PySem.F.plainAttrs_list PySem.F.slot_list_append PySem.F.type_list_append mt_append (pv 5) (pa_cons (pe_tup (pa_cons (pe_ix (ixK (K := K) rfl) (pv 2) (pv 7) (fun _ _ => rfl)) (pa_cons (pe_tup (pa_cons (pe_tup (pa_cons pe_str (pa_cons (pe_callTy (tupK (K := K) rfl) (by rfl) T.b_tuple (by decide +kernel) (pa_cons (pe_op (oAddK (K := K) rfl) (pe_slice (slLstK (K := K) rfl) (pv 10) (po_some (pv 11)) po_none) (pe_slice (slLstK (K := K) rfl) (pv 10) po_none (po_some (pv 11)))) pa_nil)) pa_nil))) pa_nil)) pa_nil))) pa_nil)))))))))
    (pss_cons (ps_if (pt_cmpR (oNeNilL (K := K) rfl (hu64 hr)) (pv 6) (pe_lst pa_nil) (nomark _)) (pss_cons (ps_set (i := 12) sc_Lkept_program.nd rfl (Or.inl rfl) (pe_f D_Ldraw (hr.mono (by omega)) T.g__law_draw (pa_cons (pv 0) (pa_cons (pe_op (oAddK (K := K) rfl) (pe_callB (cLenK (K := K) rfl) (by rfl) T.b_len PySem.boot_len (pa_cons (pv 2) pa_nil)) pe_int) pa_nil))))
    (pss_one (ps_set (i := 5) sc_Lkept_program.nd rfl (Or.inl rfl) (pe_op (oAddK (K := K) rfl) (pe_op (oAddK (K := K) rfl) (pe_slice (slLstK (K := K) rfl) (pv 5) po_none (po_some (pv 12))) (pe_lst (pa_cons (pe_tup (pa_cons pe_str (pa_cons (pe_ix (ixK (K := K) rfl) (pv 6) pe_int (fun _ _ => rfl)) pa_nil))) pa_nil))) (pe_slice (slLstK (K := K) rfl) (pv 5) (po_some (pv 12)) po_none))))) pss_nil)
    (pss_one (ps_ret (pe_tup (pa_cons (pe_callTy (tupK (K := K) rfl) (by rfl) T.b_tuple (by decide +kernel) (pa_cons (pv 1) pa_nil)) (pa_cons (pe_callTy (tupK (K := K) rfl) (by rfl) T.b_tuple (by decide +kernel) (pa_cons (pv 5) pa_nil)) pa_nil))))))))))), ?_⟩
  have sz : 100000 < sizeLine := by decide
  have kd3 : ∀ d ≤ 3, kD d ≤ 164000 := by decide
  refine ⟨_, rfl, by show 4 ≤ sizeLine; decide, fun l1 hl1 => ?_⟩
  have s1 := same_new hl1 (.lst [.int 1, .int 2, .int 3, .int 20])
  refine ⟨_, rfl, a, c, 4, B, rfl, hs.same s1, by decide, by decide, by omega, fun i1 H2 hi1 k2 t2 hs2 => ?_⟩
  have e1 := k2 l1 _ upd_same (by simpa using (hs.na hl1).symm)
  obtain ⟨n1, en1, n11, n120⟩ : ∃ n : Nat, [V.int 1, V.int 2, V.int 3, V.int 20][i1]? = some (.int (n : Int)) ∧ 1 ≤ n ∧ n ≤ 20 := by
    have : i1 = 0 ∨ i1 = 1 ∨ i1 = 2 ∨ i1 = 3 := by omega
    rcases this with rfl | rfl | rfl | rfl
    · exact ⟨1, rfl, by decide, by decide⟩
    · exact ⟨2, rfl, by decide, by decide⟩
    · exact ⟨3, rfl, by decide, by decide⟩
    · exact ⟨20, rfl, by decide, by decide⟩
  refine .inl ⟨l1, _, (i1 : Int), _, rfl, rfl, SqL.of e1, atI_nat en1, a, c, n1, B + 1, rfl, hs2, by omega, by omega, fun si f al H3 hsi hf hal k3 t3 hs3 eal => ?_⟩
  rw [namesOf_str] at eal
  have lL := names_len si f n1
  have okL := names_ok (f := f) hsi (show n1 ≤ 40 by omega)
  have ndL := names_nodup (i := si) (f := f) (show n1 ≤ 40 by omega)
  generalize namesOf si f n1 = L at eal lL okL ndL
  have k03 : Kp [a] H H3 := (Kp.of s1).trans (k2.trans k3)
  have t03 : Tk H H3 := (tk_same s1).trans (t2.trans t3)
  refine ⟨_, rfl, _, rfl, a, c, 4, B + 1 + 2, rfl, hs3, by decide, by decide, by omega, fun i2 H5 hi2 k5 t5 hs5 => .inl ⟨_, _, rfl, rfl, ?_⟩⟩
  have hn2 : i2 < 4 := by omega
  have naL := names_ne_src eal (by omega) hs3
  have eal5 := k5 _ _ eal (by simpa using naL)
  refine ⟨a, c, 1 + i2, B + 1 + 2 + 1, ?_, hs5, by omega, by omega, fun sj g ah H6 hsj hg hah k6 t6 hs6 eah => ?_⟩
  · show [V.ref a, V.int (1 + (i2 : Int))] = _
    rw [show (1 : Int) + (i2 : Int) = ((1 + i2 : Nat) : Int) by omega]
  generalize hn : 1 + i2 = n2 at eah
  have n21 : 1 ≤ n2 := by omega
  have n24 : n2 ≤ 4 := by omega
  rw [namesOf_str] at eah
  have lH := names_len sj g n2
  have okH := names_ok (f := g) hsj (show n2 ≤ 40 by omega)
  have ndH := names_nodup (i := sj) (f := g) (show n2 ≤ 40 by omega)
  generalize namesOf sj g n2 = Hd at eah lH okH ndH
  have eal6 := k6 _ _ eal5 (by simpa using naL)
  have naH := names_ne_src eah (by omega) hs6
  have k06 : Kp [a] H H6 := k03.trans (k5.trans k6)
  have t06 : Tk H H6 := t03.trans (t5.trans t6)
  have lLm : (L.map V.str).length = n1 := by rw [List.length_map, lL]
  have lHm : (Hd.map V.str).length = n2 := by rw [List.length_map, lH]
  refine ⟨_, rfl, ah, rfl, ⟨_, SqL.of eah⟩, fun D nD => lc_acc walk_list [a] (fun j acc H' => ∃ A', SrcAt H' a c A' ∧ A' ≤ B + 10 + 10 * j ∧ acc.length = j ∧ ∀ (k : Nat) v, acc[k]? = some v → ∃ xs, Dat K H' v (intsD xs) ∧ LW L.length xs ∧ xs.length ≤ 4) nD (fun _ _ _ k _ _ => SqL.of (k _ _ eah (by simpa using naH))) (fun _ _ _ _ _ _ hD ⟨A', h1, h2, h3, h4⟩ => ⟨A', h1.kp (kp_upd (M := [D]) (by simp) _) (by simpa using hs6.na nD) (by simpa using hs6.nc nD), h2, h3, fun k v e => let ⟨xs, d, r⟩ := h4 k v e; ⟨xs, d.tk (tk_lst hD), r⟩⟩) ⟨B + 1 + 2 + 1 + 2, hs6.kp (kp_upd (M := [D]) (by simp) _) (by simpa using hs6.na nD) (by simpa using hs6.nc nD), by omega, rfl, fun k v e => by simp at e⟩ ?_ (by simpa using (hs6.na nD).symm) ?_ ?_⟩
  · rw [lHm]; exact Nat.lt_of_le_of_lt n24 (by decide)
  · rintro j y acc H7 H7' hj k t hD la ⟨A', hs', hA', ln', dts⟩ ⟨rfl, hy⟩ N E1 hN _
    rw [lHm] at hj
    have eal' := k _ _ eal6 (by simpa using naL)
    refine ⟨rfl, tyes ⟨_, rfl, _, rfl, _, _, rfl, .inl ⟨_, SqL.of eal', rfl⟩, a, c, (L.map V.str).length, 4, A', rfl, hs', by omega, by omega, by decide, by omega, fun r H8 ys A8 k8 t8 hs8 hA8 yd yl yn => hN _ _ k8 t8 ⟨A8, hs8, by omega, by rw [List.length_append, ln']; rfl, fun k v e => ?_⟩⟩⟩
    rw [List.length_map] at yl
    by_cases hk : k < acc.length
    · rw [List.getElem?_append_left hk] at e
      obtain ⟨xs, d, r2⟩ := dts k v e
      exact ⟨xs, d.tk t8, r2⟩
    · rw [List.getElem?_append_right (by omega)] at e
      obtain ⟨hk0, e⟩ := List.getElem?_eq_some_iff.mp e
      simp at hk0
      rw [show v = r by rw [← e]; simp]
      exact ⟨ys, yd, yl, yn⟩
  rintro H7 acc k7 t7 hD _ ⟨A7, hs7, hA7, ln7, dts7⟩
  rw [lHm] at hA7 ln7
  have naD := hs6.na nD
  have ncD := hs6.nc nD
  have eal7 := k7 _ _ eal6 (by simpa using naL)
  have eah7 := k7 _ _ eah (by simpa using naH)
  refine ⟨Nat.zero_le _, fun lp hlp => ⟨Nat.zero_le _, fun en hen => ⟨_, _, _, rfl, ?_⟩⟩⟩
  have s8 := same_new hlp (.lst [])
  have s9 := same_new hen (.lst [])
  have s89 := s8.trans s9
  have hs9 := hs7.same s89
  have eal9 := s89 _ _ eal7
  have eah9 := s89 _ _ eah7
  have eD9 := s89 _ _ hD
  have elp9 : (upd (upd H7 lp (.lst [])) en (.lst [])) lp = some (.lst []) := s9 _ _ upd_same
  have een9 : (upd (upd H7 lp (.lst [])) en (.lst [])) en = some (.lst []) := upd_same
  have nap := hs7.na hlp
  have ncp := hs7.nc hlp
  have nDp : D ≠ lp := ne_of_none hD hlp
  have nlp : al ≠ lp := ne_of_none eal7 hlp
  have nhp : ah ≠ lp := ne_of_none eah7 hlp
  have k9 : Kp [a] H (upd (upd H7 lp (.lst [])) en (.lst [])) := k06.trans (k7.trans (.of s89))
  have t9 : Tk H (upd (upd H7 lp (.lst [])) en (.lst [])) := t06.trans (t7.trans (tk_same s89))
  have dts9 : ∀ (k : Nat) v, acc[k]? = some v → ∃ xs, Dat K (upd (upd H7 lp (.lst [])) en (.lst [])) v (intsD xs) ∧ LW L.length xs ∧ xs.length ≤ 4 := fun k v e => let ⟨xs, d, r⟩ := dts7 k v e; ⟨xs, d.tk (tk_same s89), r⟩
  have npn : lp ≠ en := ne_of_none upd_same hen
  have nH9 : H lp = none := kp_none (k06.trans k7) hlp (by simpa using nap.symm)
  have naen := (hs7.same s8).na hen
  generalize upd (upd H7 lp (.lst [])) en (.lst []) = H9 at hs9 eal9 eah9 eD9 elp9 een9 k9 t9 dts9
  dsimp only
  refine tif_cut (fun σ' H' => ∃ (en : Addr) (nvw : List V) (nvb : List Bod) (A8 : Nat), σ' = [some (.ref a), some (.ref al), some (.ref ah), none, some (.ref D), some (.ref lp), some (.ref en), none, none, none, none, none, none] ∧ Kp [a] H9 H' ∧ Tk H9 H' ∧ SrcAt H' a c A8 ∧ A8 ≤ B + 60 ∧ en ≠ lp ∧ H' en = some (.lst nvw) ∧ Dats K H' nvw (nvb.map bodD) ∧ (nvb = [] ∨ ∃ x y, x ∈ L ∧ y ∈ L ∧ nvb = [nevB x y])) ?rest fun rest => ?_
  case rest =>
    rintro σ' H10 ⟨en, nvw, nvb, A8, rfl, k10, t10, hs10, hA8, nep, een, dnv, hnv⟩
    have eal10 := k10 _ _ eal9 (by simpa using naL)
    have eah10 := k10 _ _ eah9 (by simpa using naH)
    have eD10 := k10 _ _ eD9 (by simpa using naD.symm)
    have elp10 := k10 _ _ elp9 (by simpa using nap.symm)
    have nae : a ≠ en := fun e => by
      obtain ⟨_, _, _, _, h1, _⟩ := hs10
      rw [e, een] at h1
      injection h1 with h1
      injection h1 with h1
      have := dnv.length
      rcases hnv with rfl | ⟨x, y, _, _, rfl⟩
      · rw [h1] at this; simp at this
      · rw [h1] at this; simp at this
    have dts10 : ∀ (k : Nat) v, acc[k]? = some v → ∃ xs, Dat K H10 v (intsD xs) ∧ LW L.length xs ∧ xs.length ≤ 4 := fun k v e => let ⟨xs, d, r⟩ := dts9 k v e; ⟨xs, d.tk t10, r⟩
    have k010 : Kp [a] H H10 := k9.trans k10
    have t010 : Tk H H10 := t9.trans t10
    have lnv : nvw.length = nvb.length := by rw [dnv.length, List.length_map]
    obtain ⟨Px, hPH, hPn, hP0, hP1, nv1, nvc, nvd, nvp⟩ : ∃ Px : List Str, (∀ x ∈ Hd, x ∈ Px) ∧ wfBs L Px nvb = true ∧ (nvb = [] → Px = Hd) ∧ (nvb ≠ [] → Px = ("never0" : Str) :: Hd) ∧ nvb.length ≤ 1 ∧ cntBs nvb ≤ 3 ∧ depBs nvb ≤ 1 ∧ p2Bs 0 nvb ≤ 5 := by
      rcases hnv with rfl | ⟨x, y, hx, hy, rfl⟩
      · exact ⟨Hd, fun x h => h, rfl, fun _ => rfl, fun h => absurd rfl h, by simp, by simp [cntBs], by simp [depBs], by simp [p2Bs]⟩
      · exact ⟨(("never0" : Str) :: Hd : List Str), fun x h => List.mem_cons_of_mem _ h, by simp only [wfBs, nev_wf hx hy List.mem_cons_self]; rfl, (fun h => by cases h), fun _ => rfl, by simp, by simp [cntBs, nevB, cntB, cntS], by simp [depBs, nevB, depB, depS], by simp [p2Bs, nevB, p2B, p2S]⟩
    refine ⟨_, rfl, _, _, rfl, .inl ⟨_, SqL.of eah10, rfl⟩, ?_⟩
    rw [lHm]
    refine ⟨_, rfl, by omega, by omega, for_it (walk_range (lo := 0)) (fun i σ H' => ∃ (pvs : List V) (ps : List (Str × Bod)) (v7 v8 v9 v10 v11 : Option V) (A' : Nat), σ = [some (.ref a), some (.ref al), some (.ref ah), none, some (.ref D), some (.ref lp), some (.ref en), v7, v8, v9, v10, v11, none] ∧ Kp [a, lp] H10 H' ∧ Tk H10 H' ∧ SrcAt H' a c A' ∧ H' lp = some (.lst pvs) ∧ Dats K H' pvs (ps.map procD) ∧ ps.map (·.1) = Hd.take i ∧ cntP ps ≤ 95 * i ∧ A' ≤ B + 60 + 200000 * i ∧ ∀ q ∈ ps, wfB L Px q.2 = true ∧ depB q.2 ≤ 11 ∧ 1 + p2B 0 q.2 ≤ 300)
      ⟨[], [], none, none, none, none, none, A8, rfl, .refl _ _, .refl _, hs10, elp10, .nil, rfl, by simp [cntP], by omega, fun q hq => by cases hq⟩ (fun _ _ _ _ _ => trivial) ?_ ?_⟩
    · rintro i z σ H110 H11 hi ⟨pvs, ps, v7, v8, v9, v10, v11, A', rfl, k11, t11, hs11, ep11, pd, hps, cp, hA', okp⟩ ⟨rfl, hz⟩
      rw [Int.toNat_natCast] at hi
      have hz : z = V.int ((i : Nat) : Int) := by rw [hz]; show V.int (0 + (i : Int)) = _; rw [Int.zero_add]
      subst hz
      have lpv : pvs.length = ps.length := by rw [pd.length, List.length_map]
      have lps : ps.length = i := by rw [← List.length_map (f := (·.1)) (as := ps), hps, List.length_take]; omega
      have hil : i < Hd.length := by omega
      have eHi : (Hd.map V.str)[i]? = some (.str Hd[i]) := by rw [List.getElem?_map, List.getElem?_eq_getElem hil]; rfl
      have eal11 := k11 _ _ eal10 (by simp [naL, nlp])
      have eah11 := k11 _ _ eah10 (by simp [naH, nhp])
      have eD11 := k11 _ _ eD10 (by simp [naD.symm, nDp])
      have een11 := k11 _ _ een (by simp [nae.symm, nep])
      have eai : acc[i]? = some acc[i] := List.getElem?_eq_getElem (by omega)
      obtain ⟨nx, nd, nw, nl⟩ := dts10 i _ eai
      have nd11 := nd.tk t11
      refine ⟨_, rfl, _, rfl, _, rfl, _, rfl, .inl ⟨D, _, (i : Int), _, rfl, rfl, SqL.of eD11, atI_nat eai, a, c, al, L, acc[i], nx, A', rfl, hs11, eal11, by omega, by omega, nd11, nw, by omega, by omega, fun r12 H12 ws12 b12 A12 k12 t12 hs12 hA12 n12 e12 d12 ac12 l12 => ?_⟩⟩
      refine ⟨r12, _, rfl, .inl ⟨SqL.of e12, fun pt hpt => ?_⟩⟩
      have s13 := same_new hpt (.tup ws12)
      have dpl : Dat K (upd H12 pt (.tup ws12)) (.ref pt) (bodD b12) := bodD_of (SqT.of upd_same) (d12.tk (tk_same s13))
      have k13 : Kp [a] H11 (upd H12 pt (.tup ws12)) := k12.trans (.of s13)
      have t13 : Tk H11 (upd H12 pt (.tup ws12)) := t12.trans (tk_same s13)
      have hs13 := hs12.same s13
      generalize upd H12 pt (.tup ws12) = H13 at dpl k13 t13 hs13
      have eal13 := k13 _ _ eal11 (by simpa using naL)
      have eah13 := k13 _ _ eah11 (by simpa using naH)
      have eD13 := k13 _ _ eD11 (by simpa using naD.symm)
      have een13 := k13 _ _ een11 (by simpa using nae.symm)
      have ep13 := k13 _ _ ep11 (by simpa using nap.symm)
      refine ⟨_, rfl, _, rfl, _, rfl, _, rfl, by show 1 ≤ sizeLine; decide, fun af haf => ?_⟩
      have s14 := same_new haf (.lst [.int 12])
      have naf := hs13.na haf
      have ncf := hs13.nc haf
      refine ⟨_, rfl, a, c, 3, A12, rfl, hs13.same s14, by decide, by decide, by omega, fun dd H15 hdd k15 t15 hs15 => .inl ⟨_, _, rfl, rfl, ?_⟩⟩
      have eaf15 := k15 af _ upd_same (by simpa using naf.symm)
      have eD15 := k15 _ _ (s14 _ _ eD13) (by simpa using naD.symm)
      have hd3 : dd < 3 := by omega
      have kdd := kd3 (1 + dd) (by omega)
      have t1115 : Tk H10 H15 := t11.trans (t13.trans ((tk_same s14).trans t15))
      have g15 : KeAt K H15 a c al ah D af L Hd (A12 + 1) := ⟨hs15, k15 _ _ (s14 _ _ eal13) (by simpa using naL), k15 _ _ (s14 _ _ eah13) (by simpa using naH), ⟨acc, eD15, by omega, fun k v e => let ⟨xs, d, r⟩ := dts10 k v e; ⟨xs, d.tk t1115, r⟩⟩, ⟨12, eaf15⟩, naf, ncf, naD.symm, ne_of_none eD13 haf, by omega, by omega, by omega, by omega⟩
      refine ⟨_, rfl, _, rfl, .inl ⟨D, _, (i : Int), _, rfl, rfl, SqL.of eD15, atI_nat eai, a, c, al, ah, D, af, L, Hd, 1 + dd, A12 + 1, acc[i], nx, true, ?_, g15, by omega, by omega, by omega, nd.tk t1115, nw, nl, fun r H16 b16 A16 k16 t16 hs16 hf16 hA16 bd go => ?_⟩⟩
      · show [V.ref a, V.ref al, V.ref ah, V.ref D, V.ref af, V.int (1 + (dd : Int)), acc[i], V.bl true] = _
        rw [show (1 : Int) + (dd : Int) = ((1 + dd : Nat) : Int) by omega]
      have k1316 : Kp [a] H13 H16 := (kp_drop (M := [a]) ((Kp.of s14).trans ((k15.mono (by simp)).trans k16)) (fun x hx => by
        simp only [List.mem_cons, List.not_mem_nil, or_false] at hx
        rcases hx with rfl | rfl
        · exact .inl (by simp)
        · exact .inr haf))
      have t1316 : Tk H13 H16 := (tk_same s14).trans (t15.trans t16)
      have eah16 := k1316 _ _ eah13 (by simpa using naH)
      have een16 := k1316 _ _ een13 (by simpa using nae.symm)
      have ep16 := k1316 _ _ ep13 (by simpa using nap.symm)
      have dpl16 := dpl.tk t1316
      have w12 : WyOk L Hd 85 194 b12 := ⟨ac12.wf, by have := ac12.dep; omega, by rw [ac12.cnt]; omega, by rw [ac12.p2]; omega⟩
      dsimp only [gName]
      refine tif_cut (fun σ' H' => ∃ (rv : V) (rb : Bod), σ' = [some (.ref a), some (.ref al), some (.ref ah), none, some (.ref D), some (.ref lp), some (.ref en), some (.int i), some (.ref pt), some rv, v10, v11, none] ∧ Same H16 H' ∧ Dat K H' rv (bodD rb) ∧ WyOk L Hd 85 194 rb) ?rest2 fun rest2 => ?_
      case rest2 =>
        rintro σ' H17 ⟨rv, rb, rfl, s17, rd, wr⟩
        have een17 := s17 _ _ een16
        have ep17 := s17 _ _ ep16
        have eah17 := s17 _ _ eah16
        have hs17 := hs16.same s17
        have t1017 : Tk H10 H17 := t11.trans (t13.trans (t1316.trans (tk_same s17)))
        have dpl17 := dpl16.tk (tk_same s17)
        refine ⟨_, rfl, _, rfl, by show 2 ≤ sizeLine; decide, fun wl hwl => ?_⟩
        have s18 := same_new hwl (.lst [.ref pt, rv])
        refine ⟨_, rfl, .inr (.inr (.inl ⟨wl, en, _, _, rfl, rfl, upd_same, s18 _ _ een17, by simp; omega, fun ww hww => ?_⟩))⟩
        have s19 := same_new hww (.lst ([.ref pt, rv] ++ nvw))
        have s1819 := s18.trans s19
        have nwa : a ≠ ww := (hs17.same s18).na hww
        refine ⟨_, rfl, a, c, 2, A16, rfl, hs17.same s1819, by decide, by decide, by omega, fun cu H20 hcu k20 t20 hs20 => ⟨_, _, rfl, ?_⟩⟩
        have eww20 := k20 ww _ upd_same (by simpa using nwa.symm)
        have ep20 := k20 _ _ (s1819 _ _ ep17) (by simpa using nap.symm)
        have eah20 := k20 _ _ (s1819 _ _ eah17) (by simpa using naH)
        have t1720 : Tk H17 H20 := (tk_same s1819).trans t20
        have hvs : Dats K H20 ([.ref pt, rv] ++ nvw) (([b12, rb] ++ nvb).map bodD) := by
          rw [List.map_append]
          exact (Dats.cons (dpl17.tk t1720) (.cons (rd.tk t1720) .nil)).append (dnv.tk (t1017.trans t1720))
        have hvl := hvs.length
        rw [List.length_map] at hvl
        have hbl : ([b12, rb] ++ nvb).length ≤ 3 := by simp; omega
        have hbl2 : 2 ≤ ([b12, rb] ++ nvb).length := by simp
        have hbw : wfBs L Px ([b12, rb] ++ nvb) = true := by
          rw [wfBs_append, hPn]; simp only [wfBs, wfB_mono hPH b12 w12.wf, wfB_mono hPH rb wr.wf]; rfl
        have hbc : cntBs ([b12, rb] ++ nvb) ≤ 94 := by
          rw [cntBs_append]; have := wr.cnt; have := ac12.cnt; simp only [cntBs]; omega
        have hbd : depBs ([b12, rb] ++ nvb) ≤ 6 := by
          rw [depBs_append]; have := wr.dep; have := w12.dep; simp only [depBs]; omega
        have hbp : p2Bs 0 ([b12, rb] ++ nvb) ≤ 220 := by
          rw [p2Bs_append]; have := wr.p2; have := ac12.p2 (L := L) 0; simp only [p2Bs]; omega
        generalize ([V.ref pt, rv] ++ nvw) = vws at eww20 hvs hvl
        generalize ([b12, rb] ++ nvb) = bs at hvs hvl hbl hbl2 hbw hbc hbd hbp
        obtain ⟨rc, rdp, rp2⟩ := cnt_rot bs cu
        have rln := bodDs_rot bs cu
        have rwf := wfBs_rot bs cu hbw
        refine ⟨_, rfl, .inl ⟨rfl, _, SqL.of ep20⟩, _, rfl, _, rfl, .inl ⟨ah, _, (i : Int), _, rfl, rfl, SqL.of eah20, atI_nat eHi, ?_⟩⟩
        refine ⟨_, rfl, _, rfl, _, rfl, ww, _, rfl, SqL.of eww20, fun c1 hc1 => ?_⟩
        have z1 := same_new hc1 (.lst (cutV vws (some (cu : Int)) none))
        refine ⟨_, rfl, _, rfl, _, rfl, ww, _, rfl, SqL.of (z1 _ _ eww20), fun c2 hc2 => ?_⟩
        have z2 := same_new hc2 (.lst (cutV vws none (some (cu : Int))))
        have ed := cutV_drop vws cu
        have et := cutV_take vws cu
        refine .inr (.inr (.inl ⟨c1, c2, _, _, rfl, rfl, z2 _ _ upd_same, upd_same, by rw [ed, et, List.length_drop, List.length_take]; omega, fun c3 hc3 => ?_⟩))
        have z3 := same_new hc3 (.lst (cutV vws (some (cu : Int)) none ++ cutV vws none (some (cu : Int))))
        refine ⟨c3, _, rfl, .inl ⟨SqL.of upd_same, fun t1 ht1 => ⟨by show 2 ≤ sizeLine; decide, fun t2 ht2 => ⟨by show 1 ≤ sizeLine; decide, fun t3 ht3 => ⟨by show 2 ≤ sizeLine; decide, fun t4 ht4 => ?_⟩⟩⟩⟩⟩
        have z4 := same_new ht1 (.tup (cutV vws (some (cu : Int)) none ++ cutV vws none (some (cu : Int))))
        have z5 := same_new ht2 (.tup [.str "choose", .ref t1])
        have z6 := same_new ht3 (.tup [.ref t2])
        have z7 := same_new ht4 (.tup [.str Hd[i], .ref t3])
        have z47 := z4.trans (z5.trans (z6.trans z7))
        have z17 := z1.trans (z2.trans (z3.trans z47))
        have hvr : Dats K H20 (cutV vws (some (cu : Int)) none ++ cutV vws none (some (cu : Int))) ((bs.drop cu ++ bs.take cu).map bodD) := by
          rw [ed, et, List.map_append, List.map_drop, List.map_take]
          exact (hvs.drop cu).append (hvs.take cu)
        generalize hbr : bs.drop cu ++ bs.take cu = br at hvr rc rdp rp2 rln rwf
        have ep27 := z17 _ _ ep20
        have tU := tk_lst (o' := .lst (pvs ++ [.ref t4])) ep27
        have hs27 := hs20.same z17
        have d1 := hvr.tk (tk_same z17)
        have x1 := bodDs_of (K := K) (SqT.of ((z5.trans (z6.trans z7)) _ _ upd_same)) d1
        have dst : Dat K _ (.ref t2) (stmD (.cho br)) := .tup (SqT.of ((z6.trans z7) _ _ upd_same)) (.cons (.str _) (.cons x1 .nil))
        have dpr := procD_of (K := K) (q := (Hd[i], [Stm.cho br])) (SqT.of upd_same) (bodD_of (SqT.of (z7 _ _ upd_same)) (.cons dst .nil))
        refine ⟨lp, _, _, rfl, rfl, ep27, by omega, pvs ++ [.ref t4], ps ++ [(Hd[i], [Stm.cho br])], _, _, _, _, _, A16 + 1, rfl, k11.trans ((k13.mono (by simp)).trans ((k1316.mono (by simp)).trans ((Kp.of (s17.trans s1819)).trans ((k20.mono (by simp)).trans ((Kp.of z17).trans (kp_upd (M := [a, lp]) (by simp) _)))))), t1017.trans (t1720.trans ((tk_same z17).trans tU)), hs27.kp (kp_upd (M := [lp]) (by simp) _) (by simpa using nap) (by simpa using ncp), upd_same, ?_, ?_, ?_, by omega, ?_⟩
        · rw [List.map_append]
          exact ((pd.tk (t13.trans (t1316.trans ((tk_same s17).trans (t1720.trans (tk_same z17)))))).append (.cons dpr .nil)).tk tU
        · rw [List.map_append, hps, take_snoc (List.getElem?_eq_getElem hil)]; rfl
        · have e : cntP (ps ++ [(Hd[i], [Stm.cho br])]) = cntP ps + cntB [Stm.cho br] := by unfold cntP; rw [List.map_append, List.sum_append]; simp
          rw [e]; simp only [cntB, cntS]; omega
        · intro q hq
          rcases List.mem_append.mp hq with hq | hq
          · exact okp q hq
          · rw [List.mem_singleton.mp hq]
            refine ⟨?_, ?_, ?_⟩
            · simp only [wfB, wfS, rwf, Bool.and_true]
              rw [decide_eq_true (by omega), decide_eq_true (by omega)]; rfl
            · show depB [Stm.cho br] ≤ 11
              simp only [depB, depS]; omega
            · show 1 + p2B 0 [Stm.cho br] ≤ 300
              simp only [p2B, p2S]; omega
      have gd := go.dep
      have gp := go.p2
      refine ⟨_, rfl, r, L, Hd, b16, rfl, bd, go.wf, by omega, fun H17 s17 => ⟨_, _, rfl, rfl, _, rfl, ite2 (fun hgt => ⟨_, rfl, rest2 _ _ ⟨.ref pt, b12, rfl, s17, dpl16.tk (tk_same s17), w12⟩⟩) (fun hle => rest2 _ _ ⟨r, b16, rfl, s17, bd.tk (tk_same s17), go.wf, by omega, ?_, ?_⟩)⟩⟩
      · simp only [decide_eq_true_eq] at hle; omega
      · simp only [decide_eq_true_eq] at hle; omega
    · rintro σ H11 ⟨pvs, ps, v7, v8, v9, v10, v11, A', rfl, k11, t11, hs11, ep11, pd, hps, cp, hA', okp⟩
      rw [Int.toNat_natCast] at hps cp hA'
      rw [List.take_of_length_le (by omega)] at hps
      have lps : ps.length = n2 := by rw [← lH, ← hps, List.length_map]
      have lpv : pvs.length = ps.length := by rw [pd.length, List.length_map]
      have eal11 := k11 _ _ eal10 (by simp [naL, nlp])
      have eah11 := k11 _ _ eah10 (by simp [naH, nhp])
      have een11 := k11 _ _ een (by simp [nae.symm, nep])
      dsimp only
      refine tif_cut (fun σ' H' => ∃ (lp' : Addr) (pvs' : List V) (ps' : List (Str × Bod)) (A'' : Nat) (v12 : Option V), σ' = [some (.ref a), some (.ref al), some (.ref ah), none, some (.ref D), some (.ref lp'), some (.ref en), v7, v8, v9, v10, v11, v12] ∧ Kp [a, lp] H10 H' ∧ Tk H10 H' ∧ SrcAt H' a c A'' ∧ A'' ≤ A' + 1 ∧ H' lp' = some (.lst pvs') ∧ Dats K H' pvs' (ps'.map procD) ∧ (∀ x ∈ ps'.map (·.1), OkN x) ∧ (ps'.map (·.1)).Nodup ∧ (∀ x ∈ Px, x ∈ ps'.map (·.1)) ∧ 1 ≤ ps'.length ∧ ps'.length ≤ 5 ∧ cntP ps' ≤ 399 ∧ ∀ q ∈ ps', wfB L Px q.2 = true ∧ depB q.2 ≤ 11 ∧ 1 + p2B 0 q.2 ≤ 300) ?rest3 fun rest3 => ?_
      case rest3 =>
        rintro σ' H12 ⟨lp', pvs', ps', A'', v12, rfl, k12, t12, hs12, hA12, ep12, pd12, nm12, nd12, px12, l1, l5, c12, ok12⟩
        have eal12 := k12 _ _ eal10 (by simp [naL, nlp])
        refine ⟨_, rfl, al, _, rfl, .inl ⟨SqL.of eal12, fun r1 hr1 => ⟨_, rfl, lp', _, rfl, .inl ⟨SqL.of ((same_new hr1 _) _ _ ep12), fun r2 hr2 => ⟨by show 2 ≤ sizeLine; decide, fun r3 hr3 => ?_⟩⟩⟩⟩⟩
        have w1 := same_new hr1 (.tup (L.map V.str))
        have w2 := same_new hr2 (.tup pvs')
        have w3 := same_new hr3 (.tup [.ref r1, .ref r2])
        have w := w1.trans (w2.trans w3)
        have kk : Kp [a] H H12 := kp_drop ((k010.mono (by simp)).trans k12) (fun x hx => by
          simp only [List.mem_cons, List.not_mem_nil, or_false] at hx
          rcases hx with rfl | rfl
          · exact .inl (by simp)
          · exact .inr nH9)
        refine q (.ref r3) _ ⟨L, ps'⟩ A'' (kk.trans (.of w)) (t010.trans (t12.trans (tk_same w))) (hs12.same w) (by omega) (progD_of (SqT.of upd_same) (SqT.of (w3 _ _ (w2 _ _ upd_same))) (SqT.of (w3 _ _ upd_same)) (pd12.tk (tk_same w))) ?_
        exact ⟨by show 1 ≤ L.length; omega, by show L.length ≤ 20; omega, l1, l5, ⟨fun x hx => (okL x hx).1, nm12⟩, ndL, nd12, fun q hq => wfB_mono px12 q.2 (ok12 q hq).1, fun q hq => (ok12 q hq).2.1, c12, fun q hq => (ok12 q hq).2.2⟩
      have hlay : PyData.canLayAll0 (nvb.map bodD) = true := by
        rcases hnv with rfl | ⟨x, y, hx, hy, rfl⟩
        · rfl
        · have h0 : NmOk (("never0" : Str) :: L) := fun z hz => by
            rcases List.mem_cons.mp hz with rfl | hz
            · exact okN_of (by decide +kernel)
            · exact (okL z hz).1
          have := lay_B (L := ("never0" : Str) :: L) (P := ("never0" : Str) :: L) h0 h0 (nevB x y) (nev_wf (List.mem_cons_of_mem _ hx) (List.mem_cons_of_mem _ hy) List.mem_cons_self)
          simp only [List.map_cons, List.map_nil, PyData.canLayAll0, PyData.canLay0, this]; rfl
      refine ⟨_, rfl, Nat.zero_le _, fun e0 he0 => ?_⟩
      have s12 := same_new he0 (.lst [])
      refine ⟨en, e0, nvb.map bodD, rfl, rfl, .lst (SqL.of (s12 _ _ een11)) ((dnv.tk (t11.trans (tk_same s12))).dp), SqL.of upd_same, hlay, _, rfl, ite2 (fun hne => ?_) (fun he => ?_)⟩
      · rcases hnv with rfl | ⟨x, y, hx, hy, rfl⟩
        · cases hne
        obtain ⟨nv, nvt, rfl, dv, dvt⟩ := dnv.inv_cons
        cases dvt.inv_nil
        have hPx := hP1 (by simp)
        have hs12 := hs11.same s12
        have eah12 := s12 _ _ eah11
        have ep12 := s12 _ _ ep11
        have een12 := s12 _ _ een11
        generalize upd H11 e0 (.lst []) = H12 at s12 hs12 eah12 ep12 een12
        refine ⟨_, rfl, _, rfl, _, _, rfl, .inl ⟨_, SqL.of eah12, rfl⟩, .inl ⟨_, _, rfl, rfl, a, c, _, A', rfl, hs12, by omega, by omega, by omega, fun at_ H13 hat k13 t13 hs13 => ?_⟩⟩
        have ep13 := k13 _ _ ep12 (by simpa using nap.symm)
        have een13 := k13 _ _ een12 (by simpa using nae.symm)
        refine ⟨_, rfl, _, rfl, _, rfl, lp, _, rfl, SqL.of ep13, fun c1 hc1 => ?_⟩
        have z1 := same_new hc1 (.lst (cutV pvs none (some (at_ : Int))))
        refine ⟨_, rfl, .inl ⟨en, _, 0, _, rfl, rfl, SqL.of (z1 _ _ een13), atI_nat (j := 0) rfl, by show 2 ≤ sizeLine; decide, fun t1 ht1 => ⟨by show 1 ≤ sizeLine; decide, fun m1 hm1 => ?_⟩⟩⟩
        have z2 := same_new ht1 (.tup [.str "never0", nv])
        have z3 := same_new hm1 (.lst [.ref t1])
        have et := cutV_take pvs at_
        have ed := cutV_drop pvs at_
        refine .inr (.inr (.inl ⟨c1, m1, _, _, rfl, rfl, z3 _ _ (z2 _ _ upd_same), upd_same, by rw [et, List.length_take]; simp; omega, fun c2 hc2 => ?_⟩))
        have z4 := same_new hc2 (.lst (cutV pvs none (some (at_ : Int)) ++ [.ref t1]))
        have z14 := z1.trans (z2.trans (z3.trans z4))
        refine ⟨_, rfl, _, rfl, _, rfl, lp, _, rfl, SqL.of (z14 _ _ ep13), fun c3 hc3 => ?_⟩
        have z5 := same_new hc3 (.lst (cutV pvs (some (at_ : Int)) none))
        refine .inr (.inr (.inl ⟨c2, c3, _, _, rfl, rfl, z5 _ _ upd_same, upd_same, by rw [et, ed, List.length_append, List.length_take, List.length_drop]; simp; omega, fun c4 hc4 => ?_⟩))
        have z6 := same_new hc4 (.lst ((cutV pvs none (some (at_ : Int)) ++ [.ref t1]) ++ cutV pvs (some (at_ : Int)) none))
        have z46 := z4.trans (z5.trans z6)
        have z16 := z14.trans (z5.trans z6)
        have tt := t13.trans (tk_same z16)
        have t1113 := (tk_same s12).trans tt
        have pnv := procD_of (K := K) (q := ("never0", nevB x y)) (SqT.of ((z3.trans z46) _ _ upd_same)) (dv.tk (t11.trans t1113))
        have pdx := pd.tk t1113
        have ecat : ps.take at_ ++ [(("never0" : Str), nevB x y)] ++ ps.drop at_ = ps.take at_ ++ (("never0" : Str), nevB x y) :: ps.drop at_ := by simp
        have pm : (ps.take at_ ++ [(("never0" : Str), nevB x y)] ++ ps.drop at_).Perm ((("never0" : Str), nevB x y) :: ps) := by
          rw [ecat]
          have := List.perm_middle (a := (("never0" : Str), nevB x y)) (l₁ := ps.take at_) (l₂ := ps.drop at_)
          rw [List.take_append_drop] at this
          exact this
        have pmm := pm.map (·.1)
        have hcons : (((("never0" : Str), nevB x y) :: ps).map (·.1)) = ("never0" : Str) :: Hd := by rw [List.map_cons, hps]
        rw [hcons] at pmm
        refine rest3 _ _ ⟨c4, _, ps.take at_ ++ [(("never0" : Str), nevB x y)] ++ ps.drop at_, A' + 1, _, rfl, k11.trans ((Kp.of s12).trans ((k13.mono (by simp)).trans (.of z16))), t11.trans t1113, hs13.same z16, Nat.le_refl _, upd_same, ?_, fun z hz => ?_, ?_, fun z hz => ?_, ?_, ?_, ?_, fun z hz => ?_⟩
        · have hcut : List.take at_ pvs ++ [V.ref t1] ++ List.drop at_ pvs = cutV pvs none (some (at_ : Int)) ++ [V.ref t1] ++ cutV pvs (some (at_ : Int)) none := by rw [et, ed]
          rw [List.map_append, List.map_append, List.map_take, List.map_drop]
          exact cast (congrArg (fun l => Dats K _ l _) hcut) (((pdx.take at_).append (.cons pnv .nil)).append (pdx.drop at_))
        · rcases List.mem_cons.mp (pmm.mem_iff.mp hz) with rfl | hz
          · exact okN_of (by decide +kernel)
          · exact (okH z hz).1
        · exact pmm.nodup_iff.mpr (List.nodup_cons.mpr ⟨fun h => (okH _ h).2 rfl, ndH⟩)
        · rw [hPx] at hz; exact pmm.mem_iff.mpr hz
        · rw [pm.length_eq]; simp
        · rw [pm.length_eq]; simp; omega
        · have e : ∀ l : List (Str × Bod), cntP l = (l.map fun q => cntB q.2).sum := fun _ => rfl
          rw [e, (pm.map _).sum_nat, List.map_cons, List.sum_cons, ← e]
          have : cntB (nevB x y) = 3 := rfl
          show cntB (nevB x y) + cntP ps ≤ 399
          omega
        · rcases List.mem_cons.mp (pm.mem_iff.mp hz) with rfl | hz
          · refine ⟨by rw [hPx]; exact nev_wf hx hy List.mem_cons_self, ?_, ?_⟩
            · show depB (nevB x y) ≤ 11
              simp [depB, nevB, depS]
            · show 1 + p2B 0 (nevB x y) ≤ 300
              simp [p2B, nevB, p2S]
          · exact okp z hz
      · have hb : nvb = [] := by
          rcases hnv with rfl | ⟨x, y, hx, hy, rfl⟩
          · rfl
          · exact absurd rfl he
        have hPx := hP0 hb
        exact rest3 _ _ ⟨lp, pvs, ps, A', _, rfl, k11.trans (.of s12), t11.trans (tk_same s12), hs11.same s12, by omega, s12 _ _ ep11, pd.tk (tk_same s12), by rw [hps]; exact fun z hz => (okH z hz).1, by rw [hps]; exact ndH, by rw [hps, hPx]; exact fun z hz => hz, by omega, by omega, by omega, okp⟩
  refine ⟨_, rfl, a, c, 3, A7, rfl, hs9, by decide, by decide, by omega, fun mm H10 hmm k10 t10 hs10 => .inl ⟨rfl, _, rfl, ite2 (fun _ => ?_) (fun _ => ?_)⟩⟩
  · have eal10 := k10 _ _ eal9 (by simpa using naL)
    have e0 : (L.map V.str)[0]? = some (.str L[0]) := by rw [List.getElem?_map, List.getElem?_eq_getElem (by omega)]; rfl
    refine ⟨_, rfl, .inl ⟨al, _, 0, _, rfl, rfl, SqL.of eal10, atI_nat (j := 0) e0, by show 2 ≤ sizeLine; decide, fun p1 hp1 => ⟨by show 2 ≤ sizeLine; decide, fun p2 hp2 => ?_⟩⟩⟩
    have s1 := same_new hp1 (.tup [.str "do", .str L[0]])
    have s2 := same_new hp2 (.tup [.str "call", .str "never0"])
    have eal12 := (s1.trans s2) _ _ eal10
    have hne : L ≠ [] := fun e => by rw [e] at lL; simp at lL; omega
    have eL : L.map V.str = (L.dropLast.map V.str) ++ [V.str (L.getLast hne)] := by
      conv => lhs; rw [← List.dropLast_concat_getLast hne, List.map_append]
      rfl
    have eat : atI (L.map V.str) (-1) = some (V.str (L.getLast hne)) := by rw [eL]; exact atI_last _ _
    refine ⟨_, rfl, _, rfl, .inl ⟨al, _, _, _, rfl, rfl, SqL.of eal12, eat, by show 2 ≤ sizeLine; decide, fun p3 hp3 => ⟨by show 3 ≤ sizeLine; decide, fun p4 hp4 => ⟨by show 1 ≤ sizeLine; decide, fun p5 hp5 => ?_⟩⟩⟩⟩
    have s3 := same_new hp3 (.tup [.str "undo", .str (L.getLast hne)])
    have s4 := same_new hp4 (.tup [.ref p1, .ref p2, .ref p3])
    have s5 := same_new hp5 (.lst [.ref p4])
    have s15 := s1.trans (s2.trans (s3.trans (s4.trans s5)))
    refine rest _ _ ⟨p5, [.ref p4], [nevB L[0] (L.getLast hne)], A7 + 1, rfl, k10.trans (.of s15), t10.trans (tk_same s15), hs10.same s15, by omega, ?_, upd_same, ?_, .inr ⟨_, _, List.getElem_mem _, List.getLast_mem hne, rfl⟩⟩
    · intro e
      have := (s1.trans (s2.trans (s3.trans s4))) _ _ (k10 _ _ elp9 (by simpa using nap.symm))
      rw [← e, hp5] at this; cases this
    · refine .cons (bodD_of (SqT.of (s5 _ _ upd_same)) ?_) .nil
      exact .cons (.tup (SqT.of ((s2.trans (s3.trans (s4.trans s5))) _ _ upd_same)) (.cons (.str _) (.cons (.str _) .nil))) (.cons (.tup (SqT.of ((s3.trans (s4.trans s5)) _ _ upd_same)) (.cons (.str _) (.cons (.str _) .nil))) (.cons (.tup (SqT.of ((s4.trans s5) _ _ upd_same)) (.cons (.str _) (.cons (.str _) .nil))) .nil))
  · exact rest _ _ ⟨en, [], [], A7 + 1, rfl, k10, t10, hs10, by omega, npn.symm, k10 _ _ een9 (by simpa using naen.symm), .nil, .inl rfl⟩
end
end PK

set_option linter.all false
set_option Elab.async false
set_option maxRecDepth 100000
set_option maxHeartbeats 4000000
/-! KNy: one statement bent. -/
namespace PK
open PySem PySem.Spec PyProof.Rows L2
/-- b with at most one act changed -/
structure BtOk (L P : List Str) (b b' : Bod) : Prop where
  wf : wfB L P b' = true
  nr : nrB b = true → nrB b' = true
  dep : depB b' ≤ depB b + 1
  pl : ∀ x y, x ≤ y → plB x b' ≤ p2B y b
  len : b'.length ≤ b.length
structure BtsOk (L P : List Str) (b b' : List Bod) : Prop where
  wf : wfBs L P b' = true
  nr : nrBs b = true → nrBs b' = true
  dep : depBs b' ≤ depBs b + 1
  pl : ∀ x y, x ≤ y → plBs x b' ≤ p2Bs y b
  len : b'.length = b.length
theorem BtOk.nil {L P : List Str} : BtOk L P [] [] := ⟨rfl, fun _ => rfl, by simp [depB], fun _ _ _ => by simp [plB], Nat.le_refl _⟩
theorem BtOk.append {L P : List Str} {a a' b b' : Bod} (h : BtOk L P a a') (g : BtOk L P b b') : BtOk L P (a ++ b) (a' ++ b') := by
  refine ⟨by rw [wfB_append, h.wf, g.wf]; rfl, fun e => ?_, ?_, fun x y l => ?_, by have := h.len; have := g.len; rw [List.length_append, List.length_append]; omega⟩
  · rw [nrB_append, Bool.and_eq_true] at e
    rw [nrB_append, h.nr e.1, g.nr e.2]; rfl
  · have := h.dep; have := g.dep; rw [depB_append, depB_append]; omega
  · have := h.pl x y l; have := g.pl x y l; rw [plB_append, p2B_append]; omega
theorem BtsOk.nil {L P : List Str} : BtsOk L P [] [] := ⟨rfl, fun _ => rfl, by simp [depBs], fun _ _ _ => by simp [plBs], rfl⟩
theorem BtsOk.snoc {L P : List Str} {a a' : List Bod} {b b' : Bod} (h : BtsOk L P a a') (g : BtOk L P b b') : BtsOk L P (a ++ [b]) (a' ++ [b']) := by
  refine ⟨by rw [wfBs_append, h.wf]; simp only [wfBs, g.wf]; rfl, fun e => ?_, ?_, fun x y l => ?_, by rw [List.length_append, List.length_append, h.len]; rfl⟩
  · rw [nrBs_append, Bool.and_eq_true] at e
    have e2 := e.2
    simp only [nrBs, Bool.and_true] at e2
    rw [nrBs_append, h.nr e.1]; simp only [nrBs, g.nr e2]; rfl
  · have := h.dep; have := g.dep; rw [depBs_append, depBs_append]; simp only [depBs]; omega
  · have := h.pl x y l; have := g.pl x y l; rw [plBs_append, p2Bs_append]; simp only [plBs, p2Bs]; omega
theorem BtOk.same {L P : List Str} {s : Stm} (w : wfS L P s = true) : BtOk L P [s] [s] :=
  ⟨by simp only [wfB, w]; rfl, fun h => h, by omega, fun x y l => pl_p2B [s] x y l, Nat.le_refl _⟩
theorem BtOk.cho {L P : List Str} {bs bs' : List Bod} (w : wfS L P (.cho bs) = true) (h : BtsOk L P bs bs') : BtOk L P [.cho bs] [.cho bs'] := by
  simp only [wfS, Bool.and_eq_true, decide_eq_true_eq] at w
  have l := h.len
  refine ⟨?_, fun e => ?_, ?_, fun x y l => ?_, Nat.le_refl _⟩
  · simp only [wfB, wfS, h.wf, Bool.and_true, decide_eq_true (show 2 ≤ bs'.length by omega), decide_eq_true (show bs'.length ≤ 8 by omega)]
  · simp only [nrB, nrS, Bool.and_true] at e ⊢; exact h.nr e
  · have := h.dep; simp only [depB, depS]; omega
  · have := h.pl x y l; simp only [plB, plS, p2B, p2S]; omega
structure BtOk0 (L P : List Str) (b b' : Bod) : Prop where
  wf : wfB L P b' = true
  nr : nrB b = true → nrB b' = true
  dep : depB b' ≤ depB b + 1
  pl : ∀ x y, x ≤ y → plB x b' ≤ p2B y b
theorem bts_one {L P : List Str} {b : Bod} {bs' : List Bod} (h : BtsOk L P [b] bs') : ∃ b', bs' = [b'] ∧ BtOk0 L P b b' := by
  obtain ⟨b', rfl⟩ := List.length_eq_one_iff.mp (show bs'.length = 1 from h.len)
  exact ⟨b', rfl, by have := h.wf; simpa [wfBs] using this, by have := h.nr; simpa [nrBs] using this, by have := h.dep; simpa [depBs] using this, fun x y l => by have := h.pl x y l; simpa [plBs, p2Bs] using this⟩
theorem BtOk.loop {L P : List Str} {b : Bod} {bs' : List Bod} (h : BtsOk L P [b] bs') : ∃ b', bs' = [b'] ∧ BtOk L P [.loop b] [.loop b'] := by
  obtain ⟨b', rfl, g⟩ := bts_one h
  refine ⟨b', rfl, by simp only [wfB, wfS, g.wf]; rfl, fun e => ?_, ?_, fun x y l => ?_, Nat.le_refl _⟩
  · simp only [nrB, nrS, Bool.and_true] at e ⊢; exact g.nr e
  · have := g.dep; simp only [depB, depS]; omega
  · have := g.pl x y l; simp only [plB, plS, p2B, p2S]; omega
/-- each for itself -/
inductive Bt2 (L P : List Str) : List Bod → List Bod → Prop where
  | nil : Bt2 L P [] []
  | cons {b b' : Bod} {r r' : List Bod} : BtOk L P b b' → Bt2 L P r r' → Bt2 L P (b :: r) (b' :: r')
theorem Bt2.snoc {L P : List Str} {a a' : List Bod} {b b' : Bod} (h : Bt2 L P a a') (g : BtOk L P b b') : Bt2 L P (a ++ [b]) (a' ++ [b']) := by
  induction h with
  | nil => exact .cons g .nil
  | cons x _ ih => exact .cons x ih
theorem Bt2.ok {L P : List Str} {a a' : List Bod} (h : Bt2 L P a a') : BtsOk L P a a' := by
  induction h with
  | nil => exact .nil
  | cons g _ h =>
    refine ⟨by simp only [wfBs, g.wf, h.wf]; rfl, fun e => ?_, ?_, fun x y l => ?_, by rw [List.length_cons, List.length_cons, h.len]⟩
    · simp only [nrBs, Bool.and_eq_true] at e ⊢; exact ⟨g.nr e.1, h.nr e.2⟩
    · have := h.dep; have := g.dep; simp only [depBs]; omega
    · have := h.pl x y l; have := g.pl x y l; simp only [plBs, p2Bs]; omega
theorem Bt2.len {L P : List Str} {a a' : List Bod} (h : Bt2 L P a a') : a'.length = a.length := h.ok.len
theorem Bt2.one {L P : List Str} {b : Bod} {bs' : List Bod} (h : Bt2 L P [b] bs') : ∃ b', bs' = [b'] ∧ BtOk L P b b' := by
  cases h with
  | cons g r => cases r with
    | nil => exact ⟨_, rfl, g⟩
theorem Bt2.two {L P : List Str} {b c : Bod} {bs' : List Bod} (h : Bt2 L P [b, c] bs') : ∃ b' c', bs' = [b', c'] ∧ BtOk L P b b' ∧ BtOk L P c c' := by
  cases h with
  | cons g r =>
    obtain ⟨c', rfl, k⟩ := r.one
    exact ⟨_, c', rfl, g, k⟩
theorem BtOk.lop {L P : List Str} {b b' : Bod} (g : BtOk L P b b') : BtOk L P [.loop b] [.loop b'] := by
  refine ⟨by simp only [wfB, wfS, g.wf]; rfl, fun e => ?_, ?_, fun x y l => ?_, Nat.le_refl _⟩
  · simp only [nrB, nrS, Bool.and_true] at e ⊢; exact g.nr e
  · have := g.dep; simp only [depB, depS]; omega
  · have := g.pl x y l; simp only [plB, plS, p2B, p2S]; omega
theorem BtOk.ens {L P : List Str} {b b' c c' : Bod} (w : wfS L P (.ens b c) = true) (g : BtOk L P b b') (h : BtOk L P c c') : BtOk L P [.ens b c] [.ens b' c'] := by
  simp only [wfS, Bool.and_eq_true] at w
  refine ⟨by simp only [wfB, wfS, g.wf, h.wf, h.nr w.2.2]; rfl, fun e => ?_, ?_, fun x y l => ?_, Nat.le_refl _⟩
  · simp only [nrB, nrS, Bool.and_true, Bool.and_eq_true] at e ⊢; exact ⟨g.nr e.1, h.nr e.2⟩
  · have := g.dep; have := h.dep; simp only [depB, depS]; omega
  · have h1 := h.pl 0 0 (Nat.le_refl _)
    have := g.pl (x + plB 0 c') (y + p2B 0 c) (by omega)
    simp only [plB, plS, p2B, p2S]; omega
/-- the four changes of an act -/
theorem BtOk.act {L P : List Str} {u : Bool} {x : Str} {n : Bod} (h : n = [] ∨ (∃ v y, y ∈ L ∧ n = [.act v y]) ∨ (x ∈ L ∧ n = [.loop [.act u x]])) : BtOk L P [.act u x] n := by
  rcases h with rfl | ⟨v, y, hy, rfl⟩ | ⟨hx, rfl⟩
  · exact ⟨rfl, fun _ => rfl, by simp [depB], fun _ _ _ => by simp [plB], by simp⟩
  · exact ⟨by simp only [wfB, wfS, decide_eq_true hy]; rfl, fun _ => rfl, by simp [depB, depS], fun _ _ _ => by simp [plB, p2B, plS, p2S], by simp⟩
  · exact ⟨by simp only [wfB, wfS, decide_eq_true hx]; rfl, fun _ => rfl, by simp [depB, depS], fun _ _ _ => by simp [plB, p2B, plS, p2S], by simp⟩
/-- 1 as long as the change is ahead -/
def uL (l : Int) : Int := min (max l 0) 1
def spBent (K : Fg) (n : Nat) : Sp := fun vs H Q _ => ∃ (a c al af : Addr) (L P : List Str) (v : V) (b : Bod) (l : Int) (A : Nat), vs = [.ref a, .ref al, v, .ref af] ∧ SrcAt H a c A ∧ SqT K H al (L.map V.str) ∧ 1 ≤ L.length ∧ L.length ≤ 20 ∧ H af = some (.lst [.int l]) ∧ a ≠ af ∧ c ≠ af ∧ Dat K H v (bodD b) ∧ wfB L P b = true ∧ depB b < n ∧ cntB b ≤ 1000 ∧ A + 2 * cntB b ≤ 3000000000000000000 ∧
  ∀ (r : V) (H' : Hp) (b' : Bod) (l' : Int) (A' : Nat), Kp [a, af] H H' → Tk H H' → SrcAt H' a c A' → H' af = some (.lst [.int l']) → A' ≤ A + 2 * cntB b → Dat K H' r (bodD b') → BtOk L P b b' → (cntB b' : Int) + uL l' ≤ cntB b + uL l → Q r H'
theorem cntBs_mem {bs : List Bod} {b : Bod} (h : b ∈ bs) : cntB b ≤ cntBs bs := by
  induction bs with
  | nil => cases h
  | cons t r ih =>
    simp only [cntBs]
    rcases List.mem_cons.mp h with rfl | h
    · omega
    · have := ih h; omega
theorem cntBs_take {bs : List Bod} {i : Nat} {b : Bod} (h : bs[i]? = some b) : cntBs (bs.take (i + 1)) = cntBs (bs.take i) + cntB b := by
  rw [take_snoc h, cntBs_append]; simp [cntBs]
section
variable {P : Program} {w : World} {K : Fg} {mg : Str → Option Value} {base : Heap}
theorem ok_Lbent_body (n : Nat) (T : Tp K mg) (F : Std K "_law_bent_body" "_law_bent_body" s_Lbent_body (He.ga K "_law_bent_body")) (D_Ldraw : Dn P w K mg base 1 (He.ga K "_law_draw") ["source", "many"] (spDraw K))
    (D_Lbent_body : Dn P w K mg base (n + 1) (He.ga K "_law_bent_body") ["source", "letters", "body", "left"] (spBent K n)) : Dn P w K mg base (n + 2) (He.ga K "_law_bent_body") ["source", "letters", "body", "left"] (spBent K (n + 1)) := by
  refine dn_mk F sc_Lbent_body
    (fun _ _ _ _ _ _ us hl => match us, hl with | [_, _, _, _], _ => rfl)
    (fun vs H Q E h => ?_) fun cdv A outer s H vs Q E hr h => ?_
  · obtain ⟨a, c, al, af, L, Pn, v, b, l, B, rfl, _⟩ := h; rfl
  obtain ⟨a, c, al, af, L, Pn, v, b, l, B, rfl, hs, eal, L1, L20, eaf, naf, ncf, bd, wf, dp, c1000, hB, q⟩ := h
  obtain ⟨ab, ws, rfl, hA, hX⟩ := bd.inv_tup
  rw [stmDs_map] at hX
  have lw := hX.length
  rw [List.length_map] at lw
  have lcb := len_cnt b
  refine ⟨_, (pss_cons (ps_set (i := 4) sc_Lbent_body.nd rfl (Or.inl rfl) (pe_lst pa_nil))
    (pss_cons (ps_for PassesOwn.never rfl (iTupK (K := K) rfl (pv 2)) (pg_name (i := 5) sc_Lbent_body.nd rfl (Or.inl rfl)) (pss_cons (ps_par (i := 6) (j := 7) (by rfl) sc_Lbent_body.nd rfl rfl (by decide) rfl rfl (pa_cons (pe_ix (ixK (K := K) rfl) (pv 5) pe_int (fun _ _ => rfl)) (pa_cons (pe_lst (pa_cons (pv 5) pa_nil)) pa_nil)) (by rfl))
    (pss_cons (ps_if (pt_cmpR (inK (K := K) rfl) (pv 6) (pe_tup (pa_cons pe_str (pa_cons pe_str pa_nil))) (by rfl)) (pss_cons (ps_augS (pv 3) pe_int get_list pe_int ip_sub set_list)
    (pss_one (ps_if (pt_cmpR (oEqK (K := K) rfl (hu64 hr)) (pe_ix (ixK (K := K) rfl) (pv 3) pe_int (fun _ _ => rfl)) pe_int (nomark _)) (pss_cons (ps_set (i := 8) sc_Lbent_body.nd rfl (Or.inl rfl) (pe_tup (pa_cons (pe_ix (ixK (K := K) rfl) (pe_lst (pa_cons pe_str (pa_cons pe_str pa_nil))) (pe_callTy call_int1 (by rfl) T.b_int (by decide +kernel) (pa_cons (pe_cmpR (oEqK (K := K) rfl (hu64 hr)) (pv 6) pe_str (nomark _)) pa_nil)) (fun _ _ => rfl)) (pa_cons (pe_ix (ixK (K := K) rfl) (pv 5) pe_int (fun _ _ => rfl)) pa_nil))))
    (pss_cons (ps_set (i := 7) sc_Lbent_body.nd rfl (Or.inl rfl) (pe_lst (pa_cons (pe_lst (pa_cons (pv 8) pa_nil)) (pa_cons (pe_lst (pa_cons (pe_tup (pa_cons (pv 6) (pa_cons (pe_ix (ixK (K := K) rfl) (pv 1) (pe_f D_Ldraw (hr.mono (by omega)) T.g__law_draw (pa_cons (pv 0) (pa_cons (pe_callB (cLenK (K := K) rfl) (by rfl) T.b_len PySem.boot_len (pa_cons (pv 1) pa_nil)) pa_nil))) (fun _ _ => rfl)) pa_nil))) pa_nil)) (pa_cons (pe_lst (pa_cons (pe_tup (pa_cons pe_str (pa_cons (pe_tup (pa_cons (pv 5) pa_nil)) pa_nil))) pa_nil)) (pa_cons (pe_lst pa_nil) pa_nil))))))
    (pss_one (ps_set (i := 7) sc_Lbent_body.nd rfl (Or.inl rfl) (pe_ix (ixK (K := K) rfl) (pv 7) (pe_f D_Ldraw (hr.mono (by omega)) T.g__law_draw (pa_cons (pv 0) (pa_cons pe_int pa_nil))) (fun _ _ => rfl)))))) pss_nil))) (pss_one (ps_if (pt_cmpR (oEqK (K := K) rfl (hu64 hr)) (pv 6) pe_str (nomark _)) (pss_one (ps_set (i := 7) sc_Lbent_body.nd rfl (Or.inl rfl) (pe_lst (pa_cons (pe_tup (pa_cons (pv 6) (pa_cons (pe_callTy (tupK (K := K) rfl) (by rfl) T.b_tuple (by decide +kernel) (pa_cons (pe_lc (own := [("inner", 9)]) (tt := tYes) rfl sc_Lbent_body.nd (iTupK (K := K) rfl (pe_ix (ixK (K := K) rfl) (pv 5) pe_int (fun _ _ => rfl))) (blkOk_by (N := N_Lbent_body) (sc := defScope s_Lbent_body) (own := [("inner", 9)]) (by decide +kernel)) (fun _ _ _ _ _ => (pg_name (i := 9) sc_Lbent_body.nd rfl (Or.inl rfl))) (fun _ _ _ _ _ => pts_nil) (fun _ _ _ _ _ => (pe_f D_Lbent_body (hr.mono (by omega)) T.g__law_bent_body (pa_cons (pv 0) (pa_cons (pv 1) (pa_cons (pv 9) (pa_cons (pv 3) pa_nil))))))) pa_nil)) pa_nil))) pa_nil)))) (pss_one (ps_if (pt_cmpR (inK (K := K) rfl) (pv 6) (pe_tup (pa_cons pe_str (pa_cons pe_str pa_nil))) (by rfl)) (pss_one (ps_set (i := 7) sc_Lbent_body.nd rfl (Or.inl rfl) (pe_lst (pa_cons (pe_op (oAddK (K := K) rfl) (pe_tup (pa_cons (pv 6) pa_nil)) (pe_callTy (tupK (K := K) rfl) (by rfl) T.b_tuple (by decide +kernel) (pa_cons (pe_lc (own := [("inner", 9)]) (tt := tYes) rfl sc_Lbent_body.nd (iTupK (K := K) rfl (pe_slice (slTupK (K := K) rfl) (pv 5) (po_some pe_int) po_none)) (blkOk_by (N := N_Lbent_body) (sc := defScope s_Lbent_body) (own := [("inner", 9)]) (by decide +kernel)) (fun _ _ _ _ _ => (pg_name (i := 9) sc_Lbent_body.nd rfl (Or.inl rfl))) (fun _ _ _ _ _ => pts_nil) (fun _ _ _ _ _ => (pe_f D_Lbent_body (hr.mono (by omega)) T.g__law_bent_body (pa_cons (pv 0) (pa_cons (pv 1) (pa_cons (pv 9) (pa_cons (pv 3) pa_nil))))))) pa_nil))) pa_nil)))) pss_nil)))))
    (pss_one (ps_expr (pe_bm PySem.F.plainAttrs_list PySem.F.slot_list_extend PySem.F.type_list_extend mt_extend (pv 4) (pa_cons (pv 7) pa_nil)))))))
    (pss_one (ps_ret (pe_callTy (tupK (K := K) rfl) (by rfl) T.b_tuple (by decide +kernel) (pa_cons (pv 4) pa_nil)))))), ?_⟩
  have sz : 100000 < sizeLine := by decide
  refine ⟨Nat.zero_le _, fun lm hlm => ?_⟩
  have s1 := same_new hlm (.lst [])
  have nam := hs.na hlm
  have ncm := hs.nc hlm
  have nfm : af ≠ lm := ne_of_none eaf hlm
  refine ⟨_, rfl, ab, rfl, ⟨_, (tk_same s1).seq hA⟩, for_it walk_tup (fun i σ H' => ∃ (mws : List V) (b' : Bod) (l' : Int) (A' : Nat) (v5 v6 v7 v8 v9 : Option V), σ = [some (.ref a), some (.ref al), some (.ref ab), some (.ref af), some (.ref lm), v5, v6, v7, v8, v9] ∧ Kp [a, af] H H' ∧ Tk H H' ∧ SrcAt H' a c A' ∧ H' af = some (.lst [.int l']) ∧ H' lm = some (.lst mws) ∧ Dats K H' mws (b'.map stmD) ∧ BtOk L Pn (b.take i) b' ∧ (cntB b' : Int) + uL l' ≤ cntB (b.take i) + uL l ∧ A' ≤ B + 2 * cntB (b.take i))
    ⟨[], [], l, B, none, none, none, none, none, rfl, .of s1, tk_same s1, hs.same s1, s1 _ _ eaf, upd_same, .nil, .nil, by simp [cntB], by omega⟩ (fun _ _ _ _ ⟨_, _, _, _, _, _, _, _, _, _, _, t, _⟩ => t.seq hA) ?_ ?_⟩
  · rintro i z σ H30 H3 hi ⟨mws, b', l', A', v5, v6, v7, v8, v9, rfl, k3, t3, hs3, ef3, em3, md3, go, cu, hA'⟩ ⟨rfl, hz⟩
    obtain ⟨s1, hs1, sd⟩ := stms_at (hX.tk t3) hz
    have m1 := List.mem_of_getElem? hs1
    have w1 := wfB_mem wf m1
    have d1 := dep_mem m1
    have ct := cntB_take hs1
    have ctl := cntB_take_le b (i + 1)
    have lmw := md3.length
    rw [List.length_map] at lmw
    have gol := go.len
    have ltk : (b.take i).length ≤ b.length := by rw [List.length_take]; omega
    have eal3 := t3.seq eal
    obtain ⟨sa, wd, ys, rfl, rfl, hsa, hys⟩ := stm_get sd
    refine ⟨_, rfl, .inr (.inl ⟨sa, _, 0, _, rfl, rfl, hsa, atI_nat (j := 0) rfl, _, rfl, by show 1 ≤ sizeLine; decide, fun nl0 hnl0 => ⟨_, _, rfl, ?_⟩⟩)⟩
    have s4 := same_new hnl0 (.lst [.ref sa])
    have hs4 := hs3.same s4
    have ef4 := s4 _ _ ef3
    have eal4 := (tk_same s4).seq eal3
    have em4 := s4 _ _ em3
    have en4 : (upd H3 nl0 (.lst [.ref sa])) nl0 = some (.lst [.ref sa]) := upd_same
    have t34 := tk_same s4
    have k34 : Kp [a, af] H3 (upd H3 nl0 (.lst [.ref sa])) := .of s4
    have nna := (hs3.na hnl0)
    have nnf : af ≠ nl0 := ne_of_none ef3 hnl0
    generalize upd H3 nl0 (.lst [.ref sa]) = H4 at hs4 ef4 eal4 em4 en4 t34 k34
    have hsa4 := t34.seq hsa
    have sd4 := sd.tk t34
    dsimp only
    refine tif_cut (fun σ' H' => ∃ (nl : Addr) (nws : List V) (nb : Bod) (l2 : Int) (A2 : Nat) (v8 v9 : Option V), σ' = [some (.ref a), some (.ref al), some (.ref ab), some (.ref af), some (.ref lm), some (.ref sa), some (.str (wrd s1)), some (.ref nl), v8, v9] ∧ Kp [a, af] H4 H' ∧ Tk H4 H' ∧ SrcAt H' a c A2 ∧ H' af = some (.lst [.int l2]) ∧ H' nl = some (.lst nws) ∧ nl ≠ lm ∧ Dats K H' nws (nb.map stmD) ∧ BtOk L Pn [s1] nb ∧ (cntB nb : Int) + uL l2 ≤ cntS s1 + uL l' ∧ A2 ≤ A' + 2 * cntS s1) ?rest fun rest => ?_
    case rest =>
      rintro σ' H5 ⟨nl, nws, nb, l2, A2, v8, v9, rfl, k5, t5, hs5, ef5, en5, nlm, nd5, bt, cu5, hA5⟩
      have em5 := k5 _ _ em4 (by simp [nam.symm, nfm.symm])
      have lnw := nd5.length
      rw [List.length_map] at lnw
      have btl := bt.len
      have hsl : [s1].length = 1 := rfl
      refine ⟨_, rfl, .inl ⟨rfl, _, SqL.of em5⟩, _, rfl, lm, nl, _, _, rfl, rfl, em5, en5, by omega, ?_⟩
      have tU := tk_lst (o' := .lst (mws ++ nws)) em5
      refine ⟨mws ++ nws, b' ++ nb, l2, A2, _, _, _, _, _, rfl, kp_updn (k3.trans (k34.trans k5)) hlm _, t3.trans (t34.trans (t5.trans tU)), hs5.kp (kp_upd (M := [lm]) (by simp) _) (by simpa using nam) (by simpa using ncm), by rw [upd_ne nfm]; exact ef5, upd_same, ?_, ?_, ?_, by omega⟩
      · rw [List.map_append]
        exact ((md3.tk (t34.trans t5)).append nd5).tk tU
      · rw [take_snoc hs1]; exact go.append bt
      · rw [cntB_append]; omega
    cases s1 with
    | call x =>
      refine ⟨_, rfl, by show 2 ≤ sizeLine; decide, fun tp htp => ⟨tp, _, rfl, .inr (SqT.of upd_same), rfl, rfl, _, rfl, iff' rfl ?_⟩⟩
      have x1 := same_new htp (.tup [.str "do", .str "undo"])
      refine ⟨_, rfl, .inl ⟨rfl, _, rfl, iteF ?_⟩⟩
      refine ⟨_, rfl, by show 2 ≤ sizeLine; decide, fun tq htq => ⟨tq, _, rfl, .inr (SqT.of upd_same), rfl, rfl, _, rfl, iff' rfl ?_⟩⟩
      have x2 := x1.trans (same_new htq (.tup [.str "loop", .str "ensure"]))
      exact rest _ _ ⟨nl0, [.ref sa], [.call x], l', A', _, _, rfl, .of x2, tk_same x2, hs4.same x2, x2 _ _ ef4, x2 _ _ en4, (ne_of_none em3 hnl0).symm, .cons (sd4.tk (tk_same x2)) .nil, .same w1, by simp only [cntB]; omega, by omega⟩
    | ret =>
      refine ⟨_, rfl, by show 2 ≤ sizeLine; decide, fun tp htp => ⟨tp, _, rfl, .inr (SqT.of upd_same), rfl, rfl, _, rfl, iff' rfl ?_⟩⟩
      have x1 := same_new htp (.tup [.str "do", .str "undo"])
      refine ⟨_, rfl, .inl ⟨rfl, _, rfl, iteF ?_⟩⟩
      refine ⟨_, rfl, by show 2 ≤ sizeLine; decide, fun tq htq => ⟨tq, _, rfl, .inr (SqT.of upd_same), rfl, rfl, _, rfl, iff' rfl ?_⟩⟩
      have x2 := x1.trans (same_new htq (.tup [.str "loop", .str "ensure"]))
      exact rest _ _ ⟨nl0, [.ref sa], [.ret], l', A', _, _, rfl, .of x2, tk_same x2, hs4.same x2, x2 _ _ ef4, x2 _ _ en4, (ne_of_none em3 hnl0).symm, .cons (sd4.tk (tk_same x2)) .nil, .same w1, by simp only [cntB]; omega, by omega⟩
    | act u x =>
      have hx : x ∈ L := of_decide_eq_true w1
      obtain ⟨y1, yr, rfl, hy1, hyr⟩ := hys.inv_cons
      cases hyr.inv_nil
      cases hy1.inv_str
      have hw : ∀ u : Bool, inV (V.str (actW u)) [V.str "do", V.str "undo"] = true := fun u => by cases u <;> rfl
      refine ⟨_, rfl, by show 2 ≤ sizeLine; decide, fun tp htp => ⟨tp, _, rfl, .inr (SqT.of upd_same), rfl, rfl, _, rfl, ift (hw u) ?_⟩⟩
      have x1 := same_new htp (.tup [.str "do", .str "undo"])
      have ef5 := x1 _ _ ef4
      have en5 := x1 _ _ en4
      have hs5 := hs4.same x1
      refine ⟨_, rfl, af, [.int l'], 0, _, rfl, rfl, SqL.of ef5, atI_nat (j := 0) rfl, _, _, rfl, rfl, af, _, 0, 0, rfl, rfl, ef5, rfl, ?_⟩
      have y1k : Kp [a, af] H4 (upd (upd H4 tp (.tup [.str "do", .str "undo"])) af (.lst [.int (l' - 1)])) := (Kp.of x1).trans (kp_upd (by simp) _)
      have y1t : Tk H4 (upd (upd H4 tp (.tup [.str "do", .str "undo"])) af (.lst [.int (l' - 1)])) := (tk_same x1).trans (tk_lst ef5)
      have y1s : SrcAt (upd (upd H4 tp (.tup [.str "do", .str "undo"])) af (.lst [.int (l' - 1)])) a c A' := hs5.kp (kp_upd (M := [af]) (by simp) _) (by simpa using naf) (by simpa using ncf)
      have y1f : (upd (upd H4 tp (.tup [.str "do", .str "undo"])) af (.lst [.int (l' - 1)])) af = some (.lst [.int (l' - 1)]) := upd_same
      generalize hY : upd (upd H4 tp (.tup [.str "do", .str "undo"])) af (.lst [.int (l' - 1)]) = Y at y1k y1t y1s y1f
      have hY2 : upd (upd H4 tp (.tup [.str "do", .str "undo"])) af (HO.lst ([V.int l'].set 0 (V.int ((fun i j : Int => i - j) l' 1)))) = Y := hY
      rw [hY2]
      have y1n := y1k _ _ en4 (by simp [nna.symm, nnf.symm])
      have y1m := y1k _ _ em4 (by simp [nam.symm, nfm.symm])
      have y1l := y1t.seq eal4
      have y1a := y1t.seq hsa4
      refine ⟨_, rfl, .inl ⟨af, _, 0, _, rfl, rfl, SqL.of y1f, atI_nat (j := 0) rfl, .inl ⟨rfl, _, rfl, ite2 (fun h0 => ?_) (fun h1 => ?_)⟩⟩⟩
      · have h0 := of_decide_eq_true h0
        injection h0 with h0
        have uu : uL l' = 1 ∧ uL (l' - 1) = 0 := by unfold uL; omega
        refine ⟨by show 2 ≤ sizeLine; decide, fun wl hwl => ?_⟩
        have z1 := same_new hwl (.lst [.str "undo", .str "do"])
        have hcmp : ∃ j : Nat, (if decide (V.str (actW u) = V.str "undo") = true then (1 : Int) else 0) = (j : Int) ∧ [V.str "undo", V.str "do"][j]? = some (.str (actW (!u))) := by
          cases u
          · exact ⟨0, rfl, rfl⟩
          · exact ⟨1, rfl, rfl⟩
        obtain ⟨j, ej, hj⟩ := hcmp
        refine ⟨_, rfl, .inl ⟨rfl, .inr ⟨_, rfl, .inl ⟨wl, _, (j : Int), _, rfl, ?_, SqL.of upd_same, atI_nat hj, ?_⟩⟩⟩⟩
        · exact congrArg V.int ej
        refine ⟨_, rfl, .inr (.inl ⟨sa, _, 1, _, rfl, rfl, (tk_same z1).seq y1a, atI_nat (j := 1) rfl, by show 2 ≤ sizeLine; decide, fun po hpo => ?_⟩)⟩
        have z2 := same_new hpo (.tup [.str (actW (!u)), .str x])
        refine ⟨_, rfl, by show 1 ≤ sizeLine; decide, fun n1 hn1 => ?_⟩
        have z3 := same_new hn1 (.lst [.ref po])
        have z13 := z1.trans (z2.trans z3)
        refine ⟨_, rfl, _, rfl, _, rfl, _, rfl, _, _, rfl, .inr ⟨_, (tk_same z13).seq y1l, rfl⟩, a, c, _, A', rfl, y1s.same z13, by rw [List.length_map]; omega, by rw [List.length_map]; omega, by omega, fun k H6 hk k6 t6 hs6 => ?_⟩
        have hk : k < L.length := by
          rw [List.length_map] at hk; omega
        have e2 : (L.map V.str)[k]? = some (.str L[k]) := by rw [List.getElem?_map, List.getElem?_eq_getElem hk]; rfl
        refine .inr (.inl ⟨al, _, (k : Int), _, rfl, rfl, t6.seq ((tk_same z13).seq y1l), atI_nat e2, by show 2 ≤ sizeLine; decide, fun p2 hp2 => ⟨by show 1 ≤ sizeLine; decide, fun n2 hn2 => ⟨_, rfl, by show 1 ≤ sizeLine; decide, fun p3 hp3 => ⟨by show 2 ≤ sizeLine; decide, fun p4 hp4 => ⟨by show 1 ≤ sizeLine; decide, fun n3 hn3 => ⟨Nat.zero_le _, fun n4 hn4 => ⟨by show 4 ≤ sizeLine; decide, fun nl hnl => ?_⟩⟩⟩⟩⟩⟩⟩)
        have r1 := same_new hp2 (.tup [.str (actW u), .str L[k]])
        have r2 := same_new hn2 (.lst [.ref p2])
        have r3 := same_new hp3 (.tup [.ref sa])
        have r4 := same_new hp4 (.tup [.str "loop", .ref p3])
        have r5 := same_new hn3 (.lst [.ref p4])
        have r6 := same_new hn4 (.lst [])
        have r7 := same_new hnl (.lst [.ref n1, .ref n2, .ref n3, .ref n4])
        have r67 := r6.trans r7
        have r57 := r5.trans r67
        have r47 := r4.trans r57
        have r37 := r3.trans r47
        have r27 := r2.trans r37
        have r17 := r1.trans r27
        have hs7 := hs6.same r17
        have nal := (hs6.same (r1.trans (r2.trans (r3.trans (r4.trans (r5.trans r6)))))).na hnl
        refine ⟨_, rfl, _, rfl, a, c, 4, A' + 1, rfl, hs7, by decide, by decide, by omega, fun wi H8 hwi k8 t8 hs8 => ?_⟩
        have enl := k8 nl _ upd_same (by simpa using nal.symm)
        have kq : Kp [a] Y H8 := (Kp.of z13).trans (k6.trans ((Kp.of r17).trans k8))
        have tq : Tk Y H8 := (tk_same z13).trans (t6.trans ((tk_same r17).trans t8))
        have na1 : a ≠ n1 := (y1s.same (z1.trans z2)).na hn1
        have na2 : a ≠ n2 := (hs6.same r1).na hn2
        have na3 : a ≠ n3 := (hs6.same (r1.trans (r2.trans (r3.trans r4)))).na hn3
        have na4 : a ≠ n4 := (hs6.same (r1.trans (r2.trans (r3.trans (r4.trans r5))))).na hn4
        have f1 := k8 n1 _ (r17 _ _ (k6 n1 _ (upd_same (H := upd (upd Y wl (.lst [.str "undo", .str "do"])) po (.tup [.str (actW (!u)), .str x])) (o := .lst [.ref po])) (by simpa using na1.symm))) (by simpa using na1.symm)
        have f2 := k8 n2 _ (r37 n2 _ upd_same) (by simpa using na2.symm)
        have f3 := k8 n3 _ (r67 n3 _ upd_same) (by simpa using na3.symm)
        have f4 := k8 n4 _ (r7 n4 _ upd_same) (by simpa using na4.symm)
        have d1 : Dat K H8 (.ref po) (stmD (.act (!u) x)) := .tup (((tk_same z3).trans (t6.trans ((tk_same r17).trans t8))).seq (SqT.of upd_same)) (.cons (.str _) (.cons (.str _) .nil))
        have d2 : Dat K H8 (.ref p2) (stmD (.act u L[k])) := .tup (((tk_same r27).trans t8).seq (SqT.of upd_same)) (.cons (.str _) (.cons (.str _) .nil))
        have d3 : Dat K H8 (.ref p4) (stmD (.loop [.act u x])) := .tup (((tk_same r57).trans t8).seq (SqT.of upd_same)) (.cons (.str _) (.cons (bodD_of (((tk_same r47).trans t8).seq (SqT.of upd_same)) (.cons (sd4.tk (y1t.trans tq)) .nil)) .nil))
        have m1 : n1 ≠ lm := (ne_of_none ((z1.trans z2) _ _ y1m) hn1).symm
        have em6 := k6 _ _ (z13 _ _ y1m) (by simpa using nam.symm)
        have m2 : n2 ≠ lm := (ne_of_none (r1 _ _ em6) hn2).symm
        have m3 : n3 ≠ lm := (ne_of_none ((r1.trans (r2.trans (r3.trans r4))) _ _ em6) hn3).symm
        have m4 : n4 ≠ lm := (ne_of_none ((r1.trans (r2.trans (r3.trans (r4.trans r5)))) _ _ em6) hn4).symm
        have ef8 := kq _ _ y1f (by simpa using naf.symm)
        have kk : Kp [a, af] H4 H8 := y1k.trans (kq.mono (by simp))
        have tt := y1t.trans tq
        have hwi : wi = 0 ∨ wi = 1 ∨ wi = 2 ∨ wi = 3 := by omega
        rcases hwi with rfl | rfl | rfl | rfl
        · exact .inl ⟨nl, _, ((0 : Nat) : Int), _, rfl, rfl, SqL.of enl, atI_nat rfl, rest _ _ ⟨n1, [.ref po], [.act (!u) x], l' - 1, A' + 2, _, _, rfl, kk, tt, hs8, ef8, f1, m1, .cons d1 .nil, .act (.inr (.inl ⟨_, _, hx, rfl⟩)), by simp only [cntB, cntS]; omega, by simp only [cntS]; omega⟩⟩
        · exact .inl ⟨nl, _, ((1 : Nat) : Int), _, rfl, rfl, SqL.of enl, atI_nat rfl, rest _ _ ⟨n2, [.ref p2], [.act u L[k]], l' - 1, A' + 2, _, _, rfl, kk, tt, hs8, ef8, f2, m2, .cons d2 .nil, .act (.inr (.inl ⟨_, _, List.getElem_mem hk, rfl⟩)), by simp only [cntB, cntS]; omega, by simp only [cntS]; omega⟩⟩
        · exact .inl ⟨nl, _, ((2 : Nat) : Int), _, rfl, rfl, SqL.of enl, atI_nat rfl, rest _ _ ⟨n3, [.ref p4], [.loop [.act u x]], l' - 1, A' + 2, _, _, rfl, kk, tt, hs8, ef8, f3, m3, .cons d3 .nil, .act (.inr (.inr ⟨hx, rfl⟩)), by simp only [cntB, cntS]; omega, by simp only [cntS]; omega⟩⟩
        · exact .inl ⟨nl, _, ((3 : Nat) : Int), _, rfl, rfl, SqL.of enl, atI_nat rfl, rest _ _ ⟨n4, [], [], l' - 1, A' + 2, _, _, rfl, kk, tt, hs8, ef8, f4, m4, .nil, .act (.inl rfl), by simp only [cntB, cntS]; omega, by simp only [cntS]; omega⟩⟩
      · have uu : uL (l' - 1) ≤ uL l' := by unfold uL; omega
        exact rest _ _ ⟨nl0, [.ref sa], [.act u x], l' - 1, A', _, _, rfl, y1k, y1t, y1s, y1f, y1n, (ne_of_none em3 hnl0).symm, .cons (sd4.tk y1t) .nil, .same w1, by simp only [cntB]; omega, by omega⟩
    | cho bs =>
      obtain ⟨y1, yr, rfl, hy1, hyr⟩ := hys.inv_cons
      cases hyr.inv_nil
      obtain ⟨bp, bws, rfl, hbp, hbd⟩ := hy1.inv_tup
      rw [bodDs_map] at hbd
      have lbs := hbd.length
      rw [List.length_map] at lbs
      have w1' := w1
      simp only [wfS, Bool.and_eq_true, decide_eq_true_eq] at w1
      simp only [depS] at d1
      simp only [cntS] at ct
      refine ⟨_, rfl, by show 2 ≤ sizeLine; decide, fun tp htp => ⟨tp, _, rfl, .inr (SqT.of upd_same), rfl, rfl, _, rfl, iff' rfl ?_⟩⟩
      have x1 := same_new htp (.tup [.str "do", .str "undo"])
      have hs5 := hs4.same x1
      have ef5 := x1 _ _ ef4
      have eal5 := (tk_same x1).seq eal4
      have hbp5 := (t34.trans (tk_same x1)).seq hbp
      have hbd5 := hbd.tk (t34.trans (tk_same x1))
      refine ⟨_, rfl, .inl ⟨rfl, _, rfl, ift rfl ?_⟩⟩
      refine ⟨_, rfl, _, rfl, .inr (.inl ⟨sa, _, 1, _, rfl, rfl, (tk_same x1).seq hsa4, atI_nat (j := 1) rfl, ?_⟩)⟩
      refine ⟨bp, rfl, ⟨_, hbp5⟩, fun D nD => lc_acc walk_tup [a, af] (fun j acc H' => ∃ (bs' : List Bod) (l2 : Int) (A2 : Nat), SrcAt H' a c A2 ∧ H' af = some (.lst [.int l2]) ∧ Dats K H' acc (bs'.map bodD) ∧ Bt2 L Pn (bs.take j) bs' ∧ (cntBs bs' : Int) + uL l2 ≤ cntBs (bs.take j) + uL l' ∧ A2 ≤ A' + 2 * cntBs (bs.take j)) nD (fun _ _ _ _ t _ => t.seq hbp5) (fun _ _ _ _ _ _ hD ⟨bs', l2, A2, p1, p2, p3, p4, p5, p6⟩ => ⟨bs', l2, A2, p1.kp (kp_upd (M := [D]) (by simp) _) (by simpa using hs5.na nD) (by simpa using hs5.nc nD), by rw [upd_ne (ne_of_none ef5 nD)]; exact p2, p3.tk (tk_lst hD), p4, p5, p6⟩) ⟨[], l', A', hs5.kp (kp_upd (M := [D]) (by simp) _) (by simpa using hs5.na nD) (by simpa using hs5.nc nD), by rw [upd_ne (ne_of_none ef5 nD)]; exact ef5, .nil, .nil, by simp [cntBs], by omega⟩ ?_ (by simpa using ⟨(hs5.na nD).symm, (ne_of_none ef5 nD).symm⟩) ?_ ?_⟩
      · rw [lbs]; exact Nat.lt_of_le_of_lt w1.2.1 (by decide)
      · rintro j y acc H6 H6' hj k t hD la ⟨bs', l2, A2, p1, p2, p3, p4, p5, p6⟩ ⟨rfl, hy⟩ N E1 hN _
        obtain ⟨b2, hb2, bd2⟩ := bods_at (hbd5.tk t) hy
        have m2 := List.mem_of_getElem? hb2
        have ct2 := cntBs_take hb2
        have ctl2 := cntBs_take_le bs (j + 1)
        have eal6 := t.seq (eal5)
        refine ⟨rfl, tyes ⟨_, rfl, _, rfl, _, rfl, _, rfl, a, c, al, af, L, Pn, _, b2, l2, A2, rfl, p1, eal6, L1, L20, p2, naf, ncf, bd2, wfBs_mem w1.2.2 m2, by have := deps_mem m2; omega, by omega, by omega, fun r H7 b3 l3 A3 k7 t7 hs7 ef7 hA7 bd7 bt7 cu7 => hN _ _ k7 t7 ⟨bs' ++ [b3], l3, A3, hs7, ef7, ?_, ?_, ?_, by omega⟩⟩⟩
        · rw [List.map_append]
          exact (p3.tk t7).append (.cons bd7 .nil)
        · rw [take_snoc hb2]; exact p4.snoc bt7
        · rw [cntBs_append]; simp only [cntBs]; omega
      rintro H6 acc k6 t6 hD _ ⟨bs', l2, A2, p1, p2, p3, p4, p5, p6⟩
      rw [lbs, List.take_length] at p4 p5 p6
      have lac := p3.length
      rw [List.length_map, p4.len] at lac
      refine ⟨D, _, rfl, .inl ⟨SqL.of hD, fun rt hrt => ?_⟩⟩
      have z1 := same_new hrt (.tup acc)
      refine ⟨by show 2 ≤ sizeLine; decide, fun tc htc => ⟨by show 1 ≤ sizeLine; decide, fun nl hnl => ?_⟩⟩
      have z2 := same_new htc (.tup [.str "choose", .ref rt])
      have z3 := same_new hnl (.lst [.ref tc])
      have z13 := z1.trans (z2.trans z3)
      have bt := BtOk.cho w1' p4.ok
      have nlm : nl ≠ lm := (ne_of_none ((z1.trans z2) _ _ (k6 _ _ (x1 _ _ em4) (by simp [nam.symm, nfm.symm]))) hnl).symm
      refine rest _ _ ⟨nl, [.ref tc], [.cho bs'], l2, A2, _, _, rfl, (Kp.of x1).trans (k6.trans (.of z13)), (tk_same x1).trans (t6.trans (tk_same z13)), p1.same z13, z13 _ _ p2, upd_same, nlm, ?_, bt, by simp only [cntB, cntS]; omega, by simp only [cntS]; omega⟩
      exact .cons (.tup (SqT.of (z3 _ _ upd_same)) (.cons (.str _) (.cons (bodDs_of (SqT.of ((z2.trans z3) _ _ upd_same)) (p3.tk (tk_same z13))) .nil))) .nil
    | loop b1 =>
      obtain ⟨y1, yr, rfl, hy1, hyr⟩ := hys.inv_cons
      cases hyr.inv_nil
      have w1' := w1
      simp only [wfS] at w1
      simp only [depS] at d1
      simp only [cntS] at ct
      have hbd0 : Dats K H3 [y1] ([b1].map bodD) := .cons hy1 .nil
      refine ⟨_, rfl, by show 2 ≤ sizeLine; decide, fun tp htp => ⟨tp, _, rfl, .inr (SqT.of upd_same), rfl, rfl, _, rfl, iff' rfl ?_⟩⟩
      have x1 := same_new htp (.tup [.str "do", .str "undo"])
      refine ⟨_, rfl, .inl ⟨rfl, _, rfl, iteF ?_⟩⟩
      refine ⟨_, rfl, by show 2 ≤ sizeLine; decide, fun tq htq => ⟨tq, _, rfl, .inr (SqT.of upd_same), rfl, rfl, _, rfl, ift rfl ?_⟩⟩
      have x2 := x1.trans (same_new htq (.tup [.str "loop", .str "ensure"]))
      refine ⟨_, rfl, by show 1 ≤ sizeLine; decide, fun tw htw => ?_⟩
      have x3 := same_new htw (.tup [.str (wrd (.loop b1))])
      have x13 := x2.trans x3
      refine ⟨_, rfl, _, rfl, sa, _, rfl, (tk_same x13).seq hsa4, fun hw => ?_, fun _ rp hrp => ?_⟩
      · exact absurd hw.1 (by rw [show (1 : Int) = ((1 : Nat) : Int) from rfl, HT.sIx_nat]; simp)
      have x4 := same_new hrp (.tup (cutV (.str (wrd (.loop b1)) :: [y1]) (some 1) none))
      have ec : cutV (V.str (wrd (.loop b1)) :: [y1]) (some 1) none = [y1] := by
        rw [show (1 : Int) = ((1 : Nat) : Int) from rfl, cutV_drop]; rfl
      rw [ec] at x4 ⊢
      have x14 := x13.trans x4
      have hs5 := hs4.same x14
      have ef5 := x14 _ _ ef4
      have eal5 := (tk_same x14).seq eal4
      have hbp5 : SqT K _ rp [y1] := SqT.of (upd_same (H := upd (upd (upd H4 tp (.tup [.str "do", .str "undo"])) tq (.tup [.str "loop", .str "ensure"])) tw (.tup [.str (wrd (.loop b1))])))
      have hbd5 := hbd0.tk (t34.trans (tk_same x14))
      have e1 : [y1].length = [b1].length := rfl
      refine ⟨rp, rfl, ⟨_, hbp5⟩, fun D nD => lc_acc walk_tup [a, af] (fun j acc H' => ∃ (bs' : List Bod) (l2 : Int) (A2 : Nat), SrcAt H' a c A2 ∧ H' af = some (.lst [.int l2]) ∧ Dats K H' acc (bs'.map bodD) ∧ Bt2 L Pn ([b1].take j) bs' ∧ (cntBs bs' : Int) + uL l2 ≤ cntBs ([b1].take j) + uL l' ∧ A2 ≤ A' + 2 * cntBs ([b1].take j)) nD (fun _ _ _ _ t _ => t.seq hbp5) (fun _ _ _ _ _ _ hD ⟨bs', l2, A2, p1, p2, p3, p4, p5, p6⟩ => ⟨bs', l2, A2, p1.kp (kp_upd (M := [D]) (by simp) _) (by simpa using hs5.na nD) (by simpa using hs5.nc nD), by rw [upd_ne (ne_of_none ef5 nD)]; exact p2, p3.tk (tk_lst hD), p4, p5, p6⟩) ⟨[], l', A', hs5.kp (kp_upd (M := [D]) (by simp) _) (by simpa using hs5.na nD) (by simpa using hs5.nc nD), by rw [upd_ne (ne_of_none ef5 nD)]; exact ef5, .nil, .nil, by simp [cntBs], by omega⟩ ?_ (by simpa using ⟨(hs5.na nD).symm, (ne_of_none ef5 nD).symm⟩) ?_ ?_⟩
      · rw [e1]; exact Nat.lt_of_le_of_lt (show _ ≤ 3 from by simp) (by decide)
      · rintro j y acc H6 H6' hj k t hD la ⟨bs', l2, A2, p1, p2, p3, p4, p5, p6⟩ ⟨rfl, hy⟩ N E1 hN _
        obtain ⟨b2, hb2, bd2⟩ := bods_at (hbd5.tk t) hy
        have m2 := List.mem_of_getElem? hb2
        have ct2 := cntBs_take hb2
        have ctl2 := cntBs_take_le [b1] (j + 1)
        simp only [cntBs] at ctl2
        have eal6 := t.seq (eal5)
        refine ⟨rfl, tyes ⟨_, rfl, _, rfl, _, rfl, _, rfl, a, c, al, af, L, Pn, _, b2, l2, A2, rfl, p1, eal6, L1, L20, p2, naf, ncf, bd2, by rw [List.mem_singleton.mp m2]; exact w1, by rw [List.mem_singleton.mp m2]; omega, by omega, by omega, fun r H7 b3 l3 A3 k7 t7 hs7 ef7 hA7 bd7 bt7 cu7 => hN _ _ k7 t7 ⟨bs' ++ [b3], l3, A3, hs7, ef7, ?_, ?_, ?_, by omega⟩⟩⟩
        · rw [List.map_append]
          exact (p3.tk t7).append (.cons bd7 .nil)
        · rw [take_snoc hb2]; exact p4.snoc bt7
        · rw [cntBs_append]; simp only [cntBs]; omega
      rintro H6 acc k6 t6 hD _ ⟨bs', l2, A2, p1, p2, p3, p4, p5, p6⟩
      rw [e1, List.take_length] at p4 p5 p6
      have lac := p3.length
      rw [List.length_map, p4.len] at lac
      refine ⟨D, _, rfl, .inl ⟨SqL.of hD, fun rt hrt => ?_⟩⟩
      have z1 := same_new hrt (.tup acc)
      refine .inr (.inr (.inr ⟨tw, rt, _, acc, rfl, rfl, SqT.of (z1 _ _ (k6 _ _ (x4 _ _ upd_same) ?_)), SqT.of upd_same, by simp at lac ⊢; omega, (fun e => by cases e), (fun _ e => by rw [e] at lac; simp at lac), fun _ _ pp hpp => ⟨by show 1 ≤ sizeLine; decide, fun nl hnl => ?_⟩⟩))
      · have ha := (hs4.same x2).na htw
        have hf := ne_of_none (x2 _ _ ef4) htw
        simp [ha.symm, hf.symm]
      have z2 := same_new hpp (.tup ([.str (wrd (.loop b1))] ++ acc))
      have z3 := same_new hnl (.lst [.ref pp])
      have z13 := z1.trans (z2.trans z3)
      have nlm : nl ≠ lm := (ne_of_none ((z1.trans z2) _ _ (k6 _ _ (x14 _ _ em4) (by simp [nam.symm, nfm.symm]))) hnl).symm
      obtain ⟨b1', rfl, g1⟩ := p4.one
      obtain ⟨q1, qr, rfl, hq1, hqr⟩ := p3.inv_cons
      cases hqr.inv_nil
      simp only [cntBs] at p5 p6
      refine rest _ _ ⟨nl, [.ref pp], [.loop b1'], l2, A2, _, _, rfl, (Kp.of x14).trans (k6.trans (.of z13)), (tk_same x14).trans (t6.trans (tk_same z13)), p1.same z13, z13 _ _ p2, upd_same, nlm, ?_, .lop g1, by simp only [cntB, cntS]; omega, by simp only [cntS]; omega⟩
      exact .cons (.tup (SqT.of (z3 _ _ upd_same)) (.cons (.str _) (.cons (hq1.tk (tk_same z13)) .nil))) .nil
    | ens b1 b3 =>
      obtain ⟨y1, yr, rfl, hy1, hyr⟩ := hys.inv_cons
      obtain ⟨y2, yr, rfl, hy2, hyr⟩ := hyr.inv_cons
      cases hyr.inv_nil
      have w1' := w1
      simp only [wfS, Bool.and_eq_true] at w1
      simp only [depS] at d1
      simp only [cntS] at ct
      have hbd0 : Dats K H3 [y1, y2] ([b1, b3].map bodD) := .cons hy1 (.cons hy2 .nil)
      refine ⟨_, rfl, by show 2 ≤ sizeLine; decide, fun tp htp => ⟨tp, _, rfl, .inr (SqT.of upd_same), rfl, rfl, _, rfl, iff' rfl ?_⟩⟩
      have x1 := same_new htp (.tup [.str "do", .str "undo"])
      refine ⟨_, rfl, .inl ⟨rfl, _, rfl, iteF ?_⟩⟩
      refine ⟨_, rfl, by show 2 ≤ sizeLine; decide, fun tq htq => ⟨tq, _, rfl, .inr (SqT.of upd_same), rfl, rfl, _, rfl, ift rfl ?_⟩⟩
      have x2 := x1.trans (same_new htq (.tup [.str "loop", .str "ensure"]))
      refine ⟨_, rfl, by show 1 ≤ sizeLine; decide, fun tw htw => ?_⟩
      have x3 := same_new htw (.tup [.str (wrd (.ens b1 b3))])
      have x13 := x2.trans x3
      refine ⟨_, rfl, _, rfl, sa, _, rfl, (tk_same x13).seq hsa4, fun hw => ?_, fun _ rp hrp => ?_⟩
      · exact absurd hw.1 (by rw [show (1 : Int) = ((1 : Nat) : Int) from rfl, HT.sIx_nat]; simp)
      have x4 := same_new hrp (.tup (cutV (.str (wrd (.ens b1 b3)) :: [y1, y2]) (some 1) none))
      have ec : cutV (V.str (wrd (.ens b1 b3)) :: [y1, y2]) (some 1) none = [y1, y2] := by
        rw [show (1 : Int) = ((1 : Nat) : Int) from rfl, cutV_drop]; rfl
      rw [ec] at x4 ⊢
      have x14 := x13.trans x4
      have hs5 := hs4.same x14
      have ef5 := x14 _ _ ef4
      have eal5 := (tk_same x14).seq eal4
      have hbp5 : SqT K _ rp [y1, y2] := SqT.of (upd_same (H := upd (upd (upd H4 tp (.tup [.str "do", .str "undo"])) tq (.tup [.str "loop", .str "ensure"])) tw (.tup [.str (wrd (.ens b1 b3))])))
      have hbd5 := hbd0.tk (t34.trans (tk_same x14))
      have e1 : [y1, y2].length = [b1, b3].length := rfl
      refine ⟨rp, rfl, ⟨_, hbp5⟩, fun D nD => lc_acc walk_tup [a, af] (fun j acc H' => ∃ (bs' : List Bod) (l2 : Int) (A2 : Nat), SrcAt H' a c A2 ∧ H' af = some (.lst [.int l2]) ∧ Dats K H' acc (bs'.map bodD) ∧ Bt2 L Pn ([b1, b3].take j) bs' ∧ (cntBs bs' : Int) + uL l2 ≤ cntBs ([b1, b3].take j) + uL l' ∧ A2 ≤ A' + 2 * cntBs ([b1, b3].take j)) nD (fun _ _ _ _ t _ => t.seq hbp5) (fun _ _ _ _ _ _ hD ⟨bs', l2, A2, p1, p2, p3, p4, p5, p6⟩ => ⟨bs', l2, A2, p1.kp (kp_upd (M := [D]) (by simp) _) (by simpa using hs5.na nD) (by simpa using hs5.nc nD), by rw [upd_ne (ne_of_none ef5 nD)]; exact p2, p3.tk (tk_lst hD), p4, p5, p6⟩) ⟨[], l', A', hs5.kp (kp_upd (M := [D]) (by simp) _) (by simpa using hs5.na nD) (by simpa using hs5.nc nD), by rw [upd_ne (ne_of_none ef5 nD)]; exact ef5, .nil, .nil, by simp [cntBs], by omega⟩ ?_ (by simpa using ⟨(hs5.na nD).symm, (ne_of_none ef5 nD).symm⟩) ?_ ?_⟩
      · rw [e1]; exact Nat.lt_of_le_of_lt (show _ ≤ 3 from by simp) (by decide)
      · rintro j y acc H6 H6' hj k t hD la ⟨bs', l2, A2, p1, p2, p3, p4, p5, p6⟩ ⟨rfl, hy⟩ N E1 hN _
        obtain ⟨b2, hb2, bd2⟩ := bods_at (hbd5.tk t) hy
        have m2 := List.mem_of_getElem? hb2
        have ct2 := cntBs_take hb2
        have ctl2 := cntBs_take_le [b1, b3] (j + 1)
        simp only [cntBs] at ctl2
        have eal6 := t.seq (eal5)
        refine ⟨rfl, tyes ⟨_, rfl, _, rfl, _, rfl, _, rfl, a, c, al, af, L, Pn, _, b2, l2, A2, rfl, p1, eal6, L1, L20, p2, naf, ncf, bd2, by rcases List.mem_cons.mp m2 with e | m2; (rw [e]; exact w1.1); (rw [List.mem_singleton.mp m2]; exact w1.2.1), by rcases List.mem_cons.mp m2 with e | m2; (rw [e]; omega); (rw [List.mem_singleton.mp m2]; omega), by omega, by omega, fun r H7 b3 l3 A3 k7 t7 hs7 ef7 hA7 bd7 bt7 cu7 => hN _ _ k7 t7 ⟨bs' ++ [b3], l3, A3, hs7, ef7, ?_, ?_, ?_, by omega⟩⟩⟩
        · rw [List.map_append]
          exact (p3.tk t7).append (.cons bd7 .nil)
        · rw [take_snoc hb2]; exact p4.snoc bt7
        · rw [cntBs_append]; simp only [cntBs]; omega
      rintro H6 acc k6 t6 hD _ ⟨bs', l2, A2, p1, p2, p3, p4, p5, p6⟩
      rw [e1, List.take_length] at p4 p5 p6
      have lac := p3.length
      rw [List.length_map, p4.len] at lac
      refine ⟨D, _, rfl, .inl ⟨SqL.of hD, fun rt hrt => ?_⟩⟩
      have z1 := same_new hrt (.tup acc)
      refine .inr (.inr (.inr ⟨tw, rt, _, acc, rfl, rfl, SqT.of (z1 _ _ (k6 _ _ (x4 _ _ upd_same) ?_)), SqT.of upd_same, by simp at lac ⊢; omega, (fun e => by cases e), (fun _ e => by rw [e] at lac; simp at lac), fun _ _ pp hpp => ⟨by show 1 ≤ sizeLine; decide, fun nl hnl => ?_⟩⟩))
      · have ha := (hs4.same x2).na htw
        have hf := ne_of_none (x2 _ _ ef4) htw
        simp [ha.symm, hf.symm]
      have z2 := same_new hpp (.tup ([.str (wrd (.ens b1 b3))] ++ acc))
      have z3 := same_new hnl (.lst [.ref pp])
      have z13 := z1.trans (z2.trans z3)
      have nlm : nl ≠ lm := (ne_of_none ((z1.trans z2) _ _ (k6 _ _ (x14 _ _ em4) (by simp [nam.symm, nfm.symm]))) hnl).symm
      obtain ⟨b1', b3', rfl, g1, g3⟩ := p4.two
      obtain ⟨q1, qr, rfl, hq1, hqr⟩ := p3.inv_cons
      obtain ⟨q2, qr, rfl, hq2, hqr⟩ := hqr.inv_cons
      cases hqr.inv_nil
      simp only [cntBs] at p5 p6
      refine rest _ _ ⟨nl, [.ref pp], [.ens b1' b3'], l2, A2, _, _, rfl, (Kp.of x14).trans (k6.trans (.of z13)), (tk_same x14).trans (t6.trans (tk_same z13)), p1.same z13, z13 _ _ p2, upd_same, nlm, ?_, .ens w1' g1 g3, by simp only [cntB, cntS]; omega, by simp only [cntS]; omega⟩
      exact .cons (.tup (SqT.of (z3 _ _ upd_same)) (.cons (.str _) (.cons (hq1.tk (tk_same z13)) (.cons (hq2.tk (tk_same z13)) .nil)))) .nil
  · rintro σ H3 ⟨mws, b', l', A', v5, v6, v7, v8, v9, rfl, k3, t3, hs3, ef3, em3, md3, go, cu, hA'⟩
    rw [lw, List.take_length] at go cu hA'
    refine ⟨_, rfl, lm, _, rfl, .inl ⟨SqL.of em3, fun r hr => ?_⟩⟩
    have s4 := same_new hr (.tup mws)
    exact q (.ref r) _ b' l' A' (k3.trans (.of s4)) (t3.trans (tk_same s4)) (hs3.same s4) (s4 _ _ ef3) hA' (bodD_of (SqT.of upd_same) (md3.tk (tk_same s4))) go cu
theorem all_Lbent (T : Tp K mg) (F : Std K "_law_bent_body" "_law_bent_body" s_Lbent_body (He.ga K "_law_bent_body")) (D_Ldraw : Dn P w K mg base 1 (He.ga K "_law_draw") ["source", "many"] (spDraw K)) :
    ∀ n : Nat, Dn P w K mg base (n + 1) (He.ga K "_law_bent_body") ["source", "letters", "body", "left"] (spBent K n)
  | 0 => (dn_no F
    (fun _ _ _ _ _ _ us hl => match us, hl with | [_, _, _, _], _ => rfl)
    (fun vs H Q E h => by obtain ⟨a, c, al, af, L, Pn, v, b, l, B, _, _, _, _, _, _, _, _, _, _, h, _⟩ := h; omega)).mono (by omega)
  | n + 1 => ok_Lbent_body n T F D_Ldraw (all_Lbent T F D_Ldraw n)
end
end PK

set_option linter.all false
set_option Elab.async false
set_option maxRecDepth 100000
set_option maxHeartbeats 4000000
/-! KNz: any program. -/
namespace PK
open PySem PySem.Spec PyProof.Rows L2
theorem slA_take {K : Fg} {H : Hp} {a : Addr} {xs : List V} {n : Nat} {Q : V → Hp → Prop} (h : SqT K H a xs) (q : ∀ r H', Same H H' → SqT K H' r (xs.take n) → Q (.ref r) H') : rSlA K (.ref a) none (some (n : Int)) H Q := by
  refine ⟨a, xs, rfl, h, fun hw => ?_, fun _ p hp => ?_⟩
  · have h2 := hw.2
    rw [HT.sIx_nat] at h2
    exact q _ _ (fun _ _ h => h) (by rw [List.take_of_length_le (by omega)]; exact h)
  · refine q _ _ (same_new hp _) (SqT.of ?_)
    rw [← cutV_take]; exact upd_same
theorem slA_drop {K : Fg} {H : Hp} {a : Addr} {xs : List V} {n : Nat} {i : Int} {Q : V → Hp → Prop} (h : SqT K H a xs) (e : i = (n : Int)) (q : ∀ r H', Same H H' → SqT K H' r (xs.drop n) → Q (.ref r) H') : rSlA K (.ref a) (some i) none H Q := by
  subst e
  refine ⟨a, xs, rfl, h, fun hw => ?_, fun _ p hp => ?_⟩
  · have h1 := hw.1
    rw [HT.sIx_nat] at h1
    have : n = 0 ∨ xs.length = 0 := by omega
    refine q _ _ (fun _ _ h => h) ?_
    rcases this with rfl | e
    · exact h
    · rw [List.eq_nil_of_length_eq_zero e] at h ⊢; simpa using h
  · refine q _ _ (same_new hp _) (SqT.of ?_)
    rw [← cutV_drop]; exact upd_same
theorem catA {K : Fg} {H : Hp} {a b : Addr} {xs ys : List V} {Q : V → Hp → Prop} (h : SqT K H a xs) (g : SqT K H b ys) (hz : xs.length + ys.length ≤ 1000) (q : ∀ r H', Same H H' → SqT K H' r (xs ++ ys) → Q (.ref r) H') : rAdd K (.ref a) (.ref b) H Q := by
  refine .inr (.inr (.inr ⟨a, b, xs, ys, rfl, rfl, h, g, Nat.le_trans hz (by decide), fun e => ?_, fun _ e => ?_, fun _ _ p hp => ?_⟩))
  · subst e; exact q _ _ (fun _ _ h => h) g
  · subst e; exact q _ _ (fun _ _ h => h) (by rw [List.append_nil]; exact h)
  · exact q _ _ (same_new hp _) (SqT.of upd_same)
theorem dats_str_inv {K : Fg} {H : Hp} {vs : List V} {l : List Str} (h : Dats K H vs (l.map PyData.str)) : vs = l.map V.str := by
  induction l generalizing vs with
  | nil => exact h.inv_nil
  | cons x r ih =>
    obtain ⟨v, ws, rfl, h1, h2⟩ := h.inv_cons
    rw [h1.inv_str, ih h2]; rfl
theorem cntP_append (a b : List (Str × Bod)) : cntP (a ++ b) = cntP a + cntP b := by
  unfold cntP; rw [List.map_append, List.sum_append]
def spBentP (K : Fg) : Sp := fun vs H Q _ => ∃ (a c : Addr) (v : V) (p : Prog) (A : Nat), vs = [.ref a, v] ∧ SrcAt H a c A ∧ Dat K H v (progD p) ∧ KProg p ∧ A ≤ 2000000000000000000 ∧
  ∀ (r : V) (H' : Hp) (p' : Prog) (A' : Nat), Kp [a] H H' → Tk H H' → SrcAt H' a c A' → A' ≤ A + 3000 → Dat K H' r (progD p') → Valid p' → Q r H'
def spAny (K : Fg) : Sp := fun vs H Q _ => ∃ (a c : Addr) (A : Nat), vs = [.ref a] ∧ SrcAt H a c A ∧ A ≤ 100000000000000000 ∧
  ∀ (r : V) (H' : Hp) (p' : Prog) (A' : Nat), Kp [a] H H' → Tk H H' → SrcAt H' a c A' → A' ≤ A + 2000000 → Dat K H' r (progD p') → Valid p' → Q r H'
section
variable {P : Program} {w : World} {K : Fg} {mg : Str → Option Value} {base : Heap}
theorem ok_Lbent_program (T : Tp K mg) (F : Std K "_law_bent_program" "_law_bent_program" s_Lbent_program (He.ga K "_law_bent_program")) (D_Ldraw : Dn P w K mg base 1 (He.ga K "_law_draw") ["source", "many"] (spDraw K))
    (D_Lbent_body : Dn P w K mg base 13 (He.ga K "_law_bent_body") ["source", "letters", "body", "left"] (spBent K 12)) : Dn P w K mg base 14 (He.ga K "_law_bent_program") ["source", "program"] (spBentP K) := by
  refine dn_mk F sc_Lbent_program
    (fun _ _ _ _ _ _ us hl => match us, hl with | [_, _], _ => rfl)
    (fun vs H Q E h => ?_) fun cdv A outer s H vs Q E hr h => ?_
  · obtain ⟨a, c, v, p, B, rfl, _⟩ := h; rfl
  obtain ⟨a, c, v, p, B, rfl, hs, hd, kp, hB, q⟩ := h
  obtain ⟨pa, al, ap, ls, pvs, rfl, hS, hL, hLd, hP, hPd⟩ := prog_get hd
  refine ⟨_, (pss_cons (ps_asg (pv 1) (pg_tup (by rfl) (pgs_cons (pg_name (i := 2) sc_Lbent_program.nd rfl (Or.inl rfl)) (pgs_cons (pg_name (i := 3) sc_Lbent_program.nd rfl (Or.inl rfl)) pgs_nil))))
    (pss_cons (ps_set (i := 4) sc_Lbent_program.nd rfl (Or.inl rfl) (pe_f D_Ldraw (hr.mono (by omega)) T.g__law_draw (pa_cons (pv 0) (pa_cons (pe_callB (cLenK (K := K) rfl) (by rfl) T.b_len PySem.boot_len (pa_cons (pv 3) pa_nil)) pa_nil))))
    (pss_cons (ps_set (i := 5) sc_Lbent_program.nd rfl (Or.inl rfl) (pe_f D_Lbent_body (hr.mono (by omega)) T.g__law_bent_body (pa_cons (pv 0) (pa_cons (pv 2) (pa_cons (pe_ix (ixK (K := K) rfl) (pe_ix (ixK (K := K) rfl) (pv 3) (pv 4) (fun _ _ => rfl)) pe_int (fun _ _ => rfl)) (pa_cons (pe_lst (pa_cons (pe_op (oAddK (K := K) rfl) pe_int (pe_f D_Ldraw (hr.mono (by omega)) T.g__law_draw (pa_cons (pv 0) (pa_cons pe_int pa_nil)))) pa_nil)) pa_nil))))))
    (pss_one (ps_ret (pe_tup (pa_cons (pv 2) (pa_cons (pe_op (oAddK (K := K) rfl) (pe_op (oAddK (K := K) rfl) (pe_slice (slTupK (K := K) rfl) (pv 3) po_none (po_some (pv 4))) (pe_tup (pa_cons (pe_tup (pa_cons (pe_ix (ixK (K := K) rfl) (pe_ix (ixK (K := K) rfl) (pv 3) (pv 4) (fun _ _ => rfl)) pe_int (fun _ _ => rfl)) (pa_cons (pv 5) pa_nil))) pa_nil))) (pe_slice (slTupK (K := K) rfl) (pv 3) (po_some (pe_op (oAddK (K := K) rfl) (pv 4) pe_int)) po_none)) pa_nil)))))))), ?_⟩
  have lp : pvs.length = p.ps.length := by rw [hPd.length, List.length_map]
  have p1 := kp.p1
  have p2 := kp.p2
  have l1 := kp.l1
  have l2 := kp.l2
  cases dats_str_inv hLd
  refine ⟨_, rfl, pa, _, rfl, hS, rfl, _, _, rfl, _, _, rfl, rfl, ?_⟩
  refine ⟨_, rfl, _, rfl, _, _, rfl, .inr ⟨_, hP, rfl⟩, a, c, _, B, rfl, hs, by omega, by omega, by omega, fun k H1 hk k1 t1 hs1 => ?_⟩
  have hk : k < p.ps.length := by omega
  have ek : pvs[k]? = some pvs[k] := List.getElem?_eq_getElem (by omega)
  obtain ⟨pr, hpr, hxd⟩ := dats_at hPd ek
  have hm := List.mem_of_getElem? hpr
  obtain ⟨cb, bv, ecb, hc, hb⟩ := proc_get hxd
  rw [ecb] at ek
  refine ⟨_, rfl, _, rfl, _, rfl, _, rfl, .inr (.inl ⟨ap, _, (k : Int), _, rfl, rfl, t1.seq hP, atI_nat ek, .inr (.inl ⟨cb, _, 1, _, rfl, rfl, t1.seq hc, atI_nat (j := 1) rfl, _, rfl, a, c, 25, B + 1, rfl, hs1, by decide, by decide, by omega, fun m H2 hm2 k2 t2 hs2 => .inl ⟨_, _, rfl, rfl, by show 1 ≤ sizeLine; decide, fun af haf => ?_⟩⟩)⟩)⟩
  have s3 := same_new haf (.lst [.int (1 + (m : Int))])
  have t03 := t1.trans (t2.trans (tk_same s3))
  have k03 : Kp [a] H (upd H2 af (.lst [.int (1 + (m : Int))])) := k1.trans (k2.trans (.of s3))
  have cb1 : cntB pr.2 ≤ cntP p.ps := by
    have h1 := cntP_take hpr
    have h2 := cntP_take_le p.ps (k + 1)
    omega
  have c399 := kp.cnt
  have dp := kp.dep pr hm
  refine ⟨a, c, al, af, p.ls, p.heads, bv, pr.2, 1 + (m : Int), B + 1 + 1, rfl, hs2.same s3, t03.seq hL, l1, l2, upd_same, hs2.na haf, hs2.nc haf, hb.tk t03, kp.wf pr hm, by omega, by omega, by omega, fun r H4 b' l' A4 k4 t4 hs4 ef4 hA4 bd4 bt cu => ?_⟩
  have t04 := t03.trans t4
  have k04 : Kp [a] H H4 := k1.trans (k2.trans (kp_drop ((Kp.of s3).trans k4) (fun x hx => by
    simp only [List.mem_cons, List.not_mem_nil, or_false] at hx
    rcases hx with rfl | rfl
    · exact .inl (by simp)
    · exact .inr haf)))
  refine ⟨_, rfl, _, rfl, _, rfl, _, rfl, slA_take (t04.seq hP) fun r1 H5 s5 q5 => ?_⟩
  have t05 := t04.trans (tk_same s5)
  refine ⟨_, rfl, _, rfl, .inr (.inl ⟨ap, _, (k : Int), _, rfl, rfl, t05.seq hP, atI_nat ek, .inr (.inl ⟨cb, _, 0, _, rfl, rfl, t05.seq hc, atI_nat (j := 0) rfl, _, rfl, by show 2 ≤ sizeLine; decide, fun x1 hx1 => ⟨by show 1 ≤ sizeLine; decide, fun x2 hx2 => ?_⟩⟩)⟩)⟩
  have s6 := same_new hx1 (.tup [.str pr.1, r])
  have s7 := same_new hx2 (.tup [.ref x1])
  have s67 := s6.trans s7
  refine catA ((tk_same s67).seq q5) (SqT.of upd_same) (by simp; omega) fun r2 H8 s8 q8 => ?_
  have s58 := s5.trans (s67.trans s8)
  have t08 := t04.trans (tk_same s58)
  refine ⟨_, rfl, _, rfl, .inl ⟨_, _, rfl, rfl, _, rfl, ?_⟩⟩
  dsimp only [tNoPart]
  refine slA_drop (n := k + 1) (t08.seq hP) (by show (k : Int) + 1 = _; omega) fun r3 H9 s9 q9 => ?_
  refine catA ((tk_same s9).seq q8) q9 (by simp; omega) fun r4 H10 s10 q10 => ⟨by show 2 ≤ sizeLine; decide, fun pp hpp => ?_⟩
  have s11 := same_new hpp (.tup [.ref al, .ref r4])
  have s911 := s9.trans (s10.trans s11)
  have s511 := s58.trans s911
  have t011 := t04.trans (tk_same s511)
  have dx : Dat K (upd H10 pp (.tup [.ref al, .ref r4])) (.ref x1) (procD (pr.1, b')) := procD_of (q := (pr.1, b')) ((tk_same (s7.trans (s8.trans s911))).seq (SqT.of upd_same)) (bd4.tk (tk_same s511))
  have epr : p.ps[k] = pr := by
    rw [List.getElem?_eq_getElem hk] at hpr; exact Option.some.inj hpr
  have hsplit : p.ps = p.ps.take k ++ [pr] ++ p.ps.drop (k + 1) := by
    have h1 := List.take_append_drop (k + 1) p.ps
    rw [take_snoc hpr] at h1
    exact h1.symm
  have hheads : ((p.ps.take k ++ [(pr.1, b')] ++ p.ps.drop (k + 1)).map (·.1)) = p.heads := by
    show _ = p.ps.map (·.1)
    conv => rhs; rw [hsplit]
    simp only [List.map_append, List.map_cons, List.map_nil]
  have hlen : (p.ps.take k ++ [(pr.1, b')] ++ p.ps.drop (k + 1)).length = p.ps.length := by
    have := congrArg List.length hheads
    simpa using this
  have uu : uL (1 + (m : Int)) ≤ 1 ∧ 0 ≤ uL l' := by unfold uL; omega
  have hcnt : cntP (p.ps.take k ++ [(pr.1, b')] ++ p.ps.drop (k + 1)) ≤ 400 := by
    have h1 : cntP p.ps = cntP (p.ps.take k) + cntB pr.2 + cntP (p.ps.drop (k + 1)) := by
      conv => lhs; rw [hsplit]
      rw [cntP_append, cntP_append]; simp [cntP]
    have h2 : cntP (p.ps.take k ++ [(pr.1, b')] ++ p.ps.drop (k + 1)) = cntP (p.ps.take k) + cntB b' + cntP (p.ps.drop (k + 1)) := by
      rw [cntP_append, cntP_append]; simp [cntP]
    omega
  have vk := kp.valid
  have hmem : ∀ z ∈ p.ps.take k ++ [(pr.1, b')] ++ p.ps.drop (k + 1), z ∈ p.ps ∨ z = (pr.1, b') := by
    intro z hz
    rcases List.mem_append.mp hz with hz | hz
    · rcases List.mem_append.mp hz with hz | hz
      · exact .inl (List.mem_of_mem_take hz)
      · exact .inr (List.mem_singleton.mp hz)
    · exact .inl (List.mem_of_mem_drop hz)
  have t811 : Tk H10 (upd H10 pp (.tup [.ref al, .ref r4])) := tk_same s11
  refine q (.ref pp) _ ⟨p.ls, p.ps.take k ++ [(pr.1, b')] ++ p.ps.drop (k + 1)⟩ A4 (k04.trans (.of s511)) t011 (hs4.same s511) (by omega) (progD_of (SqT.of upd_same) (t011.seq hL) (t811.seq q10) ?_) ?_
  · rw [List.map_append, List.map_append, List.map_take, List.map_drop]
    exact (((hPd.tk t011).take k).append (.cons dx .nil)).append ((hPd.tk t011).drop (k + 1))
  · refine ⟨l1, l2, by show 1 ≤ _; rw [hlen]; omega, by show _ ≤ 40; rw [hlen]; omega, ⟨kp.nm.l, fun x hx => kp.nm.p x (by rw [← hheads]; exact hx)⟩, kp.dl, ?_, fun z hz => ?_, fun z hz => ?_, hcnt, fun z hz => ?_⟩
    · show ((p.ps.take k ++ [(pr.1, b')] ++ p.ps.drop (k + 1)).map (·.1)).Nodup
      rw [hheads]; exact kp.dh
    · show wfB p.ls ((p.ps.take k ++ [(pr.1, b')] ++ p.ps.drop (k + 1)).map (·.1)) z.2 = true
      rw [hheads]
      rcases hmem z hz with h | rfl
      · exact kp.wf z h
      · exact bt.wf
    · rcases hmem z hz with h | rfl
      · exact vk.dep z h
      · have := bt.dep; show depB b' ≤ 12; omega
    · rcases hmem z hz with h | rfl
      · exact vk.pl z h
      · have := bt.pl 0 0 (Nat.le_refl _); have := kp.pl pr hm; show 1 + plB 0 b' ≤ 300; omega
theorem ok_Lany_program (T : Tp K mg) (F : Std K "_law_any_program" "_law_any_program" s_Lany_program (He.ga K "_law_any_program")) (D_Ldraw : Dn P w K mg base 1 (He.ga K "_law_draw") ["source", "many"] (spDraw K))
    (D_Lprogram : Dn P w K mg base 30 (He.ga K "_law_program") ["source", "most"] (spProg K)) (D_Lkept_program : Dn P w K mg base 13 (He.ga K "_law_kept_program") ["source"] (spKProg K))
    (D_Lbent_program : Dn P w K mg base 14 (He.ga K "_law_bent_program") ["source", "program"] (spBentP K)) : Dn P w K mg base 31 (He.ga K "_law_any_program") ["source"] (spAny K) := by
  refine dn_mk F sc_Lany_program
    (fun _ _ _ _ _ _ us hl => match us, hl with | [_], _ => rfl)
    (fun vs H Q E h => ?_) fun cdv A outer s H vs Q E hr h => ?_
  · obtain ⟨a, c, B, rfl, _⟩ := h; rfl
  obtain ⟨a, c, B, rfl, hs, hB, q⟩ := h
  refine ⟨_, (pss_cons (ps_set (i := 1) sc_Lany_program.nd rfl (Or.inl rfl) (pe_f D_Ldraw (hr.mono (by omega)) T.g__law_draw (pa_cons (pv 0) (pa_cons pe_int pa_nil))))
    (pss_cons (ps_if (pt_cmpR (oEqK (K := K) rfl (hu64 hr)) (pv 1) pe_int (nomark _)) (pss_one (ps_ret (pe_f D_Lprogram (hr.mono (by omega)) T.g__law_program (pa_cons (pv 0) (pa_cons pe_int pa_nil))))) pss_nil)
    (pss_cons (ps_set (i := 2) sc_Lany_program.nd rfl (Or.inl rfl) (pe_f D_Lkept_program (hr.mono (by omega)) T.g__law_kept_program (pa_cons (pv 0) pa_nil)))
    (pss_one (ps_ret (pe_ifExp (pt_cmpR op_lt (pv 1) pe_int (nomark _)) (pv 2) (pe_f D_Lbent_program (hr.mono (by omega)) T.g__law_bent_program (pa_cons (pv 0) (pa_cons (pv 2) pa_nil))))))))), ?_⟩
  refine ⟨_, rfl, a, c, 5, B, rfl, hs, by decide, by decide, by omega, fun pk H1 hpk k1 t1 hs1 => ?_⟩
  refine ⟨_, rfl, .inl ⟨rfl, _, rfl, ite2 (fun _ => ?_) (fun _ => ?_)⟩⟩
  · exact ⟨_, rfl, a, c, 40, B + 1, rfl, hs1, by decide, by decide, by omega, fun r H2 p A2 k2 t2 hs2 hA2 d2 v2 => q r _ p A2 (k1.trans k2) (t1.trans t2) hs2 (by omega) d2 v2⟩
  · refine ⟨_, rfl, a, c, B + 1, rfl, hs1, by omega, fun r H2 p A2 k2 t2 hs2 hA2 d2 v2 => ?_⟩
    refine ⟨_, rfl, _, _, rfl, rfl, _, rfl, ite2 (fun _ => ?_) (fun _ => ?_)⟩
    · exact ⟨_, rfl, q r _ p A2 (k1.trans k2) (t1.trans t2) hs2 (by omega) d2 v2.valid⟩
    · exact ⟨_, rfl, _, rfl, a, c, r, p, A2, rfl, hs2, d2, v2, by omega, fun r3 H3 p3 A3 k3 t3 hs3 hA3 d3 v3 => q r3 _ p3 A3 (k1.trans (k2.trans k3)) (t1.trans (t2.trans t3)) hs3 (by omega) d3 v3⟩
end
end PK

set_option linter.all false
set_option Elab.async false
set_option maxRecDepth 100000
set_option maxHeartbeats 4000000
/-! KRp: repr of a program. -/
namespace PK
open PySem PySem.Spec PyProof.Rows L2
/-- repr of plain data, where none is under way -/
def rReprD (K : Fg) : List V → Hp → VK → Prop := fun xs H Q => ∃ (a : Addr) (d : PyData), xs = [.ref a] ∧ Dat K H (.ref a) d ∧ d.showable = true ∧ d.hasDict = false ∧ d.shown.length ≤ sizeLine ∧ d.depth ≤ 60 ∧ Q (.str d.shown) H
theorem reprK {X : Cx} {K : Fg} (hK : X.K = K) (hg : X.A.guards = some []) (hu : X.A.units + 64 < cLine) : CallR X (.builtin "repr") (rReprD K) := by
  subst hK
  intro pins s σ H xs us Q I r h
  obtain ⟨a, d, rfl, hd, h1, h2, h3, h4, q⟩ := h
  obtain ⟨u, rfl, ru⟩ := vals1 r
  obtain ⟨as, rd⟩ := Dp.reads I d _ u hd.dp ru
  cases ru
  exact PySem.repr_of_reads' rd h1 (PyData.noDict_hsm h2) hg (by omega) (fun _ _ e => e) (fun h' v tk hk => ⟨.str _, H, I.kept hk, ⟨_, rfl⟩, q⟩) h3
theorem tupleText_len (ts : List Str) : (tupleText ts).length ≤ piled ts + 3 := by
  unfold tupleText
  rw [strLen_append, strLen_append]
  have e1 : ((("(" : String) : Str)).length = 1 := rfl
  have e3 : (((if ts.length == 1 then ",)" else ")" : String) : Str)).length ≤ 2 := by split <;> decide
  have e2 : (Str.join ", " ts).length ≤ piled ts := by
    by_cases h : ts = []
    · subst h; decide
    · have := join_length_add ts h; omega
  omega
theorem shown_tup (xs : List PyData) : (PyData.shown (.tuple xs)).length ≤ piled (PyData.shownAll xs) + 3 := by
  rw [PyData.shown]; exact tupleText_len _
theorem piled_all_cons (x : PyData) (xs : List PyData) : piled (PyData.shownAll (x :: xs)) = (PyData.shown x).length + 2 + piled (PyData.shownAll xs) := by
  rw [PyData.shownAll, piled_cons]
theorem piled_all_nil : piled (PyData.shownAll []) = 0 := rfl
theorem shown_name {x : Str} (h : OkN x) : (PyData.shown (.str x)).length ≤ 102 := by
  rw [PyData.shown]
  have dj : ∀ c ∈ lowL ++ digL, c < 16 ^ 8 := by decide +kernel
  have := StrLaws.reprText_len x (fun c hc => dj c (List.mem_append.mpr (h.all c hc)))
  have l : x.length ≤ 10 := h.l2
  omega
theorem shown_wrd (s : Stm) : (PyData.shown (.str (wrd s))).length ≤ 10 := by
  rw [PyData.shown]
  cases s with
  | act u x =>
    cases u
    · show (reprText "do").length ≤ 10; decide +kernel
    · show (reprText "undo").length ≤ 10; decide +kernel
  | call x => show (reprText "call").length ≤ 10; decide +kernel
  | cho bs => show (reprText "choose").length ≤ 10; decide +kernel
  | loop b => show (reprText "loop").length ≤ 10; decide +kernel
  | ret => show (reprText "return").length ≤ 10; decide +kernel
  | ens b s => show (reprText "ensure").length ≤ 10; decide +kernel
mutual
theorem shown_S {L P : List Str} (hL : NmOk L) (hP : NmOk P) : ∀ s : Stm, wfS L P s = true → (PyData.shown (stmD s)).length + 2 ≤ 302 * cntS s
  | .act u x, h => by
    have h := of_decide_eq_true (show decide (x ∈ L) = true from h)
    have h1 := shown_name (hL x h)
    have h2 := shown_wrd (.act u x)
    have h3 := shown_tup [.str (wrd (.act u x)), .str x]
    rw [piled_all_cons, piled_all_cons, piled_all_nil] at h3
    rw [stmD_eq]; simp only [rst, cntS]; omega
  | .call x, h => by
    have h := of_decide_eq_true (show decide (x ∈ P) = true from h)
    have h1 := shown_name (hP x h)
    have h2 := shown_wrd (.call x)
    have h3 := shown_tup [.str (wrd (.call x)), .str x]
    rw [piled_all_cons, piled_all_cons, piled_all_nil] at h3
    rw [stmD_eq]; simp only [rst, cntS]; omega
  | .cho bs, h => by
    simp only [wfS, Bool.and_eq_true, decide_eq_true_eq] at h
    have h1 := shown_Bs hL hP bs h.2.2
    have h2 := shown_wrd (.cho bs)
    have h3 := shown_tup [.str (wrd (.cho bs)), .tuple (bodDs bs)]
    have h4 := shown_tup (bodDs bs)
    rw [piled_all_cons, piled_all_cons, piled_all_nil] at h3
    rw [stmD_eq]; simp only [rst, cntS]; omega
  | .loop b, h => by
    simp only [wfS] at h
    have h1 := shown_B hL hP b h
    have h2 := shown_wrd (.loop b)
    have h3 := shown_tup [.str (wrd (.loop b)), .tuple (stmDs b)]
    have h4 := shown_tup (stmDs b)
    rw [piled_all_cons, piled_all_cons, piled_all_nil] at h3
    rw [stmD_eq]; simp only [rst, cntS]; omega
  | .ret, _ => by
    have h2 := shown_wrd .ret
    have h3 := shown_tup [.str (wrd .ret)]
    rw [piled_all_cons, piled_all_nil] at h3
    rw [stmD_eq]; simp only [rst, cntS]; omega
  | .ens b s, h => by
    simp only [wfS, Bool.and_eq_true] at h
    have h1 := shown_B hL hP b h.1
    have h5 := shown_B hL hP s h.2.1
    have h2 := shown_wrd (.ens b s)
    have h3 := shown_tup [.str (wrd (.ens b s)), .tuple (stmDs b), .tuple (stmDs s)]
    have h4 := shown_tup (stmDs b)
    have h6 := shown_tup (stmDs s)
    rw [piled_all_cons, piled_all_cons, piled_all_cons, piled_all_nil] at h3
    rw [stmD_eq]; simp only [rst, cntS]; omega
theorem shown_B {L P : List Str} (hL : NmOk L) (hP : NmOk P) : ∀ b : List Stm, wfB L P b = true → piled (PyData.shownAll (stmDs b)) ≤ 302 * cntB b
  | [], _ => by simp only [stmDs, piled_all_nil]; omega
  | s :: r, h => by
    simp only [wfB, Bool.and_eq_true] at h
    have h1 := shown_S hL hP s h.1
    have h2 := shown_B hL hP r h.2
    have h3 := cnt_pos s
    simp only [stmDs, piled_all_cons, cntB]; omega
theorem shown_Bs {L P : List Str} (hL : NmOk L) (hP : NmOk P) : ∀ bs : List (List Stm), wfBs L P bs = true → piled (PyData.shownAll (bodDs bs)) ≤ 302 * cntBs bs + 5 * bs.length
  | [], _ => by simp only [bodDs, piled_all_nil]; omega
  | b :: r, h => by
    simp only [wfBs, Bool.and_eq_true] at h
    have h1 := shown_B hL hP b h.1
    have h2 := shown_Bs hL hP r h.2
    have h4 := shown_tup (stmDs b)
    simp only [bodDs, piled_all_cons, cntBs, List.length_cons]; omega
end
/-! ### what can be shown, how deep it lies -/
theorem showAll_iff : ∀ xs : List PyData, (∀ x ∈ xs, PyData.showable x = true ∧ PyData.hasDict x = false) → PyData.showableAll xs = true ∧ PyData.hasDictAll xs = false
  | [], _ => ⟨rfl, rfl⟩
  | x :: r, h => by
    have h1 := h x List.mem_cons_self
    have h2 := showAll_iff r fun y hy => h y (List.mem_cons_of_mem _ hy)
    simp only [PyData.showableAll, PyData.hasDictAll, h1.1, h1.2, h2.1, h2.2]; exact ⟨rfl, rfl⟩
theorem show_tup {xs : List PyData} (h : ∀ x ∈ xs, PyData.showable x = true ∧ PyData.hasDict x = false) : PyData.showable (.tuple xs) = true ∧ PyData.hasDict (.tuple xs) = false := by
  have := showAll_iff xs h
  simp only [PyData.showable, PyData.hasDict]; exact this
theorem show_str (x : Str) : PyData.showable (.str x) = true ∧ PyData.hasDict (.str x) = false := by
  simp only [PyData.showable, PyData.hasDict]; exact ⟨trivial, trivial⟩
mutual
theorem show_S : ∀ s : Stm, PyData.showable (stmD s) = true ∧ PyData.hasDict (stmD s) = false
  | .act u x => by
    rw [stmD_eq]
    refine show_tup fun y hy => ?_
    simp only [rst, List.mem_cons, List.not_mem_nil, or_false] at hy
    rcases hy with rfl | rfl <;> exact show_str _
  | .call x => by
    rw [stmD_eq]
    refine show_tup fun y hy => ?_
    simp only [rst, List.mem_cons, List.not_mem_nil, or_false] at hy
    rcases hy with rfl | rfl <;> exact show_str _
  | .cho bs => by
    rw [stmD_eq]
    refine show_tup fun y hy => ?_
    simp only [rst, List.mem_cons, List.not_mem_nil, or_false] at hy
    rcases hy with rfl | rfl
    · exact show_str _
    · exact show_tup (show_Bs bs)
  | .loop b => by
    rw [stmD_eq]
    refine show_tup fun y hy => ?_
    simp only [rst, List.mem_cons, List.not_mem_nil, or_false] at hy
    rcases hy with rfl | rfl
    · exact show_str _
    · exact show_tup (show_B b)
  | .ret => by
    rw [stmD_eq]
    refine show_tup fun y hy => ?_
    simp only [rst, List.mem_cons, List.not_mem_nil, or_false] at hy
    rw [hy]; exact show_str _
  | .ens b s => by
    rw [stmD_eq]
    refine show_tup fun y hy => ?_
    simp only [rst, List.mem_cons, List.not_mem_nil, or_false] at hy
    rcases hy with rfl | rfl | rfl
    · exact show_str _
    · exact show_tup (show_B b)
    · exact show_tup (show_B s)
theorem show_B : ∀ b : List Stm, ∀ x ∈ stmDs b, PyData.showable x = true ∧ PyData.hasDict x = false
  | [], _, h => by cases h
  | s :: r, x, h => by
    simp only [stmDs] at h
    rcases List.mem_cons.mp h with rfl | h
    · exact show_S s
    · exact show_B r x h
theorem show_Bs : ∀ bs : List (List Stm), ∀ x ∈ bodDs bs, PyData.showable x = true ∧ PyData.hasDict x = false
  | [], _, h => by cases h
  | b :: r, x, h => by
    simp only [bodDs] at h
    rcases List.mem_cons.mp h with rfl | h
    · exact show_tup (show_B b)
    · exact show_Bs r x h
end
mutual
theorem deep_S : ∀ s : Stm, PyData.depth (stmD s) ≤ 3 * depS s
  | .act u x => by rw [stmD_eq]; simp only [rst, depS, PyData.depth, PyData.depthAll]; omega
  | .call x => by rw [stmD_eq]; simp only [rst, depS, PyData.depth, PyData.depthAll]; omega
  | .cho bs => by rw [stmD_eq]; have := deep_Bs bs; simp only [rst, depS, PyData.depth, PyData.depthAll]; omega
  | .loop b => by rw [stmD_eq]; have := deep_B b; simp only [rst, depS, PyData.depth, PyData.depthAll]; omega
  | .ret => by rw [stmD_eq]; simp only [rst, depS, PyData.depth, PyData.depthAll]; omega
  | .ens b s => by rw [stmD_eq]; have := deep_B b; have := deep_B s; simp only [rst, depS, PyData.depth, PyData.depthAll]; omega
theorem deep_B : ∀ b : List Stm, PyData.depthAll (stmDs b) ≤ 3 * depB b
  | [] => Nat.zero_le _
  | s :: r => by have := deep_S s; have := deep_B r; simp only [stmDs, depB, PyData.depthAll]; omega
theorem deep_Bs : ∀ bs : List (List Stm), PyData.depthAll (bodDs bs) ≤ 3 * depBs bs + 1
  | [] => Nat.zero_le _
  | b :: r => by have := deep_B b; have := deep_Bs r; simp only [bodDs, depBs, PyData.depthAll, PyData.depth]; omega
end
theorem depthAll_le {xs : List PyData} {n : Nat} (h : ∀ x ∈ xs, PyData.depth x ≤ n) : PyData.depthAll xs ≤ n := by
  induction xs with
  | nil => exact Nat.zero_le _
  | cons x r ih =>
    have := h x List.mem_cons_self
    have := ih fun y hy => h y (List.mem_cons_of_mem _ hy)
    simp only [PyData.depthAll]; omega
theorem piled_le {xs : List PyData} {n : Nat} (h : ∀ x ∈ xs, (PyData.shown x).length + 2 ≤ n) : piled (PyData.shownAll xs) ≤ n * xs.length := by
  induction xs with
  | nil => exact Nat.zero_le _
  | cons x r ih =>
    have := h x List.mem_cons_self
    have := ih fun y hy => h y (List.mem_cons_of_mem _ hy)
    rw [piled_all_cons, List.length_cons, Nat.mul_succ]; omega
/-- a checked program can be shown -/
theorem prog_shown {p : Prog} (v : Valid p) : (progD p).showable = true ∧ (progD p).hasDict = false ∧ (progD p).shown.length ≤ sizeLine ∧ (progD p).depth ≤ 60 := by
  have hl : ∀ x ∈ p.ls.map PyData.str, ∃ y, y ∈ p.ls ∧ x = .str y := fun x hx => let ⟨y, hy, e⟩ := List.mem_map.mp hx; ⟨y, hy, e.symm⟩
  have hp : ∀ x ∈ p.ps.map procD, ∃ y, y ∈ p.ps ∧ x = procD y := fun x hx => let ⟨y, hy, e⟩ := List.mem_map.mp hx; ⟨y, hy, e.symm⟩
  have hs : PyData.showable (progD p) = true ∧ PyData.hasDict (progD p) = false := by
    refine show_tup fun x hx => ?_
    simp only [List.mem_cons, List.not_mem_nil, or_false] at hx
    rcases hx with rfl | rfl
    · refine show_tup fun x hx => ?_
      obtain ⟨y, _, rfl⟩ := hl x hx
      exact show_str _
    · refine show_tup fun x hx => ?_
      obtain ⟨y, _, rfl⟩ := hp x hx
      refine show_tup fun z hz => ?_
      simp only [List.mem_cons, List.not_mem_nil, or_false] at hz
      rcases hz with rfl | rfl
      · exact show_str _
      · exact show_tup (show_B _)
  refine ⟨hs.1, hs.2, ?_, ?_⟩
  · have h1 : (PyData.shown (.tuple (p.ls.map .str))).length ≤ 104 * 20 + 3 := by
      refine Nat.le_trans (shown_tup _) ?_
      have := piled_le (xs := p.ls.map PyData.str) (n := 104) fun x hx => by
        obtain ⟨y, hy, rfl⟩ := hl x hx
        have := shown_name (v.nm.l y hy); omega
      have l := v.l2
      rw [List.length_map] at this
      have : 104 * p.ls.length ≤ 104 * 20 := Nat.mul_le_mul_left _ l
      omega
    have h2 : (PyData.shown (.tuple (p.ps.map procD))).length ≤ 122000 * 40 + 3 := by
      refine Nat.le_trans (shown_tup _) ?_
      have := piled_le (xs := p.ps.map procD) (n := 122000) fun x hx => by
        obtain ⟨y, hy, rfl⟩ := hp x hx
        obtain ⟨j, hj⟩ := List.getElem?_of_mem hy
        have c1 := cntP_take hj
        have c2 := cntP_take_le p.ps (j + 1)
        have c3 := v.cnt
        have h3 := shown_name (v.nm.p y.1 (List.mem_map.mpr ⟨y, hy, rfl⟩))
        have h4 := shown_B v.nm.l v.nm.p y.2 (v.wf y hy)
        have h5 : (PyData.shown (bodD y.2)).length ≤ piled (PyData.shownAll (stmDs y.2)) + 3 := shown_tup (stmDs y.2)
        have h6 := shown_tup [.str y.1, bodD y.2]
        rw [piled_all_cons, piled_all_cons, piled_all_nil] at h6
        have : 302 * cntB y.2 ≤ 302 * 400 := Nat.mul_le_mul_left _ (by omega)
        show (PyData.shown (.tuple [.str y.1, bodD y.2])).length + 2 ≤ 122000
        omega
      have l := v.p2
      rw [List.length_map] at this
      have : 122000 * p.ps.length ≤ 122000 * 40 := Nat.mul_le_mul_left _ l
      omega
    have h3 := shown_tup [.tuple (p.ls.map .str), .tuple (p.ps.map procD)]
    rw [piled_all_cons, piled_all_cons, piled_all_nil] at h3
    have : 10000000 ≤ sizeLine := by decide
    show (PyData.shown (.tuple [.tuple (p.ls.map .str), .tuple (p.ps.map procD)])).length ≤ sizeLine
    omega
  · have h1 : PyData.depthAll (p.ls.map .str) ≤ 0 := depthAll_le fun x hx => by
      obtain ⟨y, _, rfl⟩ := hl x hx
      simp [PyData.depth]
    have h2 : PyData.depthAll (p.ps.map procD) ≤ 40 := depthAll_le fun x hx => by
      obtain ⟨y, hy, rfl⟩ := hp x hx
      have := v.dep y hy
      have := deep_B y.2
      simp only [procD, PyData.depth, PyData.depthAll]; omega
    simp only [progD, PyData.depth, PyData.depthAll]; omega
end PK

set_option linter.all false
set_option Elab.async false
set_option maxRecDepth 100000
set_option maxHeartbeats 4000000
/-! KLw: the law itself, where the claim's caller calls it. -/
namespace PK
open PySem PySem.Spec PyProof.Rows L2
def spLaw (K : Fg) : Sp := fun vs H Q _ => ∃ (a : Addr) (ns : List Int), vs = [.ref a] ∧ SqL K H a (ns.map V.int) ∧ ns.length ≤ 63 ∧ ∀ H', Q (.bl true) H'
theorem usf_len {ld : Ld} (ok : LdOk ld) {i : Nat} {l : List Hm} (u : Usf ld i l) : l.length ≤ 12000 := by
  refine Nat.le_trans (nd_len (u.s.imp fun {a b} h e => ?_) fun h hh => ((u.m h).mp hh).mem) (chosen_len ok)
  subst e
  unfold ltH at h; omega
theorem law_body {P : Program} {w : World} {K : Fg} {mg : Str → Option Value} {base : Heap} (T : Tp K mg)
    (D_Lsource : Dn P w K mg base 1 (He.ga K "_law_source") ["cells", "salt"] (spSource K)) (D_Lany_program : Dn P w K mg base 31 (He.ga K "_law_any_program") ["source"] (spAny K))
    (D_Lprogram : Dn P w K mg base 30 (He.ga K "_law_program") ["source", "most"] (spProg K)) (D_Ldraw : Dn P w K mg base 1 (He.ga K "_law_draw") ["source", "many"] (spDraw K))
    (D_Llaid : Dn P w K mg base 29 (He.ga K "_law_laid") ["program"] (spLLaid K)) (D_Lchosen : Dn P w K mg base 3 (He.ga K "_law_chosen") ["laid_v"] (spLChosen K))
    (D_Luseful : Dn P w K mg base 2 (He.ga K "_law_useful") ["laid_v", "chosen", "index"] (spLUseful K)) (D_Lsame : Dn P w K mg base 3 (He.ga K "_law_same") ["found", "due"] (spLSame K 2))
    (D_useful : DnK P w K mg base 63 (He.ga K "useful") ["program", "name"] ["name", "program"] (spUseful K)) (f : Addr) (cdv : Value) (outer : List Env) (s : Shared) (H : Hp) (vs : List V) (Q : VK) (E : XK)
    (hr : Room 63 (PySem.callerA.deeper (envOfC "law" (defScope s_law) s.heap.objs.size f cdv))) (h : spLaw K vs H Q E) :
    ∃ t, PSs (cxOf CX0 P w K mg base N_law "law" (defScope s_law) f cdv PySem.callerA outer s H E).nox (defBody s_law) t ∧ t { nx := fun _ H' => Q .non H', rt := Q } (start N_law vs) H := by
  obtain ⟨a0, ns, rfl, hS, hl, q⟩ := h
  refine ⟨_, (pss_cons (ps_set (i := 1) sc_law.nd rfl (Or.inl rfl) (pe_f D_Lsource (hr.mono (by omega)) T.g__law_source (pa_cons (pv 0) (pa_cons pe_int pa_nil))))
    (pss_cons (ps_for PassesOwn.never rfl (pi_range1 rfl T.b_range (pa_cons pe_int pa_nil)) (pg_name (i := 2) sc_law.nd rfl (Or.inl rfl)) (pss_cons (ps_set (i := 3) sc_law.nd rfl (Or.inl rfl) (pe_f D_Lany_program (hr.mono (by omega)) T.g__law_any_program (pa_cons (pv 1) pa_nil)))
    (pss_cons (ps_if (pt_cmpR (oEqK (K := K) rfl (hu64 hr)) (pv 2) pe_int (nomark _)) (pss_one (ps_set (i := 3) sc_law.nd rfl (Or.inl rfl) (pe_f D_Lprogram (hr.mono (by omega)) T.g__law_program (pa_cons (pv 1) (pa_cons (pe_ix (ixK (K := K) rfl) (pe_lst (pa_cons pe_int (pa_cons pe_int (pa_cons pe_int pa_nil)))) (pe_f D_Ldraw (hr.mono (by omega)) T.g__law_draw (pa_cons (pv 1) (pa_cons pe_int pa_nil))) (fun _ _ => rfl)) pa_nil))))) pss_nil)
    (pss_cons (ps_asg (pe_tup (pa_cons (pe_callB (reprK (K := K) rfl rfl (hu64 hr)) (by rfl) T.b_repr (by decide +kernel) (pa_cons (pv 3) pa_nil)) (pa_cons (pe_f D_Llaid (hr.mono (by omega)) T.g__law_laid (pa_cons (pv 3) pa_nil)) pa_nil))) (pg_tup (by rfl) (pgs_cons (pg_name (i := 4) sc_law.nd rfl (Or.inl rfl)) (pgs_cons (pg_name (i := 5) sc_law.nd rfl (Or.inr rfl)) pgs_nil))))
    (pss_cons (ps_set (i := 6) sc_law.nd rfl (Or.inr rfl) (pe_f D_Lchosen (hr.mono (by omega)) T.g__law_chosen (pa_cons (pv 5) pa_nil)))
    (pss_cons (ps_setLc (i := 9) (own := [("head", 7), ("body", 8)]) (g := (gTup K 2 (gCons (gName 7) (gCons (gName 8) gNil)))) (tt := tYes) rfl sc_law.nd rfl rfl (sw_true rfl rfl rfl (by decide +kernel)) (iTupK (K := K) rfl (pe_ix (ixK (K := K) rfl) (pv 3) pe_int (fun _ _ => rfl))) (blkOk_by (N := N_law) (sc := defScope s_law) (own := [("head", 7), ("body", 8)]) (by decide +kernel)) (fun _ _ _ _ _ => (pg_tup (by rfl) (pgs_cons (pg_name (i := 7) sc_law.nd rfl (Or.inl rfl)) (pgs_cons (pg_name (i := 8) sc_law.nd rfl (Or.inl rfl)) pgs_nil)))) (fun _ _ _ _ _ => pts_nil) (fun _ _ _ _ _ => (pv 7)))
    (pss_cons (ps_setLc (i := 11) (own := [("index", 10)]) (tt := tYes) rfl sc_law.nd rfl rfl (sw_true rfl rfl rfl (by decide +kernel)) (pi_range1 rfl T.b_range (pa_cons (pe_callB (cLenK (K := K) rfl) (by rfl) T.b_len PySem.boot_len (pa_cons (pv 9) pa_nil)) pa_nil)) (blkOk_by (N := N_law) (sc := defScope s_law) (own := [("index", 10)]) (by decide +kernel)) (fun _ _ _ _ _ => (pg_name (i := 10) sc_law.nd rfl (Or.inl rfl))) (fun _ _ _ _ _ => pts_nil) (fun _ _ _ _ _ => (pe_callTy (tupK (K := K) rfl) (by rfl) T.b_tuple (by decide +kernel) (pa_cons (pe_f D_Luseful (hr.mono (by omega)) T.g__law_useful (pa_cons (pv 5) (pa_cons (pv 6) (pa_cons (pv 10) pa_nil)))) pa_nil))))
    (pss_cons (ps_for PassesOwn.never rfl (pi_range1 rfl T.b_range (pa_cons (pe_callB (cLenK (K := K) rfl) (by rfl) T.b_len PySem.boot_len (pa_cons (pv 9) pa_nil)) pa_nil)) (pg_name (i := 10) sc_law.nd rfl (Or.inl rfl)) (pss_one (ps_if (pt_not (pt_val (pe_f D_Lsame (hr.mono (by omega)) T.g__law_same (pa_cons (pe_f D_useful.dn (hr.mono (by omega)) T.g_useful (pa_cons (pv 3) (pa_cons (pe_ix (ixK (K := K) rfl) (pv 9) (pv 10) (fun _ _ => rfl)) pa_nil))) (pa_cons (pe_ix (ixK (K := K) rfl) (pv 11) (pv 10) (fun _ _ => rfl)) pa_nil))))) (pss_one (ps_ret pe_bl)) pss_nil)))
    (pss_cons (ps_for PassesOwn.never rfl (pi_range1 rfl T.b_range (pa_cons (pe_callB (cLenK (K := K) rfl) (by rfl) T.b_len PySem.boot_len (pa_cons (pv 9) pa_nil)) pa_nil)) (pg_name (i := 10) sc_law.nd rfl (Or.inl rfl)) (pss_one (ps_if (pt_not (pt_val (pe_f D_Lsame (hr.mono (by omega)) T.g__law_same (pa_cons (pe_fk D_useful (hr.mono (by omega)) T.g_useful (pk_cons (pe_ix (ixK (K := K) rfl) (pv 9) (pv 10) (fun _ _ => rfl)) (pk_cons (pv 3) pk_nil))) (pa_cons (pe_ix (ixK (K := K) rfl) (pv 11) (pv 10) (fun _ _ => rfl)) pa_nil))))) (pss_one (ps_ret pe_bl)) pss_nil)))
    (pss_one (ps_if (pt_cmpR (oNeK (K := K) rfl (hu64 hr)) (pe_callB (reprK (K := K) rfl rfl (hu64 hr)) (by rfl) T.b_repr (by decide +kernel) (pa_cons (pv 3) pa_nil)) (pv 4) (nomark _)) (pss_one (ps_ret pe_bl)) pss_nil)))))))))))
    (pss_one (ps_ret pe_bl)))), ?_⟩
  refine ⟨_, rfl, a0, ns, rfl, hS, by omega, fun a c H1 hna s1 hs1 => ?_⟩
  refine ⟨_, rfl, by decide, by decide, for_it (walk_range (lo := 0)) (fun i σ H' => ∃ (v2 v3 v4 v5 v6 v7 v8 v9 v10 v11 : Option V) (A' : Nat), σ = [some (.ref a0), some (.ref a), v2, v3, v4, v5, v6, v7, v8, v9, v10, v11] ∧ SrcAt H' a c A' ∧ A' ≤ 3000000 * i)
    ⟨none, none, none, none, none, none, none, none, none, none, 0, rfl, hs1, by omega⟩ (fun _ _ _ _ _ => trivial) ?_ ?_⟩
  · rintro i z σ H20 H2 hi ⟨v2, v3, v4, v5, v6, v7, v8, v9, v10, v11, A', rfl, hs2, hA⟩ ⟨rfl, hz⟩
    have hi : i < 2 := hi
    have hz : z = V.int ((i : Nat) : Int) := by rw [hz]; show V.int (0 + (i : Int)) = _; rw [Int.zero_add]
    subst hz
    refine ⟨_, rfl, a, c, A', rfl, hs2, by omega, fun r H3 p A3 k3 t3 hs3 hA3 d3 vp3 => ?_⟩
    dsimp only [gName]
    refine tif_cut (fun σ' H' => ∃ (r : V) (p : Prog) (A4 : Nat), σ' = [some (.ref a0), some (.ref a), some (.int i), some r, v4, v5, v6, v7, v8, v9, v10, v11] ∧ SrcAt H' a c A4 ∧ A4 ≤ A' + 3000000 ∧ Dat K H' r (progD p) ∧ Valid p) ?rest fun rest => ?_
    case rest =>
      rintro σ' H4 ⟨r, p, A4, rfl, hs4, hA4, d4, vp⟩
      obtain ⟨pa, al, ap, ls, pvs, rfl, hS4, hL4, hLd, hP4, hPd⟩ := prog_get d4
      cases dats_str_inv hLd
      obtain ⟨sh1, sh2, sh3, sh4⟩ := prog_shown vp
      have l2 := vp.l2
      have p2 := vp.p2
      have ok := ld_ok vp
      have ldl := ld_len (p := p)
      refine ⟨_, rfl, pa, progD p, rfl, d4, sh1, sh2, sh3, sh4, _, rfl, pa, .ref al, ap, p.ls, p.ps, pvs, al, rfl, hS4, rfl, .inl hL4, by omega, hP4, hPd, valid_lay vp, fun H5 rv s5 lvo => ⟨by show 2 ≤ sizeLine; decide, fun tp htp => ⟨tp, _, rfl, SqT.of upd_same, rfl, _, _, rfl, _, _, rfl, rfl, ?_⟩⟩⟩
      have s6 := same_new htp (.tup [.str (progD p).shown, rv])
      have s46 := s5.trans s6
      have lv6 := (lvo_lv vp lvo).same s6
      have d6 := d4.tk (tk_same s46)
      have hs6 := hs4.same s46
      have hS6 := (tk_same s46).seq hS4
      have hP6 := (tk_same s46).seq hP4
      have hPd6 := hPd.tk (tk_same s46)
      generalize upd H5 tp (.tup [.str (progD p).shown, rv]) = H6 at lv6 d6 hs6 hS6 hP6 hPd6
      refine ⟨_, rfl, rv, ldOf p, rfl, lv6, ok, fun H7 dc kc s7 edc hkc => ?_⟩
      have t7 := tk_same s7
      have lv7 := lv6.same s7
      have d7 := d6.tk t7
      have hs7 := hs6.same s7
      have hP7 := t7.seq hP6
      have hPd7 := hPd6.tk t7
      have lpv : pvs.length = p.ps.length := by rw [hPd.length, List.length_map]
      refine ⟨_, rfl, .inr (.inl ⟨pa, _, 1, _, rfl, rfl, t7.seq hS6, atI_nat (j := 1) rfl, ap, rfl, ⟨_, hP7⟩, fun hh nhh => lc_acc walk_tup [] (fun i acc _ => acc = ((p.heads.take i).map V.str)) nhh (fun _ _ H1 _ t _ => t.seq hP7) (fun _ _ _ _ _ _ _ p => p) rfl ?_ (by simp) ?_ ?_⟩)⟩
      · rw [lpv]; exact Nat.lt_of_le_of_lt p2 (by decide)
      · rintro j y acc H8 H8' hj k t hD la rfl ⟨rfl, hy⟩ N E1 hN _
        obtain ⟨pr, hpr, hxd⟩ := dats_at hPd7 hy
        obtain ⟨cb, bv, rfl, hc, hb⟩ := proc_get (hxd.tk t)
        have hxh : p.heads[j]? = some pr.1 := by rw [List.getElem?_map, hpr]; rfl
        refine ⟨cb, _, rfl, hc, rfl, _, _, rfl, _, _, rfl, rfl, rfl, tyes ⟨_, rfl, ?_⟩⟩
        exact hN _ _ (.refl _ _) (.refl _) (by rw [take_snoc hxh]; simp)
      rintro H8 acc k8 t8 hD _ rfl
      have s8 := Kp.nil k8
      have lhp : p.heads.length = p.ps.length := List.length_map ..
      rw [lpv, ← lhp, List.take_length] at hD
      have lhm : (p.heads.map V.str).length = p.ps.length := by rw [List.length_map, lhp]
      have lv8 := lv7.same s8
      have d8 := d7.tk t8
      have hs8 := hs7.same s8
      have edc8 := s8 _ _ edc
      refine ⟨_, rfl, _, _, rfl, .inl ⟨_, SqL.of hD, rfl⟩, ?_⟩
      rw [lhm]
      refine ⟨_, rfl, by omega, by omega, fun dd ndd => lc_acc (walk_range (lo := 0)) [] (fun j acc H' => ∃ lss : List (List Hm), lss.length = j ∧ Dats K H' acc (lss.map fun l => PyData.tuple (l.map hmD)) ∧ ∀ (q : Nat) l, lss[q]? = some l → Usf (ldOf p) q l) ndd (fun _ _ _ _ _ _ => trivial) (fun _ _ _ _ _ _ hD ⟨lss, h1, h2, h3⟩ => ⟨lss, h1, h2.tk (tk_lst hD), h3⟩) ⟨[], rfl, .nil, fun q l e => by simp at e⟩ ?_ (by simp) ?_ ?_⟩
      · rw [Int.toNat_natCast]; exact Nat.lt_of_le_of_lt p2 (by decide)
      · rintro j y acc H9 H9' hj k t hD9 la ⟨lss, h1, h2, h3⟩ ⟨rfl, hy⟩ N E1 hN _
        rw [Int.toNat_natCast] at hj
        have hy : y = V.int ((j : Nat) : Int) := by rw [hy]; show V.int (0 + (j : Int)) = _; rw [Int.zero_add]
        subst hy
        have s9 := Kp.nil k
        refine ⟨rfl, tyes ⟨_, rfl, _, rfl, _, rfl, rv, dc, ldOf p, j, kc, rfl, lv8.same s9, ok, s9 _ _ edc8, hkc, by omega, fun H10 ra xs l s10 era hms usf => ⟨ra, _, rfl, .inl ⟨SqL.of era, fun rt hrt => ?_⟩⟩⟩⟩
        have s11 := same_new hrt (.tup xs)
        have s101 := s10.trans s11
        refine hN _ _ (.of s101) (tk_same s101) ⟨lss ++ [l], by rw [List.length_append, h1]; rfl, ?_, fun q m e => ?_⟩
        · rw [List.map_append]
          exact (h2.tk (tk_same s101)).append (.cons (.tup (SqT.of upd_same) (dats_hms (hms.tk (tk_same s11)))) .nil)
        · by_cases hq : q < lss.length
          · rw [List.getElem?_append_left hq] at e; exact h3 q m e
          · rw [List.getElem?_append_right (by omega)] at e
            obtain ⟨hq0, e⟩ := List.getElem?_eq_some_iff.mp e
            simp at hq0
            have hqj : q = j := by omega
            rw [hqj, show m = l by rw [← e]; simp]
            exact usf
      rintro H9 dvs k9 t9 hD9 _ ⟨lss, h1, h2, h3⟩
      rw [Int.toNat_natCast] at h1
      have s9 := Kp.nil k9
      have d9 := d8.tk t9
      have hs9 := hs8.same s9
      have eh9 := s9 _ _ hD
      have ldv : dvs.length = p.ps.length := by rw [h2.length, List.length_map, h1]
      have hx : ∀ j, j < p.ps.length → ∃ x l v, p.heads[j]? = some x ∧ (p.heads.map V.str)[j]? = some (.str x) ∧ dvs[j]? = some v ∧ lss[j]? = some l ∧ Dat K H9 v (.tuple (l.map hmD)) ∧ Usf (ldOf p) j l := fun j hj => by
        have e1 : p.heads[j]? = some p.heads[j] := List.getElem?_eq_getElem (by omega)
        have e2 : lss[j]? = some lss[j] := List.getElem?_eq_getElem (by omega)
        have e3 : dvs[j]? = some dvs[j] := List.getElem?_eq_getElem (by omega)
        obtain ⟨l, el, dl⟩ := dats_at h2 e3
        exact ⟨_, l, _, e1, by rw [List.getElem?_map, e1]; rfl, e3, el, dl, h3 j l el⟩
      refine ⟨_, rfl, _, _, rfl, .inl ⟨_, SqL.of eh9, rfl⟩, ?_⟩
      rw [lhm]
      refine ⟨_, rfl, by omega, by omega, for_it (walk_range (lo := 0)) (fun j σ H' => ∃ v10 : Option V, σ = [some (.ref a0), some (.ref a), some (.int i), some (.ref pa), some (.str (progD p).shown), some rv, some (.ref dc), v7, v8, some (.ref hh), v10, some (.ref dd)] ∧ Same H9 H') ⟨_, rfl, fun _ _ h => h⟩ (fun _ _ _ _ _ => trivial) ?_ ?_⟩
      · rintro j z σ H110 H11 hj ⟨v10, rfl, s11⟩ ⟨rfl, hz⟩
        rw [Int.toNat_natCast] at hj
        have hz : z = V.int ((j : Nat) : Int) := by rw [hz]; show V.int (0 + (j : Int)) = _; rw [Int.zero_add]
        subst hz
        obtain ⟨x, l, v, ex, exs, ev, el, dv, ul⟩ := hx j hj
        refine ⟨_, rfl, _, rfl, _, rfl, .inl ⟨hh, _, (j : Int), _, rfl, rfl, SqL.of (s11 _ _ eh9), atI_nat exs, .ref pa, p, j, x, rfl, d9.tk (tk_same s11), vp, ex, fun H12 r12 l12 s12 u12 d12 => ?_⟩⟩
        cases u12.uniq ul
        have s112 := s11.trans s12
        refine ⟨_, rfl, _, rfl, .inl ⟨dd, _, (j : Int), _, rfl, rfl, SqL.of (s112 _ _ hD9), atI_nat ev, r12, v, _, rfl, d12, dv.tk (tk_same s112), sh_hms _ (Nat.le_trans (usf_len ok u12) (by decide)), fun H13 s13 => ?_⟩⟩
        exact ⟨_, rfl, iteF ⟨_, rfl, s112.trans s13⟩⟩
      rintro σ H10 ⟨v10, rfl, s10⟩
      have ehC := s10 _ _ eh9
      have edC := s10 _ _ hD9
      have dPC := d9.tk (tk_same s10)
      have hsC := hs9.same s10
      have hxC : ∀ j, j < p.ps.length → ∃ x l v, p.heads[j]? = some x ∧ (p.heads.map V.str)[j]? = some (.str x) ∧ dvs[j]? = some v ∧ lss[j]? = some l ∧ Dat K H10 v (.tuple (l.map hmD)) ∧ Usf (ldOf p) j l := fun j hj => let ⟨x, l, v, a1, a2, a3, a4, a5, a6⟩ := hx j hj; ⟨x, l, v, a1, a2, a3, a4, a5.tk (tk_same s10), a6⟩
      dsimp only
      refine ⟨_, rfl, _, _, rfl, .inl ⟨_, SqL.of ehC, rfl⟩, ?_⟩
      rw [lhm]
      refine ⟨_, rfl, by omega, by omega, for_it (walk_range (lo := 0)) (fun j σ H' => ∃ v10 : Option V, σ = [some (.ref a0), some (.ref a), some (.int i), some (.ref pa), some (.str (progD p).shown), some rv, some (.ref dc), v7, v8, some (.ref hh), v10, some (.ref dd)] ∧ Same H10 H') ⟨_, rfl, fun _ _ h => h⟩ (fun _ _ _ _ _ => trivial) ?_ ?_⟩
      · rintro j z σ H110 H11 hj ⟨v10, rfl, s11⟩ ⟨rfl, hz⟩
        rw [Int.toNat_natCast] at hj
        have hz : z = V.int ((j : Nat) : Int) := by rw [hz]; show V.int (0 + (j : Int)) = _; rw [Int.zero_add]
        subst hz
        obtain ⟨x, l, v, ex, exs, ev, el, dv, ul⟩ := hxC j hj
        refine ⟨_, rfl, _, rfl, .inl ⟨hh, _, (j : Int), _, rfl, rfl, SqL.of (s11 _ _ ehC), atI_nat exs, _, rfl, rfl, .ref pa, p, j, x, rfl, dPC.tk (tk_same s11), vp, ex, fun H12 r12 l12 s12 u12 d12 => ?_⟩⟩
        cases u12.uniq ul
        have s112 := s11.trans s12
        refine ⟨_, rfl, _, rfl, .inl ⟨dd, _, (j : Int), _, rfl, rfl, SqL.of (s112 _ _ edC), atI_nat ev, r12, v, _, rfl, d12, dv.tk (tk_same s112), sh_hms _ (Nat.le_trans (usf_len ok u12) (by decide)), fun H13 s13 => ?_⟩⟩
        exact ⟨_, rfl, iteF ⟨_, rfl, s112.trans s13⟩⟩
      rintro σ H14 ⟨v10, rfl, s14⟩
      refine ⟨_, rfl, pa, progD p, rfl, dPC.tk (tk_same s14), sh1, sh2, sh3, sh4, _, rfl, .inl ⟨rfl, _, rfl, ?_⟩⟩
      rw [decide_eq_true (rfl : V.str (progD p).shown = V.str (progD p).shown)]
      exact iteF ⟨_, _, _, _, _, _, _, _, _, _, A4, rfl, hsC.same s14, by omega⟩
    refine ⟨_, rfl, .inl ⟨rfl, _, rfl, ite2 (fun _ => ?_) (fun _ => ?_)⟩⟩
    · refine ⟨_, rfl, by show 3 ≤ sizeLine; decide, fun l hl => ?_⟩
      have s4 := same_new hl (.lst [.int 10, .int 60, .int 150])
      refine ⟨_, rfl, a, c, 3, A3, rfl, hs3.same s4, by decide, by decide, by omega, fun wi H5 hwi k5 t5 hs5 => ?_⟩
      have e5 := k5 l _ upd_same (by simpa using (hs3.na hl).symm)
      obtain ⟨m, em, m1, m150⟩ : ∃ m : Nat, [V.int 10, V.int 60, V.int 150][wi]? = some (.int (m : Int)) ∧ 1 ≤ m ∧ m ≤ 150 := by
        have : wi = 0 ∨ wi = 1 ∨ wi = 2 := by omega
        rcases this with rfl | rfl | rfl
        · exact ⟨10, rfl, by decide, by decide⟩
        · exact ⟨60, rfl, by decide, by decide⟩
        · exact ⟨150, rfl, by decide, by decide⟩
      exact .inl ⟨l, _, (wi : Int), _, rfl, rfl, SqL.of e5, atI_nat em, a, c, m, A3 + 1, rfl, hs5, m1, m150, by omega, fun r6 H6 p6 A6 k6 t6 hs6 hA6 d6 vp6 => rest _ _ ⟨r6, p6, A6, rfl, hs6, by omega, d6, vp6⟩⟩
    · exact rest _ _ ⟨r, p, A3, rfl, hs3, by omega, d3, vp3⟩
  · rintro σ H2 ⟨v2, v3, v4, v5, v6, v7, v8, v9, v10, v11, A', rfl, hs2, hA⟩
    exact q _
end PK

set_option linter.all false
set_option Elab.async false
set_option maxRecDepth 100000
set_option maxHeartbeats 0
/-! KHd: the head: facts by names, the promises chained, the call (printed by genh.py). -/
namespace PK
open PySem PySem.Spec PyProof.Rows L2
section
variable {P : Program} {w : World} {K : Fg} {h : Heap} {mg : Str → Option Value}
theorem tp_of (X : K.In h) (G : h.Ns mainGlobals mg) (c : He.SaysD fa fn K) (ex : exT K = true) : Tp K mg := by
  obtain ⟨t1, t2⟩ := He.ba ex
  exact ⟨He.glo_ok X G (c.fact 0 (f := .glo "is_row") rfl),
    He.glo_ok X G (c.fact 1 (f := .glo "in_run") rfl),
    He.glo_ok X G (c.fact 2 (f := .glo "is_desk_name") rfl),
    He.glo_ok X G (c.fact 3 (f := .glo "is_low") rfl),
    He.glo_ok X G (c.fact 4 (f := .glo "is_program_name") rfl),
    He.glo_ok X G (c.fact 5 (f := .glo "first_double") rfl),
    He.glo_ok X G (c.fact 6 (f := .glo "inner_bodies") rfl),
    He.glo_ok X G (c.fact 7 (f := .glo "bodies_of") rfl),
    He.glo_ok X G (c.fact 8 (f := .glo "count_of") rfl),
    He.glo_ok X G (c.fact 9 (f := .glo "is_program") rfl),
    He.glo_ok X G (c.fact 10 (f := .glo "need_program") rfl),
    He.glo_ok X G (c.fact 11 (f := .glo "places_in") rfl),
    He.glo_ok X G (c.fact 12 (f := .glo "laid") rfl),
    He.glo_ok X G (c.fact 13 (f := .glo "own_fault") rfl),
    He.glo_ok X G (c.fact 14 (f := .glo "fault_in") rfl),
    He.glo_ok X G (c.fact 15 (f := .glo "fault_of") rfl),
    He.glo_ok X G (c.fact 16 (f := .glo "check") rfl),
    He.glo_ok X G (c.fact 17 (f := .glo "need_checked") rfl),
    He.glo_ok X G (c.fact 18 (f := .glo "procedure_index") rfl),
    He.glo_ok X G (c.fact 19 (f := .glo "need_index") rfl),
    He.glo_ok X G (c.fact 20 (f := .glo "useful") rfl),
    He.glo_ok X G (c.fact 21 (f := .glo "_law_source") rfl),
    He.glo_ok X G (c.fact 22 (f := .glo "_law_draw") rfl),
    He.glo_ok X G (c.fact 23 (f := .glo "_law_same") rfl),
    He.glo_ok X G (c.fact 24 (f := .glo "_law_net") rfl),
    He.glo_ok X G (c.fact 25 (f := .glo "_law_names") rfl),
    He.glo_ok X G (c.fact 26 (f := .glo "_law_statement") rfl),
    He.glo_ok X G (c.fact 27 (f := .glo "_law_body") rfl),
    He.glo_ok X G (c.fact 28 (f := .glo "_law_program") rfl),
    He.glo_ok X G (c.fact 29 (f := .glo "_law_opposite") rfl),
    He.glo_ok X G (c.fact 30 (f := .glo "_law_word") rfl),
    He.glo_ok X G (c.fact 31 (f := .glo "_law_straight") rfl),
    He.glo_ok X G (c.fact 32 (f := .glo "_law_kept") rfl),
    He.glo_ok X G (c.fact 33 (f := .glo "_law_size") rfl),
    He.glo_ok X G (c.fact 34 (f := .glo "_law_kept_program") rfl),
    He.glo_ok X G (c.fact 35 (f := .glo "_law_bent_body") rfl),
    He.glo_ok X G (c.fact 36 (f := .glo "_law_bent_program") rfl),
    He.glo_ok X G (c.fact 37 (f := .glo "_law_any_program") rfl),
    He.glo_ok X G (c.fact 38 (f := .glo "_law_lay") rfl),
    He.glo_ok X G (c.fact 39 (f := .glo "_law_laid") rfl),
    He.glo_ok X G (c.fact 40 (f := .glo "_law_ways") rfl),
    He.glo_ok X G (c.fact 41 (f := .glo "_law_homes") rfl),
    He.glo_ok X G (c.fact 42 (f := .glo "_law_users") rfl),
    He.glo_ok X G (c.fact 43 (f := .glo "_law_chosen") rfl),
    He.glo_ok X G (c.fact 44 (f := .glo "_law_useful") rfl),
    He.glo_ok X G (c.fact 45 (f := .glo "law") rfl),
    He.glo_ok X G (c.fact 46 (f := .glo "Layer") rfl),
    He.cls_ok (c.fact 47 (f := .cls "Layer") rfl),
    He.mkr_ok (c.fact 48 (f := .mkr "Layer") rfl),
    He.noat_ok (c.fact 49 (f := .noat "Layer" "letters") rfl),
    He.noat_ok (c.fact 50 (f := .noat "Layer" "numbers") rfl),
    He.noat_ok (c.fact 51 (f := .noat "Layer" "found") rfl),
    He.meth_ok (c.fact 52 (f := .meth "Layer" "make") rfl),
    He.meth_ok (c.fact 53 (f := .meth "Layer" "body") rfl),
    He.meth_ok (c.fact 54 (f := .meth "Layer" "statement") rfl),
    He.glo_ok X G (c.fact 55 (f := .glo "Lot") rfl),
    He.cls_ok (c.fact 56 (f := .cls "Lot") rfl),
    He.mkr_ok (c.fact 57 (f := .mkr "Lot") rfl),
    He.noat_ok (c.fact 58 (f := .noat "Lot" "laid") rfl),
    He.noat_ok (c.fact 59 (f := .noat "Lot" "rows") rfl),
    He.noat_ok (c.fact 60 (f := .noat "Lot" "homes") rfl),
    He.meth_ok (c.fact 61 (f := .meth "Lot" "choose") rfl),
    He.meth_ok (c.fact 62 (f := .meth "Lot" "ways") rfl),
    He.meth_ok (c.fact 63 (f := .meth "Lot" "begin") rfl),
    He.meth_ok (c.fact 64 (f := .meth "Lot" "ended") rfl),
    He.meth_ok (c.fact 65 (f := .meth "Lot" "useful") rfl),
    He.free_ok X G (c.fact 66 (f := .free "len") rfl),
    He.free_ok X G (c.fact 67 (f := .free "all") rfl),
    He.free_ok X G (c.fact 68 (f := .free "sum") rfl),
    He.free_ok X G (c.fact 69 (f := .free "abs") rfl),
    He.free_ok X G (c.fact 70 (f := .free "isinstance") rfl),
    He.free_ok X G (c.fact 71 (f := .free "repr") rfl),
    He.free_ok X G (c.fact 72 (f := .free "sorted") rfl),
    He.free_ok X G (c.fact 73 (f := .free "int") rfl),
    He.free_ok X G (c.fact 74 (f := .free "tuple") rfl),
    He.free_ok X G (c.fact 75 (f := .free "list") rfl),
    He.free_ok X G (c.fact 76 (f := .free "set") rfl),
    He.free_ok X G (c.fact 77 (f := .free "enumerate") rfl),
    He.free_ok X G (c.fact 78 (f := .free "str") rfl),
    He.free_ok X G (c.fact 79 (f := .free "bool") rfl),
    He.free_ok X G (c.fact 80 (f := .free "range") rfl),
    He.free_ok X G (c.fact 81 (f := .free "reversed") rfl),
    (let ⟨t, e⟩ := He.str_ok X G (c.fact 82 (f := .str "LOWER" "abcdefghijklmnopqrstuvwxyz") rfl); ⟨_, e, t, rfl⟩),
    (let ⟨t, e⟩ := He.str_ok X G (c.fact 83 (f := .str "UPPER" "ABCDEFGHIJKLMNOPQRSTUVWXYZ") rfl); ⟨_, e, t, rfl⟩),
    (let ⟨t, e⟩ := He.str_ok X G (c.fact 84 (f := .str "DIGITS" "0123456789") rfl); ⟨_, e, t, rfl⟩),
    (let ⟨t, e⟩ := He.int_ok X G (c.fact 85 (f := .int "LONGEST" 10) rfl); ⟨_, e, t, rfl⟩),
    He.glo_ok X G (c.fact 86 (f := .glo "PRINTER_WORDS") rfl),
    He.tupB_ok t1,
    He.glo_ok X G (c.fact 87 (f := .glo "PROGRAM_WORDS") rfl),
    He.tupB_ok t2,
    (let ⟨t, e⟩ := He.int_ok X G (c.fact 88 (f := .int "MOST_LETTERS" 20) rfl); ⟨_, e, t, rfl⟩),
    (let ⟨t, e⟩ := He.int_ok X G (c.fact 89 (f := .int "MOST_PROCEDURES" 40) rfl); ⟨_, e, t, rfl⟩),
    (let ⟨t, e⟩ := He.int_ok X G (c.fact 90 (f := .int "MOST_BODIES" 8) rfl); ⟨_, e, t, rfl⟩),
    (let ⟨t, e⟩ := He.int_ok X G (c.fact 91 (f := .int "MOST_STATEMENTS" 400) rfl); ⟨_, e, t, rfl⟩),
    (let ⟨t, e⟩ := He.int_ok X G (c.fact 92 (f := .int "DEEPEST" 12) rfl); ⟨_, e, t, rfl⟩),
    (let ⟨t, e⟩ := He.int_ok X G (c.fact 93 (f := .int "MOST_PLACES" 300) rfl); ⟨_, e, t, rfl⟩)⟩
end
section
variable {P : Program} {w : World} {K : Fg} {mg : Str → Option Value} {base : Heap}
theorem useful_dn (T : Tp K mg) (c : He.SaysD fa fn K) : DnK P w K mg base 63 (He.ga K "useful") ["program", "name"] ["name", "program"] (spUseful K) := by
  have d1 := ok_is_row (P := P) (w := w) (base := base) T (c.def_ 0 (d := dfG "is_row" s_is_row) rfl) 
  have d2 := ok_in_run (P := P) (w := w) (base := base) T (c.def_ 1 (d := dfG "in_run" s_in_run) rfl) 
  have d3 := ok_is_desk_name (P := P) (w := w) (base := base) T (c.def_ 2 (d := dfG "is_desk_name" s_is_desk_name) rfl) d2
  have d4 := ok_is_low (P := P) (w := w) (base := base) T (c.def_ 3 (d := dfG "is_low" s_is_low) rfl) d3
  have d5 := ok_is_program_name (P := P) (w := w) (base := base) T (c.def_ 4 (d := dfG "is_program_name" s_is_program_name) rfl) d4
  have d6 := ok_inner (P := P) (w := w) (base := base) T (c.def_ 6 (d := dfG "inner_bodies" s_inner_bodies) rfl) d1 d5
  have d7 := ok_bodies_of (P := P) (w := w) (base := base) T (c.def_ 7 (d := dfG "bodies_of" s_bodies_of) rfl) d6
  have d8 := all_count (P := P) (w := w) (base := base) T (c.def_ 8 (d := dfG "count_of" s_count_of) rfl) d6
  have d9 := ok_is_program (P := P) (w := w) (base := base) T (c.def_ 9 (d := dfG "is_program" s_is_program) rfl) d1 d5 (d8 13)
  have d10 := ok_need_program (P := P) (w := w) (base := base) T (c.def_ 10 (d := dfG "need_program" s_need_program) rfl) d9
  have d11 := all_places_in (P := P) (w := w) (base := base) T (c.def_ 11 (d := dfG "places_in" s_places_in) rfl) d7
  have d12 := ok_make (P := P) (w := w) (base := base) T (c.def_ 13 (d := dfM "Layer" "make" "Layer.make" s_Layer_make) rfl) 
  have d13 := ok_lyB (P := P) (w := w) (base := base) 28 T (c.def_ 14 (d := dfM "Layer" "body" "Layer.body" s_Layer_body) rfl) (all_ly T (c.def_ 14 (d := dfM "Layer" "body" "Layer.body" s_Layer_body) rfl) (c.def_ 15 (d := dfM "Layer" "statement" "Layer.statement" s_Layer_statement) rfl) d12 28)
  have d14 := ok_lyInit (P := P) (w := w) (base := base) T (c.def_ 12 (d := dfM "Layer" "__init__" "Layer.__init__" s_Layer_init) rfl) 
  have d15 := ok_laid (P := P) (w := w) (base := base) T (c.def_ 16 (d := dfG "laid" s_laid) rfl) d14 d13
  have d16 := ok_first_double (P := P) (w := w) (base := base) T (c.def_ 5 (d := dfG "first_double" s_first_double) rfl) 
  have d17 := ok_own_fault (P := P) (w := w) (base := base) T (c.def_ 17 (d := dfG "own_fault" s_own_fault) rfl) 
  have d18 := all_fault (P := P) (w := w) (base := base) T (c.def_ 18 (d := dfG "fault_in" s_fault_in) rfl) d17 d7
  have d19 := ok_fault_of (P := P) (w := w) (base := base) T (c.def_ 19 (d := dfG "fault_of" s_fault_of) rfl) d16 (d18 13) (d11 13)
  have d20 := ok_check (P := P) (w := w) (base := base) T (c.def_ 20 (d := dfG "check" s_check) rfl) d10 d19
  have d21 := ok_need_checked (P := P) (w := w) (base := base) T (c.def_ 21 (d := dfG "need_checked" s_need_checked) rfl) d20
  have d22 := ok_procedure_index (P := P) (w := w) (base := base) T (c.def_ 22 (d := dfG "procedure_index" s_procedure_index) rfl) 
  have d23 := ok_need_index (P := P) (w := w) (base := base) T (c.def_ 23 (d := dfG "need_index" s_need_index) rfl) d21 d22
  have d24 := ok_ways (P := P) (w := w) (base := base) T (c.def_ 26 (d := dfM "Lot" "ways" "Lot.ways" s_Lot_ways) rfl) 
  have d25 := ok_begin (P := P) (w := w) (base := base) T (c.def_ 27 (d := dfM "Lot" "begin" "Lot.begin" s_Lot_begin) rfl) 
  have d26 := ok_choose (P := P) (w := w) (base := base) T (c.def_ 25 (d := dfM "Lot" "choose" "Lot.choose" s_Lot_choose) rfl) d24
  have d27 := ok_ended (P := P) (w := w) (base := base) T (c.def_ 28 (d := dfM "Lot" "ended" "Lot.ended" s_Lot_ended) rfl) d24
  have d28 := ok_lotInit (P := P) (w := w) (base := base) T (c.def_ 24 (d := dfM "Lot" "__init__" "Lot.__init__" s_Lot_init) rfl) d15 d24 d26
  have d29 := ok_lotUseful (P := P) (w := w) (base := base) T (c.def_ 29 (d := dfM "Lot" "useful" "Lot.useful" s_Lot_useful) rfl) d25 d27
  exact ok_useful T (c.def_ 30 (d := dfG "useful" s_useful) rfl) d23 d28 d29
theorem law_pss (T : Tp K mg) (c : He.SaysD fa fn K) (f : Addr) (cdv : Value) (outer : List Env) (s : Shared) (H : Hp) (vs : List V) (Q : VK) (E : XK)
    (hr : Room 63 (PySem.callerA.deeper (envOfC "law" (defScope s_law) s.heap.objs.size f cdv))) (h : spLaw K vs H Q E) :
    ∃ t, PSs (cxOf CX0 P w K mg base N_law "law" (defScope s_law) f cdv PySem.callerA outer s H E).nox (defBody s_law) t ∧ t { nx := fun _ H' => Q .non H', rt := Q } (start N_law vs) H := by
  have u := useful_dn (P := P) (w := w) (base := base) T c
  have e1 := ok_Ldraw (P := P) (w := w) (base := base) T (c.def_ 32 (d := dfG "_law_draw" s_Ldraw) rfl) 
  have e2 := ok_Lsource (P := P) (w := w) (base := base) T (c.def_ 31 (d := dfG "_law_source" s_Lsource) rfl) 
  have e3 := ok_Lnames (P := P) (w := w) (base := base) T (c.def_ 35 (d := dfG "_law_names" s_Lnames) rfl) e1
  have e4 := ok_Lopp (P := P) (w := w) (base := base) T (c.def_ 39 (d := dfG "_law_opposite" s_Lopposite) rfl) 
  have e5 := ok_Lnet (P := P) (w := w) (base := base) T (c.def_ 34 (d := dfG "_law_net" s_Lnet) rfl) 
  have e6 := ok_Lword (P := P) (w := w) (base := base) T (c.def_ 40 (d := dfG "_law_word" s_Lword) rfl) e1 e5
  have e7 := ok_Lstraight (P := P) (w := w) (base := base) T (c.def_ 41 (d := dfG "_law_straight" s_Lstraight) rfl) e1
  have e8 := (all_Lstm (P := P) (w := w) (base := base) T (c.def_ 36 (d := dfG "_law_statement" s_Lstatement) rfl) (c.def_ 37 (d := dfG "_law_body" s_Lbody) rfl) e1 12 (Nat.le_refl _)).2
  have e9 := ok_Llaid (P := P) (w := w) (base := base) T (c.def_ 49 (d := dfG "_law_laid" s_Llaid) rfl) (all_Llay T (c.def_ 48 (d := dfG "_law_lay" s_Llay) rfl) 28)
  have e10 := ok_Lprogram (P := P) (w := w) (base := base) T (c.def_ 38 (d := dfG "_law_program" s_Lprogram) rfl) e1 e3 e8 e9
  have e11 := all_Lsize (P := P) (w := w) (base := base) T (c.def_ 43 (d := dfG "_law_size" s_Lsize) rfl) 12
  have e12 := all_Lkept (P := P) (w := w) (base := base) T (c.def_ 42 (d := dfG "_law_kept" s_Lkept) rfl) e1 e6 e5 e4 e7 4
  have e13 := ok_Lkept_program (P := P) (w := w) (base := base) T (c.def_ 44 (d := dfG "_law_kept_program" s_Lkept_program) rfl) e1 e3 e6 e7 e12 e11
  have e14 := all_Lbent (P := P) (w := w) (base := base) T (c.def_ 45 (d := dfG "_law_bent_body" s_Lbent_body) rfl) e1 12
  have e15 := ok_Lbent_program (P := P) (w := w) (base := base) T (c.def_ 46 (d := dfG "_law_bent_program" s_Lbent_program) rfl) e1 e14
  have e16 := ok_Lany_program (P := P) (w := w) (base := base) T (c.def_ 47 (d := dfG "_law_any_program" s_Lany_program) rfl) e1 e10 e13 e15
  have e17 := ok_Lways (P := P) (w := w) (base := base) T (c.def_ 50 (d := dfG "_law_ways" s_Lways) rfl) 
  have e18 := ok_Lhomes (P := P) (w := w) (base := base) T (c.def_ 51 (d := dfG "_law_homes" s_Lhomes) rfl) 
  have e19 := ok_Lusers (P := P) (w := w) (base := base) T (c.def_ 52 (d := dfG "_law_users" s_Lusers) rfl) e18 e17
  have e20 := ok_Lchosen (P := P) (w := w) (base := base) T (c.def_ 53 (d := dfG "_law_chosen" s_Lchosen) rfl) e18 e17 e19
  have e21 := ok_Luseful (P := P) (w := w) (base := base) T (c.def_ 54 (d := dfG "_law_useful" s_Luseful) rfl) e17
  have e22 := all_Lsame (P := P) (w := w) (base := base) T (c.def_ 33 (d := dfG "_law_same" s_Lsame) rfl) 2
  exact law_body T e2 e16 e10 e1 e9 e20 e21 e22 u f cdv outer s H vs Q E hr h
end
end PK

set_option linter.all false
set_option Elab.async false
set_option maxRecDepth 100000
set_option maxHeartbeats 0
/-! KHe: the law's call at the claim's own caller, where no repr is under way. -/
namespace PK
open PySem PySem.Spec PyProof.Rows L2
section
variable {P : Program} {w : World} {K : Fg} {mg : Str → Option Value}
/-- the law's function object, called by the claim -/
theorem law_fn {base : Heap} (T : Tp K mg) (c : He.SaysD fa fn K) {fd : FuncData} (FD : FnS K "law" "law" s_law (He.ga K "law") fd) {outer : List Env} {s : Shared} {H : Hp} {args : Args} {us : List Value} {vs : List V} {Q : VK} {E : XK}
    (room : Room 64 PySem.callerA) (env : Env0 P w K mg base PySem.callerA outer s H) (bnd : BindsTo s fd args ((["script"] : List Str).zip us)) (rel : Vals vs us) (pr : spLaw K vs H Q E) :
    codeAny (model P w) PySem.callerA (.call (.ref (He.ga K "law")) args) (CR CX0 outer P w H s Q E) s := by
  obtain ⟨oc, od, dV, kV, doc, pm, an, cdv, ct, osl, rfl, look, code, -, -⟩ := FD.ex
  have SC := sc_law
  have one : vs.length = (["script"] : List Str).length := by
    obtain ⟨a, ns, e, -⟩ := pr
    rw [e]; rfl
  have inK : K.In s.heap := env.mod.kin.keeps fun b o e => (env.bs b o e).1
  have noLim : s.heap.NoLimit := env.mod.nolimit.keeps fun b o e => (env.bs b o e).1
  have kinds : ∀ y ∈ (["script"] : List Str).zip us, (defScope s_law).names.lookup y.1 = some .local ∨ ((defScope s_law).names.lookup y.1 = some .cell ∧ ((cellsFrom (s.heap.objs.size + 1) (defScope s_law).names []).lookup y.1).isSome = true) := by
    rintro ⟨n, v⟩ hy
    cases SC.par n (List.of_mem_zip hy).1 with
    | inl q => exact .inl q
    | inr q => exact .inr ⟨q, PySem.W.cellsFrom_some _ _ _ (.inl q)⟩
  refine codeAny_call_function room.depth (inK _ _ look) rfl SC.co SC.gen rfl (PySem.W.codeRec_of inK code) (bnd _ _ _ _ ?_)
  refine wpAny_newFunctionEnv_cells SC.kind kinds fun ev eq s1 grown => ?_
  subst eq
  refine ⟨noLim.keeps grown.toInCall.keep, codeAny_func ?_⟩
  obtain ⟨t, pss, go⟩ := law_pss (P := P) (w := w) (base := base) T c (He.ga K "law") cdv outer s H vs Q E (room.deeper _) pr
  have start := inv_start (CX := CX0) (E := E) SC room.hd env one rel grown
  refine wpAny_mono ((pss.nox).run [] s1 _ H _ start go) (fun fl s' got => ?_) fun _ _ got => got
  cases fl with
  | ret u =>
    obtain ⟨v, σ2, H2, J, rv, q⟩ := got
    exact ⟨v, H2, J.os, J.bare, J.base, J.hok, rv, q⟩
  | next =>
    obtain ⟨σ2, H2, J, q⟩ := got
    exact ⟨.non, H2, J.os, J.bare, J.base, J.hok, rfl, q⟩
  | brk => exact (let ⟨_, _, _, q⟩ := got; q : False).elim
  | cont => exact (let ⟨_, _, _, q⟩ := got; q : False).elim
/-- the claim's call, from the heap behind the module's top -/
theorem law_claim {mb : Str → Option Value} {a : Addr} {s₁ : Shared} {us : List Value} {ns : List Int} {fd : FuncData} (T : Tp K mg) (c : He.SaysD fa fn K) (FD : FnS K "law" "law" s_law (He.ga K "law") fd)
    (inK : K.In s₁.heap) (names : s₁.heap.Ns mainGlobals mg) (bnames : s₁.heap.Ns builtinsNs mb) (boot : ∀ x : Str, x ≠ "__name__" → mb x = bootBuiltins x) (noLim : s₁.heap.NoLimit) (noGen : s₁.gens = #[])
    (obj : s₁.heap.get? a = some { cls := .type "list", data := .seq us.toArray }) (whl : IntsAre us ns) (few : ns.length ≤ 63) (room : Room 64 PySem.callerA)
    (bnd : ∀ (s : Shared) (u : Value), BindsTo s fd ⟨[u], []⟩ [("script", u)]) :
    codeAny (model P w) PySem.callerA (.call (.ref (He.ga K "law")) ⟨[.ref a], []⟩) (fun r s2 => r = .ok (.ret (.bool true)) ∧ OldK s₁.heap s2.heap ∧ s2.os = s₁.os ∧ AllBare s2.gens) s₁ := by
  have sized : ns.length ≤ sizeLine := Nat.le_trans few (by decide)
  have vals := L2.vals_ints whl
  have lens := whl.length
  have main : ∀ H : Hp, Only H → SqL K H a (ns.map V.int) → HOk P w H s₁.heap → (∀ b, H b ≠ none → b = a) → (H a ≠ none → K.lookup a = none) →
      codeAny (model P w) PySem.callerA (.call (.ref (He.ga K "law")) ⟨[.ref a], []⟩) (fun r s2 => r = .ok (.ret (.bool true)) ∧ OldK s₁.heap s2.heap ∧ s2.os = s₁.os ∧ AllBare s2.gens) s₁ := by
    intro H only lst hok alone apart
    have free : ∀ {b : Addr} {o : Obj}, s₁.heap.get? b = some o → (b = a → False) → H b = none := fun {b o} _ n => by
      rcases q : H b with _ | z
      · rfl
      · exact (n (alone b (by rw [q]; exact Option.some_ne_none _))).elim
    have notDict : ∀ {b : Addr} {o : Obj} {es : Array DictEntry} {k : Nat}, s₁.heap.get? b = some o → o.data = .dict es k → H b = none := fun {b o es k} e d => free e fun z => by
      rw [z, obj] at e
      cases e
      exact Data.noConfusion (show Data.seq us.toArray _ = Data.dict es k from d)
    have nsB : ∀ {b : Addr} {m : Str → Option Value}, s₁.heap.Ns b m → (hidT s₁.heap H).Ns b m := fun ⟨o, es, k, e, d, r⟩ => ⟨o, es, k, hidT_get e (notDict e d), d, r⟩
    have inB : K.In (hidT s₁.heap H) := fun b o e => hidT_get (inK b o e) <| by
      rcases q : H b with _ | z
      · rfl
      · have ne : H b ≠ none := by rw [q]; exact Option.some_ne_none _
        have eq := alone b ne
        rw [eq] at e ne
        rw [apart ne] at e
        cases e
    obtain ⟨ml, l1, l2⟩ := noLim
    have env : Env0 P w K mg (hidT s₁.heap H) PySem.callerA [] s₁ H :=
      ⟨rfl, ⟨inB, nsB names, ⟨mb, nsB bnames, boot⟩, ⟨ml, nsB l1, l2⟩⟩, fun b o e => of_hidT e, Nat.le_of_eq (hidT_size _ _), trivial, fun b m => absurd m (List.not_mem_nil), hok, .of_eq noGen⟩
    have ran := law_fn (Q := fun v _ => v = .bl true) (E := fun _ _ _ => False) (us := [.ref a]) (vs := [.ref a]) T c FD room env (bnd s₁ (.ref a)) (.cons rfl .nil) ⟨a, ns, rfl, lst, few, fun _ => rfl⟩
    refine codeAny_mono ran fun r s2 got => ?_
    match r, got with
    | .error e, bad => exact (show False from bad).elim
    | .ok .next, bad => exact (show False from bad).elim
    | .ok .brk, bad => exact (show False from bad).elim
    | .ok .cont, bad => exact (show False from bad).elim
    | .ok (.ret u), ⟨v, H2, sameOs, bare, un, hok2, rel, yes⟩ =>
      have yes : v = .bl true := yes
      rw [yes] at rel
      have val : u = Value.bool true := rel
      rw [val]
      refine ⟨rfl, .of_keep fun b o e => ?_, sameOs, bare⟩
      rcases q : H b with _ | z
      · exact un.keep b o e q (fun m => absurd m List.not_mem_nil) List.not_mem_nil
      · rcases only b with none | ⟨ob, xs, some⟩
        · rw [q] at none; cases none
        · obtain ⟨o1, _⟩ := hok b _ some
          obtain ⟨o2, _⟩ := hok2 b _ (un.frzs b ob _ some)
          rw [o1] at e
          cases e
          exact o2
  rcases known : K.lookup a with _ | o
  · -- the script is no object of the module's own
    have at_a : ∀ {z : HO}, (if a = a then some (HO.frz { cls := .type "list", data := .seq us.toArray } (.lst (ns.map V.int))) else none) = some z → z = HO.frz { cls := .type "list", data := .seq us.toArray } (.lst (ns.map V.int)) := fun e => by
      rw [if_pos rfl] at e
      exact (Option.some.inj e).symm
    refine main (fun b => if b = a then some (.frz { cls := .type "list", data := .seq us.toArray } (.lst (ns.map V.int))) else none) (fun b => ?_) (.inl (.inr ⟨_, if_pos rfl⟩)) (fun b z e => ?_) (fun b ne => ?_) fun _ => known
    · rcases Decidable.em (b = a) with y | n
      · exact .inr ⟨_, _, if_pos y⟩
      · exact .inl (if_neg n)
    · rcases Decidable.em (b = a) with y | n
      · subst y
        cases at_a (z := z) e
        exact ⟨obj, by rw [List.length_map]; exact sized, us, _, vals, obj⟩
      · exact nomatch (if_neg n).symm.trans e
    · rcases Decidable.em (b = a) with y | n
      · exact y
      · exact (ne (if_neg n)).elim
  · have eq := inK a o known
    rw [obj] at eq
    have eq := Option.some.inj eq
    refine main (fun _ => none) (fun _ => .inl rfl) (.inr ⟨_, us.toArray, _, known, by rw [← eq], by rw [← eq], by rw [← eq], by rw [List.size_toArray, lens]; exact sized, vals⟩) (fun b z e => by cases e) (fun b n => (n rfl).elim) fun n => (n rfl).elim
end
end PK

set_option linter.all false
set_option Elab.async false
set_option maxRecDepth 100000
set_option maxHeartbeats 0
/-! KHg: the law holds. -/
open PySem PySem.W PySem.Calls PyProof.Rows
theorem PySem.Challenge.cw_printsalike_k75_whole_useful_places_holds : PySem.Challenge.rw_printsalike_k75_whole_useful_places.Holds := by
  w_on; o_law
  refine HandSHeadRun.head_any (r := PK.R) (q := view PK.R.prog [71]) (H := PK.hk) (ob := PK.ob) (M := 4000) (loose := PK.loose) (d := HandSHeadRun.topDef PK.R.prog 71) (kwd := []) PK.ob_eq
    (by kernel_rfl) (fun s => by kernel_rfl) PK.run (by kernel_rfl) (by kernel_rfl) (by kernel_rfl) (by rfl) (by first | assumption | decide +kernel) (by decide +kernel) ⟨rfl, rfl, rfl, rfl, rfl, by decide +kernel⟩ ?hw ?hc
  case hw => w_witness2
  case hc =>
    refine Att.attach_call (l := PySem.Challenge.rw_printsalike_k75_whole_useful_places) (n := 63) rfl (by kernel_rfl) fun w s₀ s₁ mg mb fa o pm cd doc a vs ns G Y ho hd hcd hmg hobj whl hlen hg => ?_
    obtain ⟨K, KX, c⟩ := Y
    have T := PK.tp_of KX G.T.g c.t.d c.more
    have called : mg ("law" : PySem.Str) = some (.ref fa) := by
      have e : (HandSHeadRun.topDef PK.R.prog 71).name = ("law" : PySem.Str) := by kernel_rfl
      rw [← e]
      exact hmg
    cases called.symm.trans T.g_law
    obtain ⟨fd, FD⟩ := c.t.d.def_ 55 (d := PK.dfG "law" PK.s_law) rfl
    have bnd := L2.FunD.bindsA (ps := ["script"]) FD fun _ _ _ _ _ _ us hl => match us, hl with | [_], _ => rfl
    exact PK.law_claim T c.t.d FD KX G.T.g G.T.b G.T.builtins G.T.nolimit hg hobj whl hlen PK.room fun s u => bnd s [u] rfl

