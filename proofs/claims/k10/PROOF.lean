import PyProof.Rows.All
import Wide.All
import OpenK.AllK
import Wide.FinOn
import HandS.ForMost
import HandS.IsInst
import HandS.Codes
import HandS.Defaults
import HandS.RevRange
import HandS.NoneIn
import HandS.HeadHook4
import HandS.Walk
import HandS.OwnEq
import HandS.DictSub
import HandS.HeadHook1
import PyProof.InstSpecial
import HandS.MakeKwOnly
import HandS.HeadHook2
import HandS.Ends
import HandS.HeadEnd
import PyProof.ReprRoads
import KE.KUnpackStar
import HandS.SetBool
import HandS.SetKeys
import HandS.DictComp
import HandS.Style
import HandS.WordsDict
import HandS.EndTab
import HandS.NestedK
import HandS.Small
import Wide.Once
import KE.KStateDown
import HandS.Head0
import HandS.Head1
import HandS.Head2
import HandS.Deep
import KE.DataMinKey
import KE.DataMinMax
import HandS.Lambda
import HandS.SortKw
import HandS.TupSets
import HandS.Finally
import KE.DatumOrd
import HandS.Flt
import HandS.Strs
import PySem.Challenge.RW_pileboxes_k10_left_out
set_option Elab.async false
/-! PbBase -/
set_option Elab.async false
set_option linter.all false
set_option maxRecDepth 100000
set_option maxHeartbeats 4000000
/-! Pb: data in the abstract heap, with what is being changed hidden -/
namespace Pb
open PySem PySem.Spec PyProof.Rows L2
open C8 (Cal Mak Met pe_c pe_mk pe_mt pe_mt0 pe_gc fnScope_by)
/-! ### hidden places -/
def hide (H : Hp) (ms : List Addr) : Hp := fun a => if a ∈ ms then none else H a
theorem hide_nil {H : Hp} : hide H [] = H := by
  funext a
  unfold hide
  rw [if_neg (by simp)]
theorem hide_of {H : Hp} {ms : List Addr} {a : Addr} {o : HO} (h : hide H ms a = some o) : H a = some o ∧ a ∉ ms := by
  unfold hide at h
  by_cases q : a ∈ ms
  · rw [if_pos q] at h; cases h
  · rw [if_neg q] at h; exact ⟨h, q⟩
theorem hide_at {H : Hp} {ms : List Addr} {a : Addr} (q : a ∉ ms) : hide H ms a = H a := by
  unfold hide
  rw [if_neg q]
theorem hide_in {H : Hp} {ms : List Addr} {a : Addr} (q : a ∈ ms) : hide H ms a = none := by
  unfold hide
  rw [if_pos q]
theorem Same.hide {H H' : Hp} (s : Same H H') (ms : List Addr) : Same (hide H ms) (hide H' ms) := fun b o e => by
  obtain ⟨e1, e2⟩ := hide_of e
  rw [hide_at e2]
  exact s b o e1
theorem same_show {H : Hp} {ms : List Addr} : Same (hide H ms) H := fun b o e => (hide_of e).1
theorem same_less {H : Hp} {ms ms' : List Addr} (h : ∀ a ∈ ms', a ∈ ms) : Same (hide H ms) (hide H ms') := fun b o e => by
  obtain ⟨e1, e2⟩ := hide_of e
  rw [hide_at fun z => e2 (h b z)]
  exact e1
/-- what is hidden is tracked -/
def Tk (H : Hp) (ms : List Addr) : Prop := ∀ m ∈ ms, H m ≠ none
theorem Tk.nil {H : Hp} : Tk H [] := fun _ h => nomatch h
theorem Tk.cons {H : Hp} {m : Addr} {ms : List Addr} {o : HO} (h : H m = some o) (t : Tk H ms) : Tk H (m :: ms) := fun x hx => by
  rcases List.mem_cons.mp hx with e | hx
  · rw [e, h]; exact fun z => nomatch z
  · exact t x hx
theorem Tk.same {H H' : Hp} {ms : List Addr} (t : Tk H ms) (s : Same H H') : Tk H' ms := fun m hm => by
  cases e : H m with
  | none => exact absurd e (t m hm)
  | some o => rw [s m o e]; exact fun z => nomatch z
theorem Tk.upd {H : Hp} {ms : List Addr} {a : Addr} {o : HO} (t : Tk H ms) : Tk (upd H a o) ms := fun m hm => by
  by_cases e : m = a
  · rw [e, upd_same]; exact fun z => nomatch z
  · rw [upd_ne e]; exact t m hm
theorem Tk.out {H : Hp} {ms : List Addr} {p : Addr} (t : Tk H ms) (h : H p = none) : p ∉ ms := fun z => t p z h
theorem same_new {H : Hp} {p : Addr} {o : HO} (h : H p = none) : Same H (upd H p o) := fun b u e => by
  rw [upd_ne (ne_of_none e h)]
  exact e
theorem same_upd {A H : Hp} {ms : List Addr} {p : Addr} {o : HO} (s : Same A (hide H ms)) (h : H p = none) : Same A (hide (upd H p o) ms) := s.trans (Same.hide (same_new h) ms)
/-- a change at a hidden place -/
theorem hide_upd {H : Hp} {ms : List Addr} {m : Addr} {o : HO} (h : m ∈ ms) : hide (upd H m o) ms = hide H ms := by
  funext a
  unfold hide
  by_cases q : a ∈ ms
  · rw [if_pos q, if_pos q]
  · rw [if_neg q, if_neg q, upd_ne fun z => q (by rw [z]; exact h)]
/-- one more place hidden, new -/
theorem hide_new {H : Hp} {ms : List Addr} {p : Addr} {o : HO} (h : H p = none) : hide (upd H p o) (p :: ms) = hide H ms := by
  funext a
  unfold hide
  by_cases e : a = p
  · rw [e, if_pos (List.mem_cons_self ..)]
    by_cases q : p ∈ ms
    · rw [if_pos q]
    · rw [if_neg q, h]
  · by_cases q : a ∈ ms
    · rw [if_pos (List.mem_cons_of_mem _ q), if_pos q]
    · rw [if_neg (fun z => (List.mem_cons.mp z).elim e q), if_neg q, upd_ne e]
theorem new_at {H : Hp} {ms : List Addr} {p : Addr} {o : HO} (t : Tk H ms) (h : H p = none) : hide (upd H p o) ms p = some o := by
  rw [hide_at (t.out h), upd_same]
theorem keep_at {H : Hp} {a p : Addr} {o u : HO} (e : H a = some o) (h : H p = none) : upd H p u a = some o := by
  rw [upd_ne (ne_of_none e h)]
  exact e
/-! ### all but some places stand -/
def Sx (ms : List Addr) (H H' : Hp) : Prop := ∀ b o, b ∉ ms → H b = some o → H' b = some o
theorem Sx.refl {ms : List Addr} {H : Hp} : Sx ms H H := fun _ _ _ e => e
theorem Sx.trans {ms : List Addr} {H H1 H2 : Hp} (a : Sx ms H H1) (b : Sx ms H1 H2) : Sx ms H H2 := fun c o h e => b c o h (a c o h e)
theorem Sx.of {ms : List Addr} {H H' : Hp} (s : Same H H') : Sx ms H H' := fun b o _ e => s b o e
theorem Sx.hide {ms : List Addr} {H H' : Hp} (s : Sx ms H H') {ms' : List Addr} (h : ∀ a ∈ ms, a ∈ ms') : Same (Pb.hide H ms') (Pb.hide H' ms') := fun b o e => by
  obtain ⟨e1, e2⟩ := hide_of e
  rw [hide_at e2]
  exact s b o (fun z => e2 (h b z)) e1
theorem Sx.upd {ms : List Addr} {H : Hp} {m : Addr} {o : HO} (h : m ∈ ms) : Sx ms H (upd H m o) := fun b u hb e => by
  rw [L2.upd_ne fun z => hb (by rw [z]; exact h)]
  exact e
theorem Sx.mono {ms ms' : List Addr} {H H' : Hp} (s : Sx ms H H') (h : ∀ a ∈ ms, a ∈ ms') : Sx ms' H H' := fun b o hb e => s b o (fun z => hb (h b z)) e
/-! ### data -/
section
variable {K : PySem.W.Frag} {H H' : Hp}
theorem sqL_same {a : Addr} {xs : List V} (s : Same H H') (h : SqL K H a xs) : SqL K H' a xs := Same.seq s h
theorem sqT_same {a : Addr} {xs : List V} (s : Same H H') (h : SqT K H a xs) : SqT K H' a xs := by
  rcases h with (h | ⟨o, h⟩) | h
  · exact .inl (.inl (s _ _ h))
  · exact .inl (.inr ⟨o, s _ _ h⟩)
  · exact .inr h
mutual
theorem Dp.mono (s : Same H H') : ∀ {v : V} {d : PyData}, Dp K H v d → Dp K H' v d
  | _, _, .non => .non
  | _, _, .bl b => .bl b
  | _, _, .int i => .int i
  | _, _, .str x => .str x
  | _, _, .lst h a => .lst (sqL_same s h) (DpAll.mono s a)
  | _, _, .tup h a => .tup (sqT_same s h) (DpAll.mono s a)
theorem DpAll.mono (s : Same H H') : ∀ {vs : List V} {ds : List PyData}, DpAll K H vs ds → DpAll K H' vs ds
  | _, _, .nil => .nil
  | _, _, .cons h a => .cons (Dp.mono s h) (DpAll.mono s a)
end
theorem DpAll.length : ∀ {vs : List V} {ds : List PyData}, DpAll K H vs ds → vs.length = ds.length
  | _, _, .nil => rfl
  | _, _, .cons _ a => congrArg Nat.succ (DpAll.length a)
theorem DpAll.get : ∀ {vs : List V} {ds : List PyData} {i : Nat} {d : PyData}, DpAll K H vs ds → ds[i]? = some d → ∃ v, vs[i]? = some v ∧ Dp K H v d
  | _, _, _, _, .nil, e => by simp at e
  | _, _, 0, _, .cons h _, e => by simp at e; subst e; exact ⟨_, rfl, h⟩
  | _, _, i + 1, _, .cons _ a, e => by
    obtain ⟨v, h1, h2⟩ := DpAll.get (i := i) a (by simpa using e)
    exact ⟨v, by simpa using h1, h2⟩
theorem DpAll.at : ∀ {vs : List V} {ds : List PyData} {i : Nat} {v : V}, DpAll K H vs ds → vs[i]? = some v → ∃ d, ds[i]? = some d ∧ Dp K H v d
  | _, _, _, _, .nil, e => by simp at e
  | _, _, 0, _, .cons h _, e => by simp at e; subst e; exact ⟨_, rfl, h⟩
  | _, _, i + 1, _, .cons _ a, e => by
    obtain ⟨d, h1, h2⟩ := DpAll.at (i := i) a (by simpa using e)
    exact ⟨d, by simpa using h1, h2⟩
theorem DpAll.append : ∀ {vs ws : List V} {ds es : List PyData}, DpAll K H vs ds → DpAll K H ws es → DpAll K H (vs ++ ws) (ds ++ es)
  | _, _, _, _, .nil, b => b
  | _, _, _, _, .cons h a, b => .cons h (DpAll.append a b)
theorem DpAll.take : ∀ {vs : List V} {ds : List PyData} (n : Nat), DpAll K H vs ds → DpAll K H (vs.take n) (ds.take n)
  | _, _, 0, _ => .nil
  | _, _, _ + 1, .nil => .nil
  | _, _, n + 1, .cons h a => .cons h (DpAll.take n a)
theorem DpAll.drop : ∀ {vs : List V} {ds : List PyData} (n : Nat), DpAll K H vs ds → DpAll K H (vs.drop n) (ds.drop n)
  | _, _, 0, a => a
  | _, _, _ + 1, .nil => .nil
  | _, _, n + 1, .cons _ a => DpAll.drop n a
theorem DpAll.one {v : V} {d : PyData} (h : Dp K H v d) : DpAll K H [v] [d] := .cons h .nil
theorem DpAll.ints : ∀ (ns : List Int), DpAll K H (ns.map V.int) (ns.map PyData.int)
  | [] => .nil
  | n :: ns => .cons (.int n) (DpAll.ints ns)
theorem DpAll.ints_inv : ∀ {vs : List V} {ns : List Int}, DpAll K H vs (ns.map PyData.int) → vs = ns.map V.int
  | _, [], h => by cases h; rfl
  | _, n :: ns, h => by
    cases h with
    | cons h1 h2 =>
      cases h1
      rw [DpAll.ints_inv h2]; rfl
theorem DpAll.strs : ∀ (ns : List Str), DpAll K H (ns.map V.str) (ns.map PyData.str)
  | [] => .nil
  | n :: ns => .cons (.str n) (DpAll.strs ns)
theorem DpAll.strs_inv : ∀ {vs : List V} {ns : List Str}, DpAll K H vs (ns.map PyData.str) → vs = ns.map V.str
  | _, [], h => by cases h; rfl
  | _, n :: ns, h => by
    cases h with
    | cons h1 h2 =>
      cases h1
      rw [DpAll.strs_inv h2]; rfl
theorem DpAll.bls_inv : ∀ {vs : List V} {bs : List Bool}, DpAll K H vs (bs.map PyData.bool) → vs = bs.map V.bl
  | _, [], h => by cases h; rfl
  | _, n :: ns, h => by
    cases h with
    | cons h1 h2 =>
      cases h1
      rw [DpAll.bls_inv h2]; rfl
theorem dp_non {v : V} (h : Dp K H v .none) : v = .non := by cases h; rfl
theorem dp_bool {v : V} {b : Bool} (h : Dp K H v (.bool b)) : v = .bl b := by cases h; rfl
theorem dp_int {v : V} {i : Int} (h : Dp K H v (.int i)) : v = .int i := by cases h; rfl
theorem dp_str {v : V} {x : Str} (h : Dp K H v (.str x)) : v = .str x := by cases h; rfl
theorem dp_list {v : V} {ds : List PyData} (h : Dp K H v (.list ds)) : ∃ a xs, v = .ref a ∧ SqL K H a xs ∧ DpAll K H xs ds := by
  cases h with
  | lst h1 h2 => exact ⟨_, _, rfl, h1, h2⟩
theorem dp_tuple {v : V} {ds : List PyData} (h : Dp K H v (.tuple ds)) : ∃ a xs, v = .ref a ∧ SqT K H a xs ∧ DpAll K H xs ds := by
  cases h with
  | tup h1 h2 => exact ⟨_, _, rfl, h1, h2⟩
/-! ### isinstance -/
def tyD : PyData → String
  | .none => "NoneType"
  | .bool _ => "bool"
  | .int _ => "int"
  | .str _ => "str"
  | .list _ => "list"
  | .tuple _ => "tuple"
  | .dict _ => "dict"
theorem Dp.tyx {v : V} {d : PyData} (h : Dp K H v d) : TyX K H v (.type (tyD d)) := by
  cases h with
  | non => exact .base .non
  | bl b => exact .base (.bl b)
  | int i => exact .base (.int i)
  | str x => exact .base (.str x)
  | lst h _ =>
    rcases h with (h | ⟨o, h⟩) | ⟨o, its, n, e, c, _⟩
    · exact .base (.lst h)
    · exact .base (.frz h)
    · exact .kList e c
  | tup h _ =>
    rcases h with (h | ⟨o, h⟩) | ⟨o, its, n, e, c, _⟩
    · exact .base (.tup h)
    · exact .fTuple h
    · exact .kTuple e c
def isInt : PyData → Bool
  | .int _ => true
  | .bool _ => true
  | _ => false
def isBool : PyData → Bool
  | .bool _ => true
  | _ => false
def isStr : PyData → Bool
  | .str _ => true
  | _ => false
def isList : PyData → Bool
  | .list _ => true
  | _ => false
def isTuple : PyData → Bool
  | .tuple _ => true
  | _ => false
theorem kit_int (d : PyData) : kitB (tyD d) "int" = some (isInt d) := by cases d <;> kernel_rfl
theorem kit_bool (d : PyData) : kitB (tyD d) "bool" = some (isBool d) := by cases d <;> kernel_rfl
theorem kit_str (d : PyData) : kitB (tyD d) "str" = some (isStr d) := by cases d <;> kernel_rfl
theorem kit_list (d : PyData) : kitB (tyD d) "list" = some (isList d) := by cases d <;> kernel_rfl
theorem kit_tuple (d : PyData) : kitB (tyD d) "tuple" = some (isTuple d) := by cases d <;> kernel_rfl
theorem a_isi {v : V} {d : PyData} {T : String} {b : Bool} {Q : VK} (h : Dp K H v d) (e : kitB (tyD d) T = some b) (q : Q (.bl b) H) : rIsi K [v, .ty T] H Q := ⟨v, .ty T, _, _, b, rfl, .ty T, Dp.tyx h, kit_ty e, q⟩
end
/-! ### defs -/
section
variable {P : Program} {w : World} {K : PySem.W.Frag} {mg : Str → Option Value} {base : Heap}
abbrev FnD (K : PySem.W.Frag) (x qual : Str) (st : Stmt) (dvs : List V) (kws : List (Str × V)) (f : Addr) : Prop := ∃ fd, FunD K x qual (L2.defArgs st) (L2.defBody st) (L2.defScope st) dvs kws f fd
/-- a def without defaults, by its body -/
theorem cal_of {x : Str} {st : Stmt} {f : Addr} {N ps : List Str} {k : Nat} {sp : Sp} (D : FnD K x x st [] [] f) (g : mg x = some (.ref f)) (S : FnScope N ps (L2.defScope st))
    (hb : ∀ (kV doc pm : Value) (an : Option Addr) (cdv ct : Value) (us : List Value), us.length = ps.length → bindArgs (PySem.W.fnOf x x (L2.defArgs st) (L2.defBody st) (L2.defScope st) .none kV doc pm an cdv ct) ⟨us, []⟩ = pure (ps.zip us))
    (len : ∀ vs H Q E, sp vs H Q E → vs.length = ps.length)
    (hbody : ∀ (cdv : Value) (A : Around) (outer : List Env) (s : Shared) (H : Hp) (vs : List V) (Q : VK) (E : XK), Room k (A.deeper (envOfC x (L2.defScope st) s.heap.objs.size f cdv)) → sp vs H Q E →
      ∃ t, PSs (cxOf CX0 P w K mg base N x (L2.defScope st) f cdv A outer s H E).nox (L2.defBody st) t ∧ t { nx := fun _ H' => Q .non H', rt := Q } (start N vs) H) : Cal P w K mg base (k + 1) x sp [] := by
  obtain ⟨fd, F⟩ := D
  refine ⟨f, fd, ps, [], F.ok S len fun cdv A outer s H vs Q E hr h => ?_, g, F.kp, F.bindsN hb, .nil⟩
  obtain ⟨t, h1, h2⟩ := hbody cdv A outer s H vs Q E hr h
  exact ⟨t, h1.nox, h2⟩
theorem met_of {x qual : Str} {C : Addr} {st : Stmt} {f : Addr} {N ps : List Str} {k : Nat} {sp : Sp} (c : Cls K C) (me : Meth K C x f) (D : FnD K x qual st [] [] f) (S : FnScope N ps (L2.defScope st))
    (hb : ∀ (kV doc pm : Value) (an : Option Addr) (cdv ct : Value) (us : List Value), us.length = ps.length → bindArgs (PySem.W.fnOf x qual (L2.defArgs st) (L2.defBody st) (L2.defScope st) .none kV doc pm an cdv ct) ⟨us, []⟩ = pure (ps.zip us))
    (len : ∀ vs H Q E, sp vs H Q E → vs.length = ps.length)
    (hbody : ∀ (cdv : Value) (A : Around) (outer : List Env) (s : Shared) (H : Hp) (vs : List V) (Q : VK) (E : XK), Room k (A.deeper (envOfC qual (L2.defScope st) s.heap.objs.size f cdv)) → sp vs H Q E →
      ∃ t, PSs (cxOf CX0 P w K mg base N qual (L2.defScope st) f cdv A outer s H E).nox (L2.defBody st) t ∧ t { nx := fun _ H' => Q .non H', rt := Q } (start N vs) H) : Met P w K mg base (k + 1) C x sp [] := by
  obtain ⟨fd, F⟩ := D
  refine ⟨f, fd, ps, [], c, me, F.ok S len fun cdv A outer s H vs Q E hr h => ?_, F.bindsN hb, .nil⟩
  obtain ⟨t, h1, h2⟩ := hbody cdv A outer s H vs Q E hr h
  exact ⟨t, h1.nox, h2⟩
theorem mak_of {x qual : Str} {C : Addr} {st : Stmt} {f : Addr} {N ps : List Str} {k : Nat} {sp : Sp} (M : Mk K C f) (g : mg x = some (.ref C)) (D : FnD K "__init__" qual st [] [] f) (S : FnScope N ps (L2.defScope st))
    (hb : ∀ (kV doc pm : Value) (an : Option Addr) (cdv ct : Value) (us : List Value), us.length = ps.length → bindArgs (PySem.W.fnOf "__init__" qual (L2.defArgs st) (L2.defBody st) (L2.defScope st) .none kV doc pm an cdv ct) ⟨us, []⟩ = pure (ps.zip us))
    (len : ∀ vs H Q E, sp vs H Q E → vs.length = ps.length)
    (hbody : ∀ (cdv : Value) (A : Around) (outer : List Env) (s : Shared) (H : Hp) (vs : List V) (Q : VK) (E : XK), Room k (A.deeper (envOfC qual (L2.defScope st) s.heap.objs.size f cdv)) → sp vs H Q E →
      ∃ t, PSs (cxOf CX0 P w K mg base N qual (L2.defScope st) f cdv A outer s H E).nox (L2.defBody st) t ∧ t { nx := fun _ H' => Q .non H', rt := Q } (start N vs) H) : Mak P w K mg base (k + 1) x C sp [] := by
  obtain ⟨fd, F⟩ := D
  refine ⟨f, fd, ps, [], M, F.ok S len fun cdv A outer s H vs Q E hr h => ?_, g, F.bindsN hb, .nil⟩
  obtain ⟨t, h1, h2⟩ := hbody cdv A outer s H vs Q E hr h
  exact ⟨t, h1.nox, h2⟩
/-- a promise over data: it changes nothing that stood; its answer is a plain value -/
def spS (K : PySem.W.Frag) (n : Nat) (F : List PyData → Option V) : Sp := fun vs H Q _ => ∃ ms ds r, Tk H ms ∧ DpAll K (hide H ms) vs ds ∧ ds.length = n ∧ F ds = some r ∧ ∀ H', Same H H' → Q r H'
/-- .. its answer is data -/
def spD (K : PySem.W.Frag) (n : Nat) (F : List PyData → Option PyData) : Sp := fun vs H Q _ => ∃ ms ds d, Tk H ms ∧ DpAll K (hide H ms) vs ds ∧ ds.length = n ∧ F ds = some d ∧ ∀ H' r, Same H H' → Dp K (hide H' ms) r d → Q r H'
theorem spS_len {n : Nat} {F : List PyData → Option V} (vs : List V) (H : Hp) (Q : VK) (E : XK) (h : spS K n F vs H Q E) : vs.length = n := by
  obtain ⟨ms, ds, r, _, h, e, _⟩ := h
  rw [DpAll.length h, e]
theorem spD_len {n : Nat} {F : List PyData → Option PyData} (vs : List V) (H : Hp) (Q : VK) (E : XK) (h : spD K n F vs H Q E) : vs.length = n := by
  obtain ⟨ms, ds, r, _, h, e, _⟩ := h
  rw [DpAll.length h, e]
end
/-! ### readings made monotone -/
section
variable {X : Cx}
def tM (t : TE) : TE := fun σ H Q => ∃ Q' : VK, t σ H Q' ∧ ∀ v H', Q' v H' → Q v H'
def tMT (t : TT) : TT := fun σ H Q => ∃ Q' : Bool → Hp → Prop, t σ H Q' ∧ ∀ v H', Q' v H' → Q v H'
def gM (g : TG) : TG := fun v σ H Q => ∃ Q' : L2.St → Hp → Prop, g v σ H Q' ∧ ∀ σ' H', Q' σ' H' → Q σ' H'
theorem pe_m {e : Expr} {t : TE} (h : PE X e t) : PE X e (tM t) := ⟨fun pins s σ H Q I hw => by
  obtain ⟨Q', h1, m⟩ := hw
  exact thn (h.run pins s σ H Q' I h1) fun u s' ⟨v, H', I', r, q⟩ => ⟨v, H', I', r, m _ _ q⟩⟩
theorem pt_m {e : Expr} {t : TT} (h : PT X e t) : PT X e (tMT t) := ⟨fun pins s σ H Q I hw => by
  obtain ⟨Q', h1, m⟩ := hw
  exact thn (h.run pins s σ H Q' I h1) fun u s' ⟨H', I', q⟩ => ⟨H', I', m _ _ q⟩⟩
theorem pg_m {e : Expr} {t : TG} (h : PG X e t) : PG X e (gM t) := ⟨fun pins s σ H v u Q I r hw => by
  obtain ⟨Q', h1, m⟩ := hw
  exact thn (h.run pins s σ H v u Q' I r h1) fun _ s' ⟨σ', H', I', q⟩ => ⟨σ', H', I', m _ _ q⟩⟩
def tYesM : TT := tMT tYes
theorem pts_nilM : PTs X [] (tMT tYes) := ⟨fun pins s σ H Q I hw => by
  obtain ⟨Q', h1, m⟩ := hw
  exact wpAny_tests_nil ⟨H, I, m _ _ h1⟩⟩
end
/-- what a comprehension asks once its source is known -/
def LcGoal (g : TG) (tt : TT) (te : TE) (vs : List Nat) (σ : L2.St) (J : It) (H1 : Hp) (D : Addr) (Qd : Hp → Prop) : Prop :=
    ∃ W : Nat → Nat → Hp → Prop, (∃ m, W 0 m (upd H1 D (.lst []))) ∧ ∀ i m H, W i m H →
      (J.stop i H ∧ Qd H) ∨ (J.go i H ∧ ∃ Nx : Hp → Prop, (∀ H', Nx H' → ∃ m', m' < m ∧ W (i + 1) m' H') ∧ ∀ x H', J.yld i H x H' → gM g x (wipe σ vs) H' fun σ2 H2 => wipe σ2 vs = wipe σ vs ∧ tMT tt σ2 H2 fun b H3 =>
        if b = true then tM te σ2 H3 fun y H4 => ∃ acc, H4 D = some (.lst acc) ∧ acc.length < sizeLine ∧ Nx (upd H4 D (.lst (acc ++ [y]))) else Nx H3)
theorem a_lc {wi : TI} {g : TG} {tt : TT} {te : TE} {vs : List Nat} {σ : L2.St} {H : Hp} {Q : VK} (h : wi σ H fun J H1 => ∀ D, H1 D = none → LcGoal g tt te vs σ J H1 D fun H' => Q (.ref D) H') : tLc wi (gM g) (tMT tt) (tM te) vs σ H Q := h
/-- a comprehension whose turns change nothing: p which turns are kept, e what they give -/
theorem lc_pure {K : PySem.W.Frag} {J : It} {n : Nat} {G : Hp → Prop} {Y : Nat → Hp → V → Hp → Prop} (w : Walk J n G Y) {g : TG} {tt : TT} {te : TE} {vs : List Nat} {σ : L2.St} {H1 : Hp} {D : Addr} {Qd : Hp → Prop} {ms : List Addr}
    (hD : H1 D = none) (tk : Tk H1 ms) (hn : n < sizeLine) (hG : ∀ H, Same H1 H → G H) (p : Nat → Bool) (e : Nat → PyData)
    (step : ∀ i x H H', i < n → Same H1 H → H D ≠ none → Y i H x H' → g x (wipe σ vs) H' fun σ2 H2 => wipe σ2 vs = wipe σ vs ∧ tt σ2 H2 fun b H3 => b = p i ∧ (b = false → Same H H3) ∧ (b = true → te σ2 H3 fun y H4 => Same H H4 ∧ Dp K (hide H4 (D :: ms)) y (e i)))
    (done : ∀ H' ys, Same H1 H' → H' D = some (.lst ys) → DpAll K (hide H' (D :: ms)) ys (((List.range n).filter p).map e) → Qd H') :
    LcGoal g tt te vs σ J H1 D Qd := by
  refine lc_it w (fun i H => Same H1 H ∧ ∃ acc, H D = some (.lst acc) ∧ acc.length ≤ i ∧ DpAll K (hide H (D :: ms)) acc (((List.range i).filter p).map e)) ⟨same_new hD, [], upd_same, Nat.le_refl _, .nil⟩ (fun i H _ q => hG H q.1) ?_ ?_
  · rintro i x H H' hi ⟨s1, acc, hL, hl, ha⟩ y
    refine ⟨_, step i x H H' hi s1 (by rw [hL]; exact fun z => nomatch z) y, fun σ2 H2 q => ⟨q.1, _, q.2, fun b H3 q => ?_⟩⟩
    obtain ⟨e1, q0, q⟩ := q
    cases b with
    | true =>
      refine iteT ⟨_, q rfl, fun v H4 r => ?_⟩
      obtain ⟨s4, hv⟩ := r
      have h4 : H4 D = some (.lst acc) := s4 _ _ hL
      refine ⟨acc, h4, by omega, (fun b o z => by rw [upd_ne (ne_of_none z hD)]; exact s4 _ _ (s1 _ _ z)), _, upd_same, by rw [List.length_append, List.length_singleton]; omega, ?_⟩
      · rw [hide_upd (List.mem_cons_self ..), List.range_succ, List.filter_append, List.map_append]
        refine DpAll.append (DpAll.mono (Same.hide s4 _) ha) ?_
        rw [List.filter_cons, if_pos e1.symm]
        exact .cons hv .nil
    | false =>
      refine iteF ⟨s1.trans (q0 rfl), acc, q0 rfl _ _ hL, by omega, ?_⟩
      rw [List.range_succ, List.filter_append, List.map_append, List.filter_cons, if_neg (by rw [← e1]; exact Bool.false_ne_true)]
      rw [List.filter_nil, List.map_nil, List.append_nil]
      exact DpAll.mono (Same.hide (q0 rfl) _) ha
  · rintro H ⟨s1, acc, hL, _, ha⟩
    exact done H acc s1 hL ha
theorem cxK {CX : CXT} {P : Program} {w : World} {K : PySem.W.Frag} {mg : Str → Option Value} {base : Heap} {N : List Str} {q : Str} {sc : Scope} {f : Addr} {cd : Value} {A : Around} {outer : List Env} {s : Shared} {H : Hp} {E : XK} : (cxOf CX P w K mg base N q sc f cd A outer s H E).K = K := rfl
/-! ### answers: what a reading asks, by data -/
section
variable {X : Cx} {K : PySem.W.Frag} {H : Hp} {Q : VK} {v x y : V}
theorem atI_len {α β : Type} {xs : List α} {ys : List β} (h : xs.length = ys.length) {i : Int} {b : β} (e : atI ys i = some b) : ∃ j, ixN ys.length i = some j ∧ ys[j]? = some b ∧ atI xs i = xs[j]? := by
  unfold atI at e ⊢
  rw [h]
  cases q : ixN ys.length i with
  | none => rw [q] at e; cases e
  | some j => rw [q] at e; exact ⟨j, rfl, e, rfl⟩
theorem a_ixT {ds : List PyData} {i : Int} {d : PyData} (h : Dp K H v (.tuple ds)) (e : atI ds i = some d) (q : ∀ u, Dp K H u d → Q u H) : rIx K v (.int i) H Q := by
  obtain ⟨a, xs, rfl, hs, ha⟩ := dp_tuple h
  obtain ⟨j, _, e2, e3⟩ := atI_len (DpAll.length ha) e
  obtain ⟨u, e4, hu⟩ := DpAll.get ha e2
  exact .inr (.inl ⟨a, xs, i, u, rfl, rfl, hs, e3.trans e4, q u hu⟩)
theorem a_ixL {ds : List PyData} {i : Int} {d : PyData} (h : Dp K H v (.list ds)) (e : atI ds i = some d) (q : ∀ u, Dp K H u d → Q u H) : rIx K v (.int i) H Q := by
  obtain ⟨a, xs, rfl, hs, ha⟩ := dp_list h
  obtain ⟨j, _, e2, e3⟩ := atI_len (DpAll.length ha) e
  obtain ⟨u, e4, hu⟩ := DpAll.get ha e2
  exact .inl ⟨a, xs, i, u, rfl, rfl, hs, e3.trans e4, q u hu⟩
/-- len of a list or a tuple; of a text -/
def rLenQ (K : PySem.W.Frag) : List V → Hp → VK → Prop := fun xs H Q => ∃ p ys, xs = [.ref p] ∧ (SqL K H p ys ∨ SqT K H p ys) ∧ Q (.int ys.length) H
theorem call_lenQ : CallR X (.builtin "len") (rLenQ X.K) := call_len_seq
theorem a_lenL {ds : List PyData} (h : Dp K H v (.list ds)) (q : Q (.int ds.length) H) : rLenQ K [v] H Q := by
  obtain ⟨a, xs, rfl, hs, ha⟩ := dp_list h
  exact ⟨a, xs, rfl, .inl hs, by rw [DpAll.length ha]; exact q⟩
theorem a_lenT {ds : List PyData} (h : Dp K H v (.tuple ds)) (q : Q (.int ds.length) H) : rLenQ K [v] H Q := by
  obtain ⟨a, xs, rfl, hs, ha⟩ := dp_tuple h
  exact ⟨a, xs, rfl, .inr hs, by rw [DpAll.length ha]; exact q⟩
def rLenS : List V → Hp → VK → Prop := fun xs H Q => ∃ z : Str, xs = [.str z] ∧ z.length ≤ sizeLine ∧ Q (.int z.length) H
theorem call_lenS : CallR X (.builtin "len") rLenS := call_len_str
def rMin2 : List V → Hp → VK → Prop := fun xs H Q => ∃ i j, xs = [.int i, .int j] ∧ Q (.int (min i j)) H
def rMax2 : List V → Hp → VK → Prop := fun xs H Q => ∃ i j, xs = [.int i, .int j] ∧ Q (.int (max i j)) H
theorem call_min2' (hc : X.calm = true) : CallR X (.builtin "min") rMin2 := fun pins s σ H xs us Q I r h => by
  obtain ⟨i, j, e, q⟩ := h
  refine call_min2 hc pins s σ H xs us Q I r ⟨i, j, e, ?_⟩
  have e2 : (if j < i then j else i) = min i j := by split <;> omega
  rw [e2]; exact q
theorem call_max2' (hc : X.calm = true) : CallR X (.builtin "max") rMax2 := fun pins s σ H xs us Q I r h => by
  obtain ⟨i, j, e, q⟩ := h
  refine call_max2 hc pins s σ H xs us Q I r ⟨i, j, e, ?_⟩
  have e2 : (if j > i then j else i) = max i j := by split <;> omega
  rw [e2]; exact q
def rListOf (K : PySem.W.Frag) : List V → Hp → VK → Prop := fun xs H Q => ∃ p ys, xs = [.ref p] ∧ (SqL K H p ys ∨ SqT K H p ys) ∧ ∀ l, H l = none → Q (.ref l) (upd H l (.lst ys))
theorem call_listOf : CallR X (.type "list") (rListOf X.K) := call_list_of
def rTupOf (K : PySem.W.Frag) : List V → Hp → VK → Prop := fun xs H Q => ∃ p ys, xs = [.ref p] ∧ ((SqL K H p ys ∧ ∀ l, H l = none → Q (.ref l) (upd H l (.tup ys))) ∨ (SqT K H p ys ∧ Q (.ref p) H))
theorem call_tupOf : CallR X (.type "tuple") (rTupOf X.K) := call_tuple_of
def rAbs : List V → Hp → VK → Prop := fun xs H Q => ∃ i, xs = [.int i] ∧ Q (.int i.natAbs) H
theorem call_absI : CallR X (.builtin "abs") rAbs := fun pins s σ H xs us Q I r h => by
  obtain ⟨i, e, q⟩ := h
  refine call_abs pins s σ H xs us Q I r ⟨i, e, ?_⟩
  have e2 : (if i < 0 then -i else i) = (i.natAbs : Int) := by split <;> omega
  rw [e2]; exact q
theorem inV_strs {w : Str} : ∀ {ws : List Str}, inV (.str w) (ws.map V.str) = decide (w ∈ ws)
  | [] => by simp [inV]
  | x :: ws => by
    have ih := inV_strs (w := w) (ws := ws)
    unfold inV at ih ⊢
    rw [List.map_cons, List.any_cons, ih]
    have e : eqV (.str x) (.str w) = decide (x = w) := by
      unfold eqV
      first
        | rfl
        | (by_cases q : x = w <;> simp [q])
    rw [e]
    by_cases q : x = w
    · simp [q]
    · simp [q, Ne.symm q, fun z : w = x => q z.symm]
theorem flat_strs : ∀ ws : List Str, (ws.map V.str).all flatV = true
  | [] => rfl
  | w :: ws => by rw [List.map_cons, List.all_cons, flat_strs ws]; rfl
theorem a_in_strs {neg : Bool} {w : Str} {ws : List Str} {a : Addr} (h : SqL K H a (ws.map V.str) ∨ SqT K H a (ws.map V.str)) (q : Q (.bl (if neg then !decide (w ∈ ws) else decide (w ∈ ws))) H) : rIn K neg (.str w) (.ref a) H Q :=
  ⟨a, _, rfl, h, rfl, flat_strs ws, by rw [inV_strs]; exact q⟩
theorem a_eqD {d e : PyData} (h1 : Dp K H x d) (h2 : Dp K H y e) (s1 : SeqAt.shaped d = true) (s2 : SeqAt.shaped e = true) (q : Q (.bl (PyData.eqv d e)) H) : rEqD K x y H Q := ⟨d, e, h1, h2, s1, s2, q⟩
theorem a_neD {d e : PyData} (h1 : Dp K H x d) (h2 : Dp K H y e) (s1 : SeqAt.shaped d = true) (s2 : SeqAt.shaped e = true) (q : Q (.bl (!PyData.eqv d e)) H) : rNeD K x y H Q := ⟨d, e, h1, h2, s1, s2, q⟩
theorem a_all {bs : List Bool} (h : Dp K H v (.list (bs.map PyData.bool))) (q : Q (.bl (bs.all id)) H) : rAll K [v] H Q := by
  obtain ⟨a, xs, rfl, hs, ha⟩ := dp_list h
  rw [DpAll.bls_inv ha] at hs
  exact ⟨a, bs, rfl, hs, q⟩
theorem a_sum {ns : List Int} (h : Dp K H v (.list (ns.map PyData.int))) (q : Q (.int ns.sum) H) : rSum K [v] H Q := by
  obtain ⟨a, xs, rfl, hs, ha⟩ := dp_list h
  rw [DpAll.ints_inv ha] at hs
  exact ⟨a, ns, rfl, hs, q⟩
end
theorem range_getD {α : Type} (d : α) (l : List α) : (List.range l.length).map (fun i => l.getD i d) = l := by
  apply List.ext_getElem
  · rw [List.length_map, List.length_range]
  · intro i h1 h2
    rw [List.getElem_map, List.getElem_range, List.getD_eq_getElem?_getD, List.getElem?_eq_getElem h2]
    rfl
theorem range_fm {α β : Type} (d : α) (p : α → Bool) (g : α → β) (l : List α) : ((List.range l.length).filter (fun i => p (l.getD i d))).map (fun i => g (l.getD i d)) = (l.filter p).map g := by
  have e := range_getD d l
  have e2 : (l.filter p).map g = (((List.range l.length).map (fun i => l.getD i d)).filter p).map g := by rw [e]
  rw [e2, List.filter_map, List.map_map]
  rfl
theorem range_m {α β : Type} (d : α) (g : α → β) (l : List α) : ((List.range l.length).filter (fun _ => true)).map (fun i => g (l.getD i d)) = l.map g := by
  have e := range_fm d (fun _ => true) g l
  rw [e, List.filter_eq_self.mpr fun _ _ => rfl]
theorem atI_0 {α : Type} {x : α} {xs : List α} : atI (x :: xs) 0 = some x := by
  unfold atI ixN
  rw [if_pos (by omega), if_pos (by rw [List.length_cons]; omega)]
  rfl
theorem atI_1 {α : Type} {x y : α} {xs : List α} : atI (x :: y :: xs) 1 = some y := by
  unfold atI ixN
  rw [if_pos (by omega), if_pos (by rw [List.length_cons, List.length_cons]; omega)]
  rfl
/-- a comprehension over data -/
theorem lc_data {K : PySem.W.Frag} {J : It} {xs : List V} {ds : List PyData} {G : Hp → Prop} (w : Walk J xs.length G (YAt xs)) {g : TG} {tt : TT} {te : TE} {vs : List Nat} {σ : L2.St} {H1 : Hp} {D : Addr} {Qd : Hp → Prop} {ms : List Addr}
    (hD : H1 D = none) (tk : Tk H1 ms) (hn : ds.length < sizeLine) (ha : DpAll K (hide H1 ms) xs ds) (hG : ∀ H, Same H1 H → G H) (p : PyData → Bool) (f : PyData → PyData)
    (step : ∀ x d H, d ∈ ds → Same H1 H → H D ≠ none → Dp K (hide H (D :: ms)) x d → g x (wipe σ vs) H fun σ2 H2 => wipe σ2 vs = wipe σ vs ∧ tt σ2 H2 fun b H3 => b = p d ∧ (b = false → Same H H3) ∧ (b = true → te σ2 H3 fun y H4 => Same H H4 ∧ Dp K (hide H4 (D :: ms)) y (f d)))
    (done : ∀ H' ys, Same H1 H' → H' D = some (.lst ys) → DpAll K (hide H' (D :: ms)) ys ((ds.filter p).map f) → Qd H') :
    LcGoal g tt te vs σ J H1 D Qd := by
  have hl := DpAll.length ha
  refine lc_pure (K := K) w hD tk (by rw [hl]; exact hn) hG (fun i => p (ds.getD i .none)) (fun i => f (ds.getD i .none)) (fun i x H H' hi s1 hD2 y => ?_) (fun H' ys s1 e1 e2 => ?_)
  · obtain ⟨rfl, ex⟩ := y
    obtain ⟨d, ed, hd⟩ := DpAll.at ha ex
    have e3 : ds.getD i .none = d := by rw [List.getD_eq_getElem?_getD, ed]; rfl
    rw [e3]
    refine step x d _ (List.mem_of_getElem? ed) s1 hD2 (Dp.mono (fun b o e => ?_) hd)
    obtain ⟨q1, q2⟩ := hide_of e
    rw [hide_at (fun z => (List.mem_cons.mp z).elim (fun k => by rw [k, hD] at q1; cases q1) q2)]
    exact s1 _ _ q1
  · rw [hl, range_fm] at e2
    exact done H' ys s1 e1 e2
/-! ### a dict of the module, read at a text -/
def tKGet (K : PySem.W.Frag) (d : Addr) (td ty : TE) : TE := fun σ H Q => td σ H fun x H1 => ty σ H1 fun y H2 => ∃ (z : Str) (u0 : Value) (v0 : V), x = .ref d ∧ y = .str z ∧ PySem.W.nsIn K d z = some (some u0) ∧ RelV v0 u0 ∧ Q v0 H2
theorem pe_kdget {X : Cx} {d : Addr} {o i : Expr} {pos : Pos} {td ty : TE} (D : ∃ es n, KDict X.K X.w d es n) (ho : PE X o td) (hi : PE X i ty) (hs : NoSl i) : PE X (.Subscript o i pos) (tKGet X.K d td ty) := by
  obtain ⟨es, n, D⟩ := D
  refine ⟨fun pins s σ H Q I h => subD_of PySem.F.slot_dict_getitem.lookup hs (thn (ho.run pins s σ H _ I h) fun u s1 h1 => ?_)⟩
  obtain ⟨x, H1, I1, rx, q1⟩ := h1
  refine thn (hi.run pins s1 σ H1 _ I1 q1) fun iv s2 h2 => ?_
  obtain ⟨y, H2, I2, ry, q2⟩ := h2
  have q3 := q2
  obtain ⟨z, u0, v0, rfl, rfl, _⟩ := q3
  obtain rfl : u = Value.ref d := rx
  exact ⟨kd_type D I2, op_item_kd D _ _ _ _ (.ref d) _ _ _ _ I2 (show L2.RelV (.ref d) (.ref d) from rfl) ry q2⟩
theorem scal_ii {i j : Int} : L2.scal (.int i) (.int j) = true := rfl
theorem scal_ss {i j : Str} : L2.scal (.str i) (.str j) = true := rfl
theorem scal_bb {i j : Bool} : L2.scal (.bl i) (.bl j) = true := rfl
theorem scal_nn : L2.scal .non .non = true := rfl
theorem scal_ni {i : Int} : L2.scal .non (.int i) = true := rfl
theorem scal_in {i : Int} : L2.scal (.int i) .non = true := rfl
theorem scal_ns {i : Str} : L2.scal .non (.str i) = true := rfl
theorem scal_sn {i : Str} : L2.scal (.str i) .non = true := rfl
theorem scal_is {i : Int} {j : Str} : L2.scal (.int i) (.str j) = true := rfl
theorem scal_si {i : Int} {j : Str} : L2.scal (.str j) (.int i) = true := rfl
theorem cxP {CX : CXT} {P : Program} {w : World} {K : PySem.W.Frag} {mg : Str → Option Value} {base : Heap} {N : List Str} {q : Str} {sc : Scope} {f : Addr} {cd : Value} {A : Around} {outer : List Env} {s : Shared} {H : Hp} {E : XK} : (cxOf CX P w K mg base N q sc f cd A outer s H E).prog = P := rfl
theorem cxW {CX : CXT} {P : Program} {w : World} {K : PySem.W.Frag} {mg : Str → Option Value} {base : Heap} {N : List Str} {q : Str} {sc : Scope} {f : Addr} {cd : Value} {A : Around} {outer : List Env} {s : Shared} {H : Hp} {E : XK} : (cxOf CX P w K mg base N q sc f cd A outer s H E).w = w := rfl
/-- what a for asks once its source is known -/
def ForGoal (g : TG) (tb : TS) (D : Ends) (J : It) (σ : L2.St) (H : Hp) : Prop :=
  ∃ W : Nat → Nat → L2.St → Hp → Prop, (∃ m, W 0 m σ H) ∧ ∀ i m σ H, W i m σ H →
    (J.stop i H ∧ D.nx σ H) ∨ (J.go i H ∧ ∃ N : L2.St → Hp → Prop, (∀ σ' H', N σ' H' → ∃ m', m' < m ∧ W (i + 1) m' σ' H') ∧ ∀ x H', J.yld i H x H' → g x σ H' fun σ2 H2 => tb { D with nx := N, ct := N, bk := D.nx } σ2 H2)
theorem a_for {wi : TI} {g : TG} {tb : TS} {D : Ends} {σ : L2.St} {H : Hp} (h : wi σ H fun J H1 => ForGoal g tb D J σ H1) : tFor wi g tb D σ H := h
theorem for_go {J : It} {n : Nat} {G : Hp → Prop} {Y : Nat → Hp → V → Hp → Prop} (w : Walk J n G Y) {g : TG} {tb : TS} {D : Ends} {σ : L2.St} {H : Hp} (Pv : Nat → L2.St → Hp → Prop) (h0 : Pv 0 σ H) (hG : ∀ i σ H, i ≤ n → Pv i σ H → G H)
    (hs : ∀ i x σ H H', i < n → Pv i σ H → Y i H x H' → g x σ H' fun σ2 H2 => tb { D with nx := Pv (i + 1), ct := Pv (i + 1), bk := D.nx } σ2 H2) (hd : ∀ σ H, Pv n σ H → D.nx σ H) : ForGoal g tb D J σ H := for_it w Pv h0 hG hs hd
/-- the same, what holds at a turn's end kept from the simplifier's eyes: yes says when it does -/
theorem for_go2 {J : It} {n : Nat} {G : Hp → Prop} {Y : Nat → Hp → V → Hp → Prop} (w : Walk J n G Y) {g : TG} {tb : TS} {D : Ends} {σ : L2.St} {H : Hp} (Pv : Nat → L2.St → Hp → Prop) (h0 : Pv 0 σ H) (hG : ∀ i σ H, i ≤ n → Pv i σ H → G H)
    (hs : ∀ Pw : Nat → L2.St → Hp → Prop, (∀ i σ H, Pv i σ H → Pw i σ H) → ∀ i x σ H H', i < n → Pv i σ H → Y i H x H' → g x σ H' fun σ2 H2 => tb { D with nx := Pw (i + 1), ct := Pw (i + 1), bk := D.nx } σ2 H2) (hd : ∀ σ H, Pv n σ H → D.nx σ H) : ForGoal g tb D J σ H :=
  for_go w Pv h0 hG (fun i x σ H H' hi p y => hs Pv (fun _ _ _ q => q) i x σ H H' hi p y) hd
/-- what a while asks -/
def WhileGoal (c : TT) (tb : TS) (D : Ends) (σ : L2.St) (H : Hp) : Prop := tWhile c tb D σ H
/-! ### the same rules, the written part named -/
theorem pe_fldK {X : Cx} {K : PySem.W.Frag} {e : Expr} {f : Str} {pos : Pos} {ta : TE} (ha : PE X e ta) (hb : attributeBase e f X.env (eval e X.env) = eval e X.env) (hK : X.K = K := by rfl) : PE X (.Attribute e f pos) (tFld K ta f) := by
  subst hK; exact pe_fld ha hb
/-- a tuple taken apart -/
def gT (K : PySem.W.Frag) (n : Nat) (t : TGs) : TG := gTup K n t
section
variable {K : PySem.W.Frag} {H : Hp} {σ : L2.St} {Q : L2.St → Hp → Prop} {y : V} {i j k l : Nat}
theorem a_t2V {p : Addr} {u v : V} (h : SqT K H p [u, v]) (q : Q ((σ.set i (some u)).set j (some v)) H) : gT K 2 (gCons (gName i) (gCons (gName j) gNil)) (.ref p) σ H Q :=
  ⟨p, _, rfl, h, rfl, _, _, rfl, _, _, rfl, rfl, q⟩
theorem a_t3V {p : Addr} {u v x : V} (h : SqT K H p [u, v, x]) (q : Q (((σ.set i (some u)).set j (some v)).set k (some x)) H) : gT K 3 (gCons (gName i) (gCons (gName j) (gCons (gName k) gNil))) (.ref p) σ H Q :=
  ⟨p, _, rfl, h, rfl, _, _, rfl, _, _, rfl, _, _, rfl, rfl, q⟩
theorem a_t4V {p : Addr} {u v x z : V} (h : SqT K H p [u, v, x, z]) (q : Q ((((σ.set i (some u)).set j (some v)).set k (some x)).set l (some z)) H) : gT K 4 (gCons (gName i) (gCons (gName j) (gCons (gName k) (gCons (gName l) gNil)))) (.ref p) σ H Q :=
  ⟨p, _, rfl, h, rfl, _, _, rfl, _, _, rfl, _, _, rfl, _, _, rfl, rfl, q⟩
theorem dp_t2 {a b : PyData} (h : Dp K H y (.tuple [a, b])) : ∃ p u v, y = .ref p ∧ SqT K H p [u, v] ∧ Dp K H u a ∧ Dp K H v b := by
  obtain ⟨p, ys, rfl, hys, hya⟩ := dp_tuple h
  cases hya with
  | cons h1 hya =>
    cases hya with
    | cons h2 hya =>
      cases hya
      exact ⟨p, _, _, rfl, hys, h1, h2⟩
theorem dp_t3 {a b c : PyData} (h : Dp K H y (.tuple [a, b, c])) : ∃ p u v x, y = .ref p ∧ SqT K H p [u, v, x] ∧ Dp K H u a ∧ Dp K H v b ∧ Dp K H x c := by
  obtain ⟨p, ys, rfl, hys, hya⟩ := dp_tuple h
  cases hya with
  | cons h1 hya =>
    cases hya with
    | cons h2 hya =>
      cases hya with
      | cons h3 hya =>
        cases hya
        exact ⟨p, _, _, _, rfl, hys, h1, h2, h3⟩
theorem dp_t4 {a b c d : PyData} (h : Dp K H y (.tuple [a, b, c, d])) : ∃ p u v x z, y = .ref p ∧ SqT K H p [u, v, x, z] ∧ Dp K H u a ∧ Dp K H v b ∧ Dp K H x c ∧ Dp K H z d := by
  obtain ⟨p, ys, rfl, hys, hya⟩ := dp_tuple h
  cases hya with
  | cons h1 hya =>
    cases hya with
    | cons h2 hya =>
      cases hya with
      | cons h3 hya =>
        cases hya with
        | cons h4 hya =>
          cases hya
          exact ⟨p, _, _, _, _, rfl, hys, h1, h2, h3, h4⟩
theorem a_t2 {a b : PyData} (h : Dp K H y (.tuple [a, b])) (q : ∀ u v, Dp K H u a → Dp K H v b → Q ((σ.set i (some u)).set j (some v)) H) : gT K 2 (gCons (gName i) (gCons (gName j) gNil)) y σ H Q := by
  obtain ⟨p, u, v, rfl, hs, h1, h2⟩ := dp_t2 h
  exact a_t2V hs (q _ _ h1 h2)
theorem a_t3 {a b c : PyData} (h : Dp K H y (.tuple [a, b, c])) (q : ∀ u v x, Dp K H u a → Dp K H v b → Dp K H x c → Q (((σ.set i (some u)).set j (some v)).set k (some x)) H) : gT K 3 (gCons (gName i) (gCons (gName j) (gCons (gName k) gNil))) y σ H Q := by
  obtain ⟨p, u, v, x, rfl, hs, h1, h2, h3⟩ := dp_t3 h
  exact a_t3V hs (q _ _ _ h1 h2 h3)
theorem a_t4 {a b c d : PyData} (h : Dp K H y (.tuple [a, b, c, d])) (q : ∀ u v x z, Dp K H u a → Dp K H v b → Dp K H x c → Dp K H z d → Q ((((σ.set i (some u)).set j (some v)).set k (some x)).set l (some z)) H) : gT K 4 (gCons (gName i) (gCons (gName j) (gCons (gName k) (gCons (gName l) gNil)))) y σ H Q := by
  obtain ⟨p, u, v, x, z, rfl, hs, h1, h2, h3, h4⟩ := dp_t4 h
  exact a_t4V hs (q _ _ _ _ h1 h2 h3 h4)
theorem a_t2h {ms : List Addr} {a b : PyData} (h : Dp K (hide H ms) y (.tuple [a, b])) (q : ∀ u v, Dp K (hide H ms) u a → Dp K (hide H ms) v b → Q ((σ.set i (some u)).set j (some v)) H) : gT K 2 (gCons (gName i) (gCons (gName j) gNil)) y σ H Q := by
  obtain ⟨p, u, v, rfl, hs, h1, h2⟩ := dp_t2 h
  exact a_t2V (sqT_same same_show hs) (q _ _ h1 h2)
theorem a_t3h {ms : List Addr} {a b c : PyData} (h : Dp K (hide H ms) y (.tuple [a, b, c])) (q : ∀ u v x, Dp K (hide H ms) u a → Dp K (hide H ms) v b → Dp K (hide H ms) x c → Q (((σ.set i (some u)).set j (some v)).set k (some x)) H) : gT K 3 (gCons (gName i) (gCons (gName j) (gCons (gName k) gNil))) y σ H Q := by
  obtain ⟨p, u, v, x, rfl, hs, h1, h2, h3⟩ := dp_t3 h
  exact a_t3V (sqT_same same_show hs) (q _ _ _ h1 h2 h3)
theorem a_t4h {ms : List Addr} {a b c d : PyData} (h : Dp K (hide H ms) y (.tuple [a, b, c, d])) (q : ∀ u v x z, Dp K (hide H ms) u a → Dp K (hide H ms) v b → Dp K (hide H ms) x c → Dp K (hide H ms) z d → Q ((((σ.set i (some u)).set j (some v)).set k (some x)).set l (some z)) H) : gT K 4 (gCons (gName i) (gCons (gName j) (gCons (gName k) (gCons (gName l) gNil)))) y σ H Q := by
  obtain ⟨p, u, v, x, z, rfl, hs, h1, h2, h3, h4⟩ := dp_t4 h
  exact a_t4V (sqT_same same_show hs) (q _ _ _ _ h1 h2 h3 h4)
end
theorem pg_tupK {X : Cx} {K : PySem.W.Frag} {es : List Expr} {k : Nat} {t : TGs} {n : Nat} {pos : Pos} (hc : X.calm = true) (h : PGs X es t) (hn : (assignEach es X.env).length = n := by rfl) (hst : (assignEach es X.env).findIdx? (·.1) = none := by rfl) (hK : X.K = K := by rfl) :
    PG X (.Tuple es k pos) (gT K n t) := by
  subst hK; exact pg_tup hc h hn hst
end Pb

/-! PbOwn -/
set_option Elab.async false
set_option linter.all false
set_option maxRecDepth 100000
set_option maxHeartbeats 4000000
/-! Pb: == and len by an own __eq__, __len__ -/
namespace Pb
open PySem PySem.Spec PyProof.Rows L2
open C8 (Met)
section
variable {X : Cx} {n j : Nat} {C : Addr} {sp : Sp}
/-- x == y, x of the class at C, y too -/
def rEqO (C : Addr) (sp : Sp) : R2 := fun x y H Q => ∃ a b dx dy fs gs, x = .ref a ∧ y = .ref b ∧ H a = some (.ins C dx fs) ∧ H b = some (.ins C dy gs) ∧ sp [.ref a, .ref b] H (fun v H' => ∃ c, v = .bl c ∧ Q (.bl c) H') C8.E0
theorem op_eqO (c : Met X.prog X.w X.K X.mg X.base n C "__eq__" sp []) (hr : Room j X.A) (hk : n ≤ j) : OpR X (compareOp .Eq) (rEqO C sp) := by
  intro pins s σ H x y v u Q I rx ry hq
  obtain ⟨a, b, dx, dy, fs, gs, rfl, rfl, ha, hb, hsp⟩ := hq
  obtain ⟨f, fd, ps, ds, hc, me, F, hbi, hds⟩ := c.ex
  cases hds
  cases rx
  cases ry
  show wpAny (model X.prog X.w) X.A (richCompare .Eq (.ref a) (.ref b)) (EP X pins σ Q) X.xe s
  obtain ⟨mA, J1, _⟩ := ins_get I.hok ha
  obtain ⟨mB, J2, _⟩ := ins_get I.hok hb
  obtain ⟨od1, K1, _⟩ := J1.look
  obtain ⟨od2, K2, _⟩ := J2.look
  obtain ⟨m, hF⟩ := I.fr
  have hrn := hr.mono hk
  refine PySem.W.cmp_K (op := .Eq) (tb := .ref C) hrn.units0 hF I.ok.mod.kin K1 K2.type (by simp [PySem.W.notFirst]) me.at_ me.fn ?_
  have e0 : Env0 X.prog X.w X.K X.mg X.base X.A X.stack s H := I.env0
  have hl := F.len _ _ _ _ hsp
  have r2 : Vals [V.ref a, V.ref b] [Value.ref a, Value.ref b] := .cons rfl (.cons rfl .nil)
  refine wpAny_call (codeAny_mono (F.run X.A X.stack s H ⟨[.ref a, .ref b], []⟩ [.ref a, .ref b] [.ref a, .ref b] _ C8.E0 hrn e0 (by
    have q := hbi s [.ref a, .ref b] I.kIn (by simpa using hl)
    simpa using q) r2 hsp) fun r s' hq => ?_)
  cases r with
  | error e => exact C8.pass0 (E := C8.E0) pins σ H s e s' I hq
  | ok fl =>
    cases fl with
    | ret w =>
      obtain ⟨z, H', I', rz, c, ez, q⟩ := I.after hq
      subst ez
      cases (show w = Value.bool c from rz)
      exact ⟨.bl c, H', I', rfl, q⟩
    | next => exact False.elim hq
    | brk => exact False.elim hq
    | cont => exact False.elim hq
/-- len(x), x of the class at C -/
def rLenO (C : Addr) (sp : Sp) : List V → Hp → VK → Prop := fun xs H Q => ∃ a dx fs, xs = [.ref a] ∧ H a = some (.ins C dx fs) ∧ sp [.ref a] H (fun v H' => ∃ i : Nat, v = .int i ∧ i < 2 ^ 62 ∧ Q (.int i) H') C8.E0
theorem call_lenO (c : Met X.prog X.w X.K X.mg X.base n C "__len__" sp []) (hr : Room j X.A) (hk : n + 1 ≤ j) : CallR X (.builtin "len") (rLenO C sp) := by
  intro pins s σ H xs us Q I r hq
  obtain ⟨a, dx, fs, rfl, ha, hsp⟩ := hq
  obtain ⟨f, fd, ps, ds, hc, me, F, hbi, hds⟩ := c.ex
  cases hds
  obtain ⟨u, rfl, ru⟩ := vals1 r
  cases ru
  obtain ⟨mA, J1, _⟩ := ins_get I.hok ha
  obtain ⟨od1, K1, _⟩ := J1.look
  have hrn : Room n X.A.in1 := (hr.mono hk).in1
  have e0 : Env0 X.prog X.w X.K X.mg X.base X.A.in1 X.stack s H := by
    have e := I.env0
    exact ⟨e.frames, e.mod, e.bs, e.bsz, e.funs, e.frf, e.hok, e.bare⟩
  have hl := F.len _ _ _ _ hsp
  have r1 : Vals [V.ref a] [Value.ref a] := .cons rfl .nil
  have run : wpAny (model X.prog X.w) X.A.in1 (call (.ref f) [.ref a]) (fun v s' => ∃ i : Nat, (∃ t, v = .int i t) ∧ i < 2 ^ 62 ∧ ∃ H', L2.Inv X pins σ H' s' ∧ Q (.int i) H') X.xe s := by
    refine wpAny_call (codeAny_mono (F.run X.A.in1 X.stack s H ⟨[.ref a], []⟩ [.ref a] [.ref a] _ C8.E0 hrn e0 (by
      have q := hbi s [.ref a] I.kIn (by simpa using hl)
      simpa using q) r1 hsp) fun r s' hq => ?_)
    cases r with
    | error e => exact C8.pass0 (E := C8.E0) pins σ H s e s' I hq
    | ok fl =>
      cases fl with
      | ret w =>
        obtain ⟨z, H', I', rz, i, ez, hi, q⟩ := I.after hq
        subst ez
        obtain ⟨t, et⟩ := (show ∃ t, w = Value.int i t from rz)
        exact ⟨i, ⟨t, et⟩, hi, H', I', q⟩
      | next => exact False.elim hq
      | brk => exact False.elim hq
      | cont => exact False.elim hq
  refine Calls.call_function_entry kind_len plain_len entry_len (args_len1 _) ?_
  unfold Builtin.«len»
  refine wpAny_bind (m := oneArg "len" _) (wpAny_pure ?_)
  refine wpAny_bind (m := callSpecial? (.ref a) (Str.ofString "__len__")) ?_
  unfold callSpecial? specialOf
  refine wpAny_bind (wpAny_bind (K1.type.here ((PySem.W.looks_findIn I.kIn me.at_).here ?_)))
  refine wpAny_holding (wpAny_bind ((PySem.W.bind_fn I.kIn _ (beq_iff_eq.mp me.fn)).here ?_))
  refine wpAny_bind (wpAny_mono run (fun v s' hv => wpAny_pure ?_) fun _ _ h => h)
  obtain ⟨i, ⟨t, rfl⟩, hi, H', I', q⟩ := hv
  refine wpAny_bind (wpAny_holding (wpAny_pure ?_))
  refine wpAny_bind (wpAny_letGo ?_)
  show wpAny _ _ (if (i : Int) < 0 then _ else _) _ _ _
  rw [if_neg (by omega)]
  show wpAny _ _ (if (i : Int) ≥ 2 ^ 63 then _ else _) _ _ _
  rw [if_neg (by omega)]
  refine wpAny_bind (wpAny_mkInt (wpAny_pure ⟨_, rfl, ?_⟩))
  exact ⟨.int i, H', I'.tok _, ⟨_, rfl⟩, q⟩
end
/-! ### isinstance of an instance -/
structure IsaC (K : PySem.W.Frag) (C : Addr) : Prop where
  ha : PySem.W.findIn K (.ref C) "__class__" = some (some (.builtin "object.__class__"))
  hn : PySem.W.specialIn K (.builtin "object.__class__") "__get__" = some (some (.builtin "getset_descriptor.__get__"))
  ht : PySem.W.takesIn K (.builtin "object.__class__") = some true
  hm : PySem.W.mroIn K C (.type "object") = some true
def isaB (K : PySem.W.Frag) (C : Addr) : Bool := decide (PySem.W.findIn K (.ref C) "__class__" = some (some (.builtin "object.__class__"))) && (decide (PySem.W.specialIn K (.builtin "object.__class__") "__get__" = some (some (.builtin "getset_descriptor.__get__"))) &&
  (decide (PySem.W.takesIn K (.builtin "object.__class__") = some true) && decide (PySem.W.mroIn K C (.type "object") = some true)))
theorem isaB_ok {K : PySem.W.Frag} {C : Addr} (h : isaB K C = true) : IsaC K C := by
  unfold isaB at h
  have h1 := Bool.and_eq_true_iff.mp h
  have h2 := Bool.and_eq_true_iff.mp h1.2
  have h3 := Bool.and_eq_true_iff.mp h2.2
  exact ⟨of_decide_eq_true h1.1, of_decide_eq_true h2.1, of_decide_eq_true h3.1, of_decide_eq_true h3.2⟩
theorem a_isO {K : PySem.W.Frag} {H : Hp} {a C D dx : Addr} {fs : List (Str × V)} {b : Bool} {Q : VK} (e : H a = some (.ins C dx fs)) (c : Cls K C) (i : IsaC K C) (k : PySem.W.kitOne K (.ref C) (.ref D) = some b) (q : Q (.bl b) H) : rIsi K [.ref a, .ref D] H Q :=
  ⟨.ref a, .ref D, .ref C, .ref D, b, rfl, .own D, .base (.ins e c i.ha i.hn i.ht i.hm), k, q⟩
end Pb

/-! PbKw -/
set_option Elab.async false
set_option linter.all false
set_option maxRecDepth 100000
set_option maxHeartbeats 4000000
/-! Pb: defs with keyword-only parameters -/
namespace Pb
open PySem PySem.Spec PyProof.Rows L2
/-- the keyword-only default x of the def at f, if it is an object -/
def kwdAt (f : Addr) (x : Str) (K : PySem.W.Frag) : Addr := match K.lookup f with
  | some ⟨_, _, .func fd, _⟩ => (match fd.kwdefaults with
    | .ref D => (match PySem.W.nsIn K D x with
      | some (some (.ref a)) => a
      | _ => 0)
    | _ => 0)
  | _ => 0
/-- the empty tuple -/
def etB (K : PySem.W.Frag) (a : Addr) : Bool := match K.lookup a with
  | some ⟨.type c, _, .seq its _, _⟩ => decide (c = "tuple") && decide (its.size = 0)
  | _ => false
theorem etB_ok {K : PySem.W.Frag} {a : Addr} (h : etB K a = true) (H : Hp) : SqT K H a [] := by
  unfold etB at h
  cases q : K.lookup a with
  | none => rw [q] at h; cases h
  | some o =>
    obtain ⟨oc, od, dt, osl⟩ := o
    rw [q] at h
    cases oc with
    | type c =>
      cases dt with
      | seq its n =>
        have h1 := Bool.and_eq_true_iff.mp (show (decide (c = "tuple") && decide (its.size = 0)) = true from h)
        have e : its = #[] := Array.size_eq_zero_iff.mp (of_decide_eq_true h1.2)
        subst e
        exact .inr ⟨_, #[], n, q, congrArg Value.type (of_decide_eq_true h1.1), rfl, Nat.zero_le _, .nil⟩
      | _ => cases h
    | _ => cases dt <;> cases h
/-- a def with keyword-only defaults, its promise over all parameters -/
structure KDef (P : Program) (w : World) (K : PySem.W.Frag) (mg : Str → Option Value) (base : Heap) (k : Nat) (x : Str) (sp : Sp) (ps : List Str) (st : Stmt) (kws : List (Str × V)) : Prop where
  ex : ∃ f fd, FnOk P w K mg base CX0 k f fd ps sp ∧ mg x = some (.ref f) ∧ FunD K x x (L2.defArgs st) (L2.defBody st) (L2.defScope st) [] kws f fd
section
variable {P : Program} {w : World} {K : PySem.W.Frag} {mg : Str → Option Value} {base : Heap}
theorem kdef_of {x : Str} {st : Stmt} {f : Addr} {N ps : List Str} {k : Nat} {sp : Sp} {kws : List (Str × V)} (D : FnD K x x st [] kws f) (g : mg x = some (.ref f)) (S : FnScope N ps (L2.defScope st))
    (len : ∀ vs H Q E, sp vs H Q E → vs.length = ps.length)
    (hbody : ∀ (cdv : Value) (A : Around) (outer : List Env) (s : Shared) (H : Hp) (vs : List V) (Q : VK) (E : XK), Room k (A.deeper (envOfC x (L2.defScope st) s.heap.objs.size f cdv)) → sp vs H Q E →
      ∃ t, PSs (cxOf CX0 P w K mg base N x (L2.defScope st) f cdv A outer s H E).nox (L2.defBody st) t ∧ t { nx := fun _ H' => Q .non H', rt := Q } (start N vs) H) : KDef P w K mg base (k + 1) x sp ps st kws := by
  obtain ⟨fd, F⟩ := D
  refine ⟨f, fd, F.ok S len fun cdv A outer s H vs Q E hr h => ?_, g, F⟩
  obtain ⟨t, h1, h2⟩ := hbody cdv A outer s H vs Q E hr h
  exact ⟨t, h1.nox, h2⟩
end
section
variable {X : Cx} {k j : Nat} {x : Str} {sp : Sp} {ps : List Str} {st : Stmt} {kws : List (Str × V)} {p pos : Pos} {e : Expr} {es : List Expr} {kwe : List Keyword} {t tk : TA}
/-- f(e, .., k = v, ..) -/
theorem pe_callKD (c : KDef X.prog X.w X.K X.mg X.base k x sp ps st kws) (hr : Room j X.A) (hk : k ≤ j) (hg : Gl X x) (n : Nat) (ks : List Str) (ms : List (Str × V)) (g : {α : Type} → List α → List α → List α → List α) (hkws : kws ≠ []) (hms : ∀ q ∈ ms, q ∈ kws)
    (hrel : ∀ {vs mz zs : List V} {us mv ws : List Value}, Vals vs us → Vals mz mv → Vals zs ws → Vals (g vs mz zs) (g us mv ws))
    (h : ∀ (D : Addr) (doc pm : Value) (an : Option Addr) (cdv ct : Value) (us mv ws : List Value), us.length = n → mv.length = ms.length → ws.length = ks.length →
      KwChain D ((ms.map (·.1)).zip mv) (bindArgs (PySem.W.fnOf x x (L2.defArgs st) (L2.defBody st) (L2.defScope st) .none (.ref D) doc pm an cdv ct) ⟨us, ks.zip ws⟩) (ps.zip (g us mv ws)))
    (ha : PA X (e :: es) t) (hkw : PK X kwe tk) (hall : (backToKw pos (keywordEach kwe X.env)).all (·.1.isSome) = true := by rfl) (hks : (backToKw pos (keywordEach kwe X.env)).filterMap (·.1) = ks := by rfl)
    (hdb : (x == ("__debug__" : Str)) = false := by decide) (he : starEach (e :: es) X.env = (false, eval e X.env) :: starEach es X.env := by rfl)
    (hpl : ((backTo pos (starEach (e :: es) X.env)).any (·.1) || (backToKw pos (keywordEach kwe X.env)).any (·.1.isNone)) = false := by rfl) :
    PE X (.Call (.Name x p) (e :: es) kwe pos) (tCallN n ks.length sp (fun vs zs => g vs (ms.map (·.2)) zs) C8.E0 t tk) := by
  obtain ⟨f, fd, F, hm, D⟩ := c.ex
  obtain ⟨mv, hb⟩ := D.kbinds0 (ps := ps) n ks ms g hkws hms hrel h
  exact pe_callN F (hr.mono hk) hg hm D.kp hb C8.pass0 ha hkw hall hks hdb he hpl
end
end Pb

/-! PbG -/
set_option Elab.async false
set_option linter.all false
set_option maxRecDepth 100000
set_option maxHeartbeats 4000000
/-! Pb: str of nested data: it asks that no repr runs outside; a call layer that hands this on -/
namespace Pb
open PySem PySem.Spec PyProof.Rows L2
open C8 (Cal Mak Met)
/-- no repr runs -/
def Still (A : Around) : Prop := A.guards = some []
theorem Still.deeper {A : Around} {env : Env} (h : Still A) : Still (A.deeper env) := h
/-- a promise that may lean on it -/
structure GFn (P : Program) (w : World) (K : PySem.W.Frag) (mg : Str → Option Value) (base : Heap) (k : Nat) (f : Addr) (fd : FuncData) (ps : List Str) (sp : Sp) : Prop where
  len : ∀ vs H Q E, sp vs H Q E → vs.length = ps.length
  go : ∀ (A : Around), Still A → ∀ (outer : List Env) (t : Shared) (H : Hp) (ar : Args) (us : List Value) (vs : List V) (Q : VK) (E : XK), Room k A → Env0 P w K mg base A outer t H → BindsTo t fd ar (ps.zip us) → Vals vs us → sp vs H Q E →
    codeAny (model P w) A (.call (.ref f) ar) (CR CX0 outer P w H t Q E) t
section
variable {P : Program} {w : World} {K : PySem.W.Frag} {mg : Str → Option Value} {base : Heap}
theorem gfn_of {x qual : Str} {st : Stmt} {f : Addr} {fd : FuncData} {dvs : List V} {kws : List (Str × V)} {N ps : List Str} {k : Nat} {sp : Sp} (D : FunD K x qual (L2.defArgs st) (L2.defBody st) (L2.defScope st) dvs kws f fd) (S : FnScope N ps (L2.defScope st)) (len : ∀ vs H Q E, sp vs H Q E → vs.length = ps.length)
    (hbody : ∀ (cdv : Value) (A : Around) (outer : List Env) (s : Shared) (H : Hp) (vs : List V) (Q : VK) (E : XK), Still (A.deeper (envOfC qual (L2.defScope st) s.heap.objs.size f cdv)) → Room k (A.deeper (envOfC qual (L2.defScope st) s.heap.objs.size f cdv)) → sp vs H Q E →
      ∃ t, PSs (cxOf CX0 P w K mg base N qual (L2.defScope st) f cdv A outer s H E) (L2.defBody st) t ∧ t { nx := fun _ H' => Q .non H', rt := Q } (start N vs) H) : GFn P w K mg base (k + 1) f fd ps sp := by
  obtain ⟨oc, od, dV, kV, doc, pm, an, cdv, ct, osl, rfl, lk, hcd, _, _⟩ := D.ex
  refine ⟨len, fun A still outer t H ar us vs Q E room env bnd rel hsp => ?_⟩
  have n := len vs H Q E hsp
  have kin : K.In t.heap := env.mod.kin.keeps fun b o e => (env.bs b o e).1
  have noLim : t.heap.NoLimit := env.mod.nolimit.keeps fun b o e => (env.bs b o e).1
  refine codeAny_call_function room.depth (kin _ _ lk) rfl S.co S.gen rfl (PySem.W.codeRec_of kin hcd) (bnd _ _ _ _ ?_)
  have kinds : ∀ y ∈ ps.zip us, (L2.defScope st).names.lookup y.1 = some .local ∨ ((L2.defScope st).names.lookup y.1 = some .cell ∧ ((cellsFrom (t.heap.objs.size + 1) (L2.defScope st).names []).lookup y.1).isSome = true) := by
    rintro ⟨z, v⟩ hz
    exact (S.par z (List.of_mem_zip hz).1).imp id fun q => ⟨q, PySem.W.cellsFrom_some _ _ _ (.inl q)⟩
  refine wpAny_newFunctionEnv_cells S.kind kinds fun env2 eenv t1 inC => ?_
  subst eenv
  refine ⟨noLim.keeps inC.toInCall.keep, codeAny_func ?_⟩
  obtain ⟨tr, h1, h2⟩ := hbody cdv A outer t H vs Q E still.deeper (room.deeper _) hsp
  have J0 : L2.Inv (cxOf CX0 P w K mg base N qual (L2.defScope st) f cdv A outer t H E) [] (start N vs) H t1 := inv_start S room.hd env n rel inC
  refine wpAny_mono (h1.run [] t1 (start N vs) H _ J0 h2) (fun fl t2 hq => ?_) fun _ _ hq => hq
  have out : ∀ {σ : L2.St} {H' : Hp} {v : V} {u : Value}, L2.Inv (cxOf CX0 P w K mg base N qual (L2.defScope st) f cdv A outer t H E) [] σ H' t2 → RelV v u → Q v H' → CE outer P w H t Q u t2 := fun J r q => ⟨_, _, J.os, J.bare, J.base, J.hok, r, q⟩
  cases fl with
  | ret u => obtain ⟨v, σ, H', J, r, q⟩ := hq; exact out J r q
  | next => obtain ⟨σ, H', J, q⟩ := hq; exact out (v := V.non) (u := Value.none) J rfl q
  | brk => obtain ⟨_, _, _, q⟩ := hq; cases q
  | cont => obtain ⟨_, _, _, q⟩ := hq; cases q
/-- a def that may be called by its name -/
structure GCal (P : Program) (w : World) (K : PySem.W.Frag) (mg : Str → Option Value) (base : Heap) (k : Nat) (x : Str) (sp : Sp) : Prop where
  ex : ∃ (f : Addr) (fd : FuncData) (ps : List Str), GFn P w K mg base k f fd ps sp ∧ mg x = some (.ref f) ∧ PySem.W.keepIn K (.ref f) = true ∧ Binds K fd ps []
theorem gcal_of {x : Str} {st : Stmt} {f : Addr} {N ps : List Str} {k : Nat} {sp : Sp} (D : FnD K x x st [] [] f) (g : mg x = some (.ref f)) (S : FnScope N ps (L2.defScope st))
    (hb : ∀ (kV doc pm : Value) (an : Option Addr) (cdv ct : Value) (us : List Value), us.length = ps.length → bindArgs (PySem.W.fnOf x x (L2.defArgs st) (L2.defBody st) (L2.defScope st) .none kV doc pm an cdv ct) ⟨us, []⟩ = pure (ps.zip us))
    (len : ∀ vs H Q E, sp vs H Q E → vs.length = ps.length)
    (hbody : ∀ (cdv : Value) (A : Around) (outer : List Env) (s : Shared) (H : Hp) (vs : List V) (Q : VK) (E : XK), Still (A.deeper (envOfC x (L2.defScope st) s.heap.objs.size f cdv)) → Room k (A.deeper (envOfC x (L2.defScope st) s.heap.objs.size f cdv)) → sp vs H Q E →
      ∃ t, PSs (cxOf CX0 P w K mg base N x (L2.defScope st) f cdv A outer s H E).nox (L2.defBody st) t ∧ t { nx := fun _ H' => Q .non H', rt := Q } (start N vs) H) : GCal P w K mg base (k + 1) x sp := by
  obtain ⟨fd, F⟩ := D
  refine ⟨f, fd, ps, gfn_of F S len fun cdv A outer s H vs Q E hs hr h => ?_, g, F.kp, F.bindsN hb⟩
  obtain ⟨t, h1, h2⟩ := hbody cdv A outer s H vs Q E hs hr h
  exact ⟨t, h1.nox, h2⟩
end
section
variable {X : Cx} {k j : Nat} {x : Str} {sp : Sp} {p pos : Pos} {e : Expr} {es : List Expr} {t : TA}
/-- f(e, ..) of such a def -/
theorem pe_cG (c : GCal X.prog X.w X.K X.mg X.base k x sp) (st : Still X.A) (hr : Room j X.A) (hk : k ≤ j) (hg : Gl X x) (ha : PA X (e :: es) t)
    (hdb : (x == ("__debug__" : Str)) = false := by decide) (he : starEach (e :: es) X.env = (false, eval e X.env) :: starEach es X.env := by rfl) (hpl : (backTo pos (starEach es X.env)).any (·.1) = false := by rfl) :
    PE X (.Call (.Name x p) (e :: es) [] pos) (tCall sp [] C8.E0 t) := by
  obtain ⟨f, fd, ps, F, hm, kp, hbi⟩ := c.ex
  refine ⟨fun pins s σ H Q I h => wpAny_Call_Name_kw (ld_glob I hg hm ?_ hdb)⟩
  refine PySem.W.callWith_K (h₀ := X.base) I.ok.mod.kin kp (thn (ha.run pos pins s σ H _ I h) fun us s1 ⟨vs, H1, J, rel, q⟩ => ⟨J.kIn, ?_⟩) he hpl
  have rel2 : Vals (vs ++ []) (us ++ []) := rel.append .nil
  have n : (us ++ []).length = ps.length := by rw [← rel2.length]; exact F.len _ _ _ _ q
  refine wpAny_call (codeAny_mono (F.go X.A st X.stack s1 H1 ⟨us, []⟩ (us ++ []) (vs ++ []) Q C8.E0 (hr.mono hk) J.env0 (hbi s1 us J.kIn n) rel2 q) fun r s2 hq => ?_)
  match r, hq with
  | .error er, hq => exact C8.pass0 (E := C8.E0) pins σ H1 s1 er s2 J hq
  | .ok (.ret u), hq => exact J.after hq
/-- str(x), x data in which nothing is wider than may be shown -/
def rStrD (K : PySem.W.Frag) : List V → Hp → VK → Prop := fun xs H Q => ∃ v d, xs = [v] ∧ Dp K H v d ∧ (∃ a, v = .ref a) ∧ d.showable = true ∧ d.hasDict = false ∧ d.depth ≤ 50 ∧ d.shown.length ≤ sizeLine ∧ Q (.str d.shown) H
theorem call_strD (st : Still X.A) (hr : Room j X.A) : CallR X (.type "str") (rStrD X.K) := by
  intro pins s σ H xs us Q I r h
  obtain ⟨v, d, rfl, hd, ⟨a, rfl⟩, h1, h2, h3, h4, q⟩ := h
  obtain ⟨u, rfl, ru⟩ := vals1 r
  obtain ⟨as, rd⟩ := Dp.reads I d (.ref a) u hd ru
  cases ru
  have un := hr.un
  refine PySem.str_of_reads rd h1 (fun z => by rw [h2] at z; cases z) st (by omega) (fun b o e => e) (fun h' u tk kp => ?_) h4
  exact ⟨.str d.shown, H, I.kept (t' := tk) kp, ⟨_, rfl⟩, q⟩
end
/-! ### the end of a law whose def leans on it -/
section
variable {P : Program} {w : World} {K : PySem.W.Frag} {mg mb : Str → Option Value}
/-- from one abstract heap, in which at most the script stands -/
theorem law_at {k : Nat} {fa a : Addr} {fd : FuncData} {x : Str} {sp : Sp} {s1 : Shared} {H : Hp} (kin : K.In s1.heap) (nsM : s1.heap.Ns mainGlobals mg) (nsB : s1.heap.Ns builtinsNs mb) (bb : ∀ x : Str, x ≠ "__name__" → mb x = bootBuiltins x) (nl : s1.heap.NoLimit) (ng : s1.gens = #[])
    (room : Room k callerA) (F : ∀ base : Heap, K.In base → base.Ns mainGlobals mg → GFn P w K mg base k fa fd [x] sp) (bnd : ∀ (t : Shared) (u : Value), BindsTo t fd ⟨[u], []⟩ [(x, u)])
    (only : Only H) (hok : HOk P w H s1.heap) (nodict : ∀ b o es ep, H b ≠ none → s1.heap.get? b = some o → o.data = .dict es ep → False) (off : ∀ b o, K.lookup b = some o → H b = none) (hsp : sp [.ref a] H (fun v _ => v = .bl true) fun _ _ _ => False) :
    codeAny (model P w) callerA (.call (.ref fa) ⟨[.ref a], []⟩) (fun r s' => r = .ok (.ret (.bool true)) ∧ OldK s1.heap s'.heap ∧ s'.os = s1.os ∧ AllBare s'.gens) s1 := by
  have seen : ∀ b o, s1.heap.get? b = some o → H b = none → (hidT s1.heap H).get? b = some o := fun b o e n => hidT_get e n
  have ns : ∀ {b : Addr} {m : Str → Option Value}, s1.heap.Ns b m → (hidT s1.heap H).Ns b m := by
    rintro b m ⟨o, es, ep, e, d, r⟩
    refine ⟨o, es, ep, seen b o e ?_, d, r⟩
    cases q : H b with
    | none => rfl
    | some u => exact (nodict b o es ep (by rw [q]; exact fun z => nomatch z) e d).elim
  have kB : K.In (hidT s1.heap H) := fun b o e => seen b o (kin b o e) (off b o e)
  obtain ⟨mc, l1, l2⟩ := nl
  have md : Mod K mg (hidT s1.heap H) := ⟨kB, ns nsM, ⟨mb, ns nsB, bb⟩, ⟨mc, ns l1, l2⟩⟩
  have env : Env0 P w K mg (hidT s1.heap H) callerA [] s1 H := ⟨rfl, md, fun b o e => of_hidT e, Nat.le_of_eq (hidT_size _ _), trivial, fun b hb => (nomatch hb), hok, .of_eq ng⟩
  have run := (F _ kB (ns nsM)).go callerA rfl [] s1 H ⟨[.ref a], []⟩ [.ref a] [.ref a] _ _ room env (bnd s1 (.ref a)) (.cons rfl .nil) hsp
  refine codeAny_mono run fun r s2 hq => ?_
  match r, hq with
  | .error _, hq => exact False.elim hq
  | .ok .next, hq => exact False.elim hq
  | .ok .brk, hq => exact False.elim hq
  | .ok .cont, hq => exact False.elim hq
  | .ok (.ret u), ⟨v, H2, eos, bare, un, hok2, rel, ev⟩ =>
    subst ev
    cases (show u = Value.bool true from rel)
    refine ⟨rfl, OldK.of_keep fun b o e => ?_, eos, bare⟩
    rcases only b with z | ⟨ob, xs, z⟩
    · exact un.keep b o e z (fun m => nomatch m) (fun m => nomatch m)
    · have e1 := (hok b _ z).1
      have e2 := (hok2 b _ (un.frzs b ob _ z)).1
      rw [e] at e1
      cases e1
      exact e2
theorem law_of {k : Nat} {fa a : Addr} {fd : FuncData} {x : Str} {sp : Sp} {s1 : Shared} {us : List Value} {ns : List Int} (kin : K.In s1.heap) (nsM : s1.heap.Ns mainGlobals mg) (nsB : s1.heap.Ns builtinsNs mb) (bb : ∀ x : Str, x ≠ "__name__" → mb x = bootBuiltins x) (nl : s1.heap.NoLimit) (ng : s1.gens = #[])
    (ha : s1.heap.get? a = some { cls := .type "list", data := .seq us.toArray }) (hi : IntsAre us ns) (hl : ns.length ≤ sizeLine) (room : Room k callerA) (F : ∀ base : Heap, K.In base → base.Ns mainGlobals mg → GFn P w K mg base k fa fd [x] sp)
    (bnd : ∀ (t : Shared) (u : Value), BindsTo t fd ⟨[u], []⟩ [(x, u)]) (hsp : ∀ H : Hp, Only H → SqL K H a (ns.map V.int) → sp [.ref a] H (fun v _ => v = .bl true) fun _ _ _ => False) :
    codeAny (model P w) callerA (.call (.ref fa) ⟨[.ref a], []⟩) (fun r s' => r = .ok (.ret (.bool true)) ∧ OldK s1.heap s'.heap ∧ s'.os = s1.os ∧ AllBare s'.gens) s1 := by
  have rel := vals_ints hi
  have len := hi.length
  cases q : K.lookup a with
  | some o =>
    have e := kin a o q
    rw [ha] at e
    cases e
    have sq : SqL K (fun _ => none) a (ns.map V.int) := .inr ⟨_, us.toArray, _, q, rfl, rfl, rfl, by rw [List.size_toArray, len]; exact hl, by rw [List.toList_toArray]; exact rel⟩
    exact law_at kin nsM nsB bb nl ng room F bnd (fun _ => .inl rfl) (fun b u z => nomatch z) (fun b o es ep z => absurd rfl z) (fun _ _ _ => rfl) (hsp _ (fun _ => .inl rfl) sq)
  | none =>
    let ob : Obj := { cls := .type "list", data := .seq us.toArray }
    let H : Hp := upd (fun _ => none) a (.frz ob (.lst (ns.map V.int)))
    have at_ : H a = some (.frz ob (.lst (ns.map V.int))) := upd_same
    have ne : ∀ b, b ≠ a → H b = none := fun b z => upd_ne z
    have only : Only H := fun b => by
      by_cases e : b = a
      · exact .inr ⟨ob, _, by rw [e]; exact at_⟩
      · exact .inl (ne b e)
    refine law_at kin nsM nsB bb nl ng room F bnd only (fun b u z => ?_) (fun b o es ep z e d => ?_) (fun b o e => ?_) (hsp _ only (.inl (.inr ⟨ob, at_⟩)))
    · by_cases e : b = a
      · subst e
        rw [at_] at z
        cases z
        exact ⟨ha, by rw [List.length_map]; exact hl, us, 0, rel, ha⟩
      · rw [ne b e] at z
        cases z
    · by_cases eb : b = a
      · subst eb
        rw [ha] at e
        cases e
        exact nomatch d
      · exact z (ne b eb)
    · refine ne b fun z => ?_
      rw [z, q] at e
      cases e
end
theorem walk_ofG {l : PySem.W.OpenLaw} {n k : Nat} {q : Program} {loose : List Str} {XP : (Str → Option Value) → Heap → Prop} {YP : World → Heap → Prop} {d : DefRec} {x : Str} (hn : l.most = some n) (hn2 : n ≤ sizeLine) (hdf : d.params.defaults = []) (room : Room k callerA)
    (F : ∀ (w : World) (mg : Str → Option Value) (fa : Addr) (h : Heap), YP w h → h.Ns mainGlobals mg → mg d.name = some (.ref fa) →
      ∃ (K : PySem.W.Frag) (fd : FuncData) (sp : Sp), K.In h ∧ (∀ (s : Shared) (u : Value), BindsTo s fd ⟨[u], []⟩ [(x, u)]) ∧ (∀ (H : Hp) (a : Addr) (ns : List Int), ns.length ≤ n → Only H → SqL K H a (ns.map V.int) → sp [.ref a] H (fun v _ => v = .bl true) fun _ _ _ => False) ∧
        ∀ base : Heap, K.In base → base.Ns mainGlobals mg → GFn l.prog w K mg base k fa fd [x] sp) :
    PySem.W.WalkO q loose XP YP l.row.toRowW d [] (fun f vs => PySem.call f vs) := by
  refine Att.attach_call hn hdf fun w s0 s1 mg mb fa o pm cd doc a us ns G Y ho hd hcd hmg hobj hints hlen ng => ?_
  obtain ⟨K, fd, sp, kin, bnd, hsp, hF⟩ := F w mg fa _ Y G.T.g hmg
  exact law_of kin G.T.g G.T.b G.T.builtins G.T.nolimit ng hobj hints (Nat.le_trans hlen hn2) room hF bnd fun H only sq => hsp H a ns hlen only sq
end Pb

/-! PbRules -/
set_option Elab.async false
set_option linter.all false
set_option maxRecDepth 100000
set_option maxHeartbeats 4000000
namespace Pb
open PySem PySem.Spec PyProof.Rows L2 PySem.W
/-! ### a, *b = a tuple or a list -/
section
variable {prog : Program} {w : World} {A : Around} {E : Value → Shared → Prop} {s : Shared} {env : Env} {elts : List Expr} {k : Nat} {pos : Pos}
/-- the unpacking with the star behind i plain targets, by its four calls -/
theorem unpack_last {M : Model} {v : Value} {i : Nat} {Q : List Value → Shared → Prop}
    (h : wpAny M A (notIterableAtAll v) (fun b sa => b = false ∧ wpAny M A (pyIter v) (fun it sb => wpAny M A (draw it i) (fun fs sc => fs.length = i ∧ wpAny M A (collect it) (fun rs sd =>
      rs.length ≤ sizeLine ∧ Q (fs ++ [.ref sd.heap.objs.size]) { sd with heap := sd.heap.push { cls := .type "list", data := .seq rs.toArray } }) E sc) E sb) E sa) E s) :
    wpAny M A (unpackItems v (i + 1) (some i)) Q E s := by
  unfold unpackItems
  refine wpAny_bind (thn h fun b sa hb => ?_)
  obtain ⟨rfl, hb⟩ := hb
  simp only [Bool.false_eq_true, if_false]
  refine wpAny_bind (wpAny_holding (thn hb fun it sb hc => wpAny_bind (wpAny_holding (thn hc fun fs sc hd => ?_))))
  obtain ⟨hl, hd⟩ := hd
  rw [if_neg (by omega)]
  refine wpAny_bind (wpAny_holding (thn hd fun rs sd he => ?_))
  have e1 : i + 1 - 1 - i = 0 := by omega
  simp only [e1, Nat.not_lt_zero, if_false, Nat.sub_zero, List.take_length, List.drop_length]
  refine wpAny_bind (wpAny_newList (wpAny_pure ?_) he.1)
  simpa using he.2
/-- what stood ahead of an iterator's making and turns still stands -/
theorem still {h h1 h2 : Heap} {o : Obj} (s1 : Heap.SameBut h.objs.size (h.push o) h1) (s2 : ∀ b u, b ≠ h.objs.size → h1.get? b = some u → h2.get? b = some u) : ∀ b u, h.get? b = some u → h2.get? b = some u := fun b u e =>
  s2 b u (Nat.ne_of_lt (Heap.lt_size e)) (s1.extBut b u (Nat.ne_of_lt (Heap.lt_size e)) (Heap.get?_push_of_some _ e))
theorem star_lst {l : Addr} {items : Array Value} {i : Nat} {Q : List Value → Shared → Prop} (hl : s.heap.IsList l items) (hh : A.handled = none) (hi : i ≤ items.size) (hz : items.size ≤ 16384)
    (h : ∀ (h' : Heap) (tk : Nat), (∀ b o, s.heap.get? b = some o → h'.get? b = some o) → Q (items.toList.take i ++ [.ref h'.objs.size]) { s with heap := h'.push { cls := .type "list", data := .seq (items.toList.drop i).toArray }, toks := tk }) :
    wpAny (model prog w) A (unpackItems (.ref l) (i + 1) (some i)) Q E s := by
  have ne : l ≠ s.heap.objs.size := fun z => by obtain ⟨o, ho, _⟩ := hl; exact absurd (z ▸ Heap.lt_size ho) (Nat.lt_irrefl _)
  refine unpack_last ?_
  unfold notIterableAtAll
  refine wpAny_bind (wpAny_specialOf hl.typeIs slot_list_iter.lookup (wpAny_pure ⟨rfl, wpAny_pyIter_list hl ?_⟩))
  refine kun_draw ne i 0 _ _ ⟨_, Heap.get?_push_size _ rfl, rfl, rfl⟩ (hl.push _) (by omega) fun h1 t1 b1 => ⟨by simp only [List.drop_zero, List.length_take, Array.length_toList]; omega, ?_⟩
  rw [Nat.zero_add] at t1
  have l1 : h1.IsList l items := (hl.push _).extBut b1.extBut ne
  have z1 : s.heap.objs.size < h1.objs.size := by obtain ⟨o, ho, _⟩ := t1; exact Heap.lt_size ho
  have z2 : l < h1.objs.size := by obtain ⟨o, ho, _⟩ := l1; exact Heap.lt_size ho
  refine kun_collect (s := { s with heap := h1 }) (.inr (.inr (.inl rfl))) (Walks.list (A := A.in1) hh s.heap.objs.size l ne items) (fun _ _ st => st.1.typeIs) hi ⟨t1, l1⟩ z1 z2 (fun h2 tk k2 => ?_) (by rw [sizeLine_eq]; omega)
  refine ⟨by rw [List.length_drop, Array.length_toList, sizeLine_eq]; omega, ?_⟩
  rw [List.drop_zero]
  exact h h2 tk (still b1 k2)
theorem star_tup {l : Addr} {items : Array Value} {i : Nat} {Q : List Value → Shared → Prop} (hl : IsTup s.heap l items) (hh : A.handled = none) (hi : i ≤ items.size) (hz : items.size ≤ 16384)
    (h : ∀ (h' : Heap) (tk : Nat), (∀ b o, s.heap.get? b = some o → h'.get? b = some o) → Q (items.toList.take i ++ [.ref h'.objs.size]) { s with heap := h'.push { cls := .type "list", data := .seq (items.toList.drop i).toArray }, toks := tk }) :
    wpAny (model prog w) A (unpackItems (.ref l) (i + 1) (some i)) Q E s := by
  have ne : l ≠ s.heap.objs.size := fun z => by obtain ⟨o, ho, _⟩ := hl; exact absurd (z ▸ Heap.lt_size ho) (Nat.lt_irrefl _)
  refine unpack_last ?_
  unfold notIterableAtAll
  refine wpAny_bind (wpAny_specialOf hl.typeIs slot_tuple_iter.lookup (wpAny_pure ⟨rfl, iter_tuple hl ?_⟩))
  refine draw_tuple ne i 0 _ _ ⟨_, Heap.get?_push_size _ rfl, rfl, rfl⟩ (hl.push _) (by omega) fun h1 t1 b1 => ⟨by simp only [List.drop_zero, List.length_take, Array.length_toList]; omega, ?_⟩
  rw [Nat.zero_add] at t1
  have l1 : IsTup h1 l items := (hl.push _).extBut b1.extBut ne
  have z1 : s.heap.objs.size < h1.objs.size := by obtain ⟨o, ho, _⟩ := t1; exact Heap.lt_size ho
  have z2 : l < h1.objs.size := by obtain ⟨o, ho, _⟩ := l1; exact Heap.lt_size ho
  refine kun_collect (s := { s with heap := h1 }) (.inr (.inr (.inr rfl))) (Walks.tuple (A := A.in1) hh s.heap.objs.size l ne items) (fun _ _ st => st.1.typeIs) hi ⟨t1, l1⟩ z1 z2 (fun h2 tk k2 => ?_) (by rw [sizeLine_eq]; omega)
  refine ⟨by rw [List.length_drop, Array.length_toList, sizeLine_eq]; omega, ?_⟩
  rw [List.drop_zero]
  exact h h2 tk (still b1 k2)
end
/-- a, .., *b = a list or a tuple: i plain targets, then the star -/
def gStar (K : PySem.W.Frag) (i : Nat) (t : TGs) : TG := fun v σ H Q => ∃ a xs, v = .ref a ∧ (SqT K H a xs ∨ SqL K H a xs) ∧ i ≤ xs.length ∧ xs.length ≤ 16384 ∧ ∀ D, H D = none → t (xs.take i ++ [.ref D]) σ (upd H D (.lst (xs.drop i))) Q
section
variable {X : Cx}
theorem pgs_star {e : Expr} {es : List Expr} {p : Pos} {t : TG} {u : TGs} (h1 : PG X e t) (h2 : PGs X es u) : PGs X (.Starred e p :: es) (gCons t u) := by
  refine ⟨fun pins s σ H vs us Q I r h => ?_⟩
  obtain ⟨v, vr, e1, h⟩ := h
  subst e1
  cases r with
  | cons r rr =>
    have hs : (assignEach (.Starred e p :: es) X.env).map (·.2) = assign e X.env :: (assignEach es X.env).map (·.2) := rfl
    rw [hs]
    refine assignInOrder_cons (thn (h1.run pins s σ H _ _ _ I r h) fun _ s1 ⟨σ1, H1, I1, q1⟩ => ?_)
    exact h2.run pins s1 σ1 H1 _ _ Q I1 rr q1
theorem pg_star {es : List Expr} {k i : Nat} {pos : Pos} {t : TGs} (hc : X.calm = true) (h : PGs X es t)
    (hn : (assignEach es X.env).length = i + 1 := by rfl) (hst : (assignEach es X.env).findIdx? (·.1) = some i := by rfl) : PG X (.Tuple es k pos) (gStar X.K i t) := by
  refine ⟨fun pins s σ H v u Q I r hw => ?_⟩
  obtain ⟨a, xs, e1, hq, hl, hz, hw⟩ := hw
  subst e1
  cases r
  rw [assign_Tuple]
  refine wpAny_bind (wpAny_standAt ?_)
  unfold unpack
  rw [hn, hst]
  have last : ∀ (its : List Value) (h' : Heap) (tk : Nat), Vals xs its → (∀ b o, s.heap.get? b = some o → h'.get? b = some o) →
      wpAny (model X.prog X.w) X.A (assignInOrder ((assignEach es X.env).map (·.2)) (its.take i ++ [.ref h'.objs.size])) (fun _ s' => ∃ σ' H', L2.Inv X pins σ' H' s' ∧ Q σ' H') X.xe { s with heap := h'.push { cls := .type "list", data := .seq (its.drop i).toArray }, toks := tk } := by
    intro its h' tk rv hk
    have I1 : L2.Inv X pins σ H { s with heap := h', toks := tk } := I.kept hk
    have hf : H h'.objs.size = none := I1.hok.fresh (Nat.le_refl _)
    have I2 : L2.Inv X pins σ (upd H h'.objs.size (.lst (xs.drop i))) { s with heap := h'.push { cls := .type "list", data := .seq (its.drop i).toArray }, toks := tk } :=
      I1.laid (t' := tk) (fun b u e => Heap.get?_push_of_some _ e) (Nat.le_refl _) ⟨by rw [List.length_drop, sizeLine_eq]; omega, its.drop i, 0, rv.drop i, Heap.get?_push_size _ rfl⟩
    exact h.run pins _ σ _ _ _ Q I2 ((rv.take i).append (.cons (show L2.RelV (.ref h'.objs.size) (.ref h'.objs.size) from rfl) .nil)) (hw _ hf)
  rcases hq with hq | hq
  · obtain ⟨its, rv, ht, hsz⟩ := I.tuple hq
    have hlen := rv.length
    refine wpAny_bind (wpAny_holding (star_tup ht (I.ok.hd hc) (by rw [List.size_toArray]; omega) (by rw [List.size_toArray]; omega) fun h' tk hk => ?_))
    have q := last its h' tk rv hk
    simpa using q
  · obtain ⟨its, rv, ht, hsz⟩ := I.list hq
    have hlen := rv.length
    refine wpAny_bind (wpAny_holding (star_lst ht.isList (I.ok.hd hc) (by rw [List.size_toArray]; omega) (by rw [List.size_toArray]; omega) fun h' tk hk => ?_))
    have q := last its h' tk rv hk
    simpa using q
theorem pg_starK {K : PySem.W.Frag} {es : List Expr} {k i : Nat} {pos : Pos} {t : TGs} (hc : X.calm = true) (h : PGs X es t)
    (hn : (assignEach es X.env).length = i + 1 := by rfl) (hst : (assignEach es X.env).findIdx? (·.1) = some i := by rfl) (hK : X.K = K := by rfl) : PG X (.Tuple es k pos) (gStar K i t) := by
  subst hK; exact pg_star hc h hn hst
end
end Pb

/-! PbSet -/
set_option Elab.async false
set_option linter.all false
set_option maxRecDepth 100000
set_option maxHeartbeats 4000000
namespace Pb
open PySem PySem.Spec PyProof.Rows L2 PpSet
/-! ### a set comprehension without tests, whatever its set holds
C D z: what is known of the set at D; Z: of the new one; R H z y z': the value y, added to such a set, makes it z' -/
structure Bag (X : Cx) {ζ : Type} (C : Addr → ζ → HO) (Z : ζ) (R : Hp → ζ → V → ζ → Prop) : Prop where
  new : ∀ (H : Hp) (h : Heap), ObjOk X.prog X.w H (h.push { cls := .type "set", dict := none, data := .set #[] 0 (.fresh 0 0 (!X.w.params.followText "set-order")) }) h.objs.size (C h.objs.size Z)
  add : ∀ (Y : Cx) (pins : List (Addr × Obj)) (σ : L2.St) (H : Hp) (s : Shared) (D : Addr) (z z' : ζ) (y : V) (u : Value) (Q : Value → Shared → Prop) (E : Value → Shared → Prop), Y.prog = X.prog → Y.w = X.w → Y.K = X.K → Y.A = X.A →
    L2.Inv Y pins σ H s → H D = some (C D z) → RelV y u → R H z y z' → (∀ s', L2.Inv Y pins σ (upd H D (C D z')) s' → Q .none s') → wpAny (model X.prog X.w) X.A (call (.builtin "set.add") [.ref D, u]) Q E s
/-- one turn's wish -/
def ScTurn {ζ : Type} (C : Addr → ζ → HO) (R : Hp → ζ → V → ζ → Prop) (D : Addr) (g : TG) (te : TE) (vs : List Nat) (σ : L2.St) (J : It) (i : Nat) (H : Hp) (Nx : Hp → Prop) : Prop :=
  ∀ x H', J.yld i H x H' → g x (wipe σ vs) H' fun σ2 H2 => wipe σ2 vs = wipe σ vs ∧ te σ2 H2 fun y H4 => ∃ z z', H4 D = some (C D z) ∧ R H4 z y z' ∧ Nx (upd H4 D (C D z'))
def ScGoal {ζ : Type} (C : Addr → ζ → HO) (Z : ζ) (R : Hp → ζ → V → ζ → Prop) (g : TG) (te : TE) (vs : List Nat) (σ : L2.St) (J : It) (H1 : Hp) (D : Addr) (Qd : Hp → Prop) : Prop :=
  ∃ W : Nat → Nat → Hp → Prop, (∃ m, W 0 m (upd H1 D (C D Z))) ∧ ∀ i m H, W i m H →
    (J.stop i H ∧ Qd H) ∨ (J.go i H ∧ ∃ Nx : Hp → Prop, (∀ H', Nx H' → ∃ m', m' < m ∧ W (i + 1) m' H') ∧ ScTurn C R D g te vs σ J i H Nx)
def tScB {ζ : Type} (C : Addr → ζ → HO) (Z : ζ) (R : Hp → ζ → V → ζ → Prop) (wi : TI) (g : TG) (te : TE) (vs : List Nat) : TE := fun σ H Q => wi σ H fun J H1 => ∀ D, H1 D = none → ScGoal C Z R g te vs σ J H1 D fun H' => Q (.ref D) H'
section
variable {X : Cx} {ζ : Type} {C : Addr → ζ → HO} {Z : ζ} {R : Hp → ζ → V → ζ → Prop}
/-- the block's loop: from the state at a turn's head to the block's end -/
theorem sc_loop {Y : Cx} {elt tg iter : Expr} {scope : Scope} {pos : Pos} {g : TG} {te : TE} {vs : List Nat} {σ : L2.St} {J : It} {D it : Addr} {fp : List Addr} {tn : Nat → Heap → Prop} {W : Nat → Nat → Hp → Prop} {Qd : Hp → Prop} {Rs : Result → Shared → Prop}
    (B : Bag X C Z R) (hp : Y.prog = X.prog) (hw : Y.w = X.w) (hk : Y.K = X.K) (hA : Y.A = X.A) (hc : Y.calm = true) (hexc : Y.xe = fun _ _ => False) (hpn : Y.pn = []) (hex : ∀ b ∈ fp, b ∈ Y.ex)
    (T : Turn X.prog X.w X.K tg J fp it tn) (pg : PG Y tg g) (pe : PE Y elt te)
    (turns : ∀ i m H, W i m H → (J.stop i H ∧ Qd H) ∨ (J.go i H ∧ ∃ Nx : Hp → Prop, (∀ H', Nx H' → ∃ m', m' < m ∧ W (i + 1) m' H') ∧ ScTurn C R D g te vs σ J i H Nx))
    (done : ∀ s H, L2.Inv Y [] (wipe σ vs) H s → Qd H → Rs (.ok .next) s) {m0 : Nat} {H0 : Hp} {s0 : Shared} (I0 : L2.Inv Y [] (wipe σ vs) H0 s0) (t0 : tn 0 s0.heap) (n0 : ∀ b ∈ fp, H0 b = none) (w0 : W 0 m0 H0) :
    codeAny (model X.prog X.w) X.A (.compLoop (.SetComp elt [⟨tg, iter, [], 0⟩] scope pos) 0 (.ref it) (.ref D) Y.env) Rs s0 := by
  have free : ∀ {σ' : L2.St} {H' : Hp} {s' : Shared}, L2.Inv Y [] σ' H' s' → (∀ b ∈ fp, H' b = none) → ∀ b ∈ fp, FpOk Y [] H' b := fun {σ' H' s'} I' hn b hb =>
    ⟨hn b hb, (I'.ok.exf b (hex b hb)).1, I'.ok.exfs b (hex b hb), .inl (hex b hb), fun x c e => (I'.ok.exf b (hex b hb)).2 x c e, fun p hp' => by rw [hpn] at hp'; cases hp'⟩
  refine compLoopS_any (fun n s' => ∃ i H', L2.Inv Y [] (wipe σ vs) H' s' ∧ tn i s'.heap ∧ (∀ b ∈ fp, H' b = none) ∧ W i n H') ?_ m0 ⟨0, H0, I0, t0, n0, w0⟩
  rintro n s1 ⟨i, H1, I1, t1, n1, w1⟩
  rcases turns i n H1 w1 with ⟨st, q⟩ | ⟨go, Nx, hN, turn⟩
  · have td := T.done Y hp hw hk hc i [] s1 _ H1 (fun _ _ => False) I1 (free I1 n1) t1 st
    rw [hA] at td
    refine thnF td fun r s2 hr => ?_
    obtain ⟨rfl, I2⟩ := hr
    exact done s2 H1 I2 q
  · have ti := T.item Y hp hw hk hc i [] s1 _ H1 (fun _ _ => False) I1 (free I1 n1) t1 go
    rw [hA] at ti
    refine thnF ti fun r s2 hr => ?_
    obtain ⟨u, rfl, h2⟩ := hr
    refine thnF h2 fun _ s3 h3 => ?_
    obtain ⟨x, H3, I3, r3, y3, t3, n3⟩ := h3
    have J3 := I3.pinned (free I3 n3) (T.obj _ _ t3)
    have a1 := pg.run _ s3 _ H3 x u _ J3 r3 (turn x H3 y3)
    rw [hp, hw, hA, hexc] at a1
    refine thnF a1 fun _ s4 h4 => ?_
    obtain ⟨σ4, H4, I4, e4, q4⟩ := h4
    refine wpAny_tests_nil ?_
    rw [if_pos rfl]
    have a2 := pe.run _ s4 σ4 H4 _ I4 q4
    rw [hp, hw, hA, hexc] at a2
    refine thnF a2 fun z s5 h5 => ?_
    obtain ⟨yv, H5, I5, r5, z1, z2, hD, hR, nx⟩ := h5
    refine B.add Y _ _ _ _ D z1 z2 yv z _ _ hp hw hk hA I5 hD r5 hR fun s6 I6 => ?_
    obtain ⟨m', hm, w'⟩ := hN _ nx
    have stay : ∀ b ∈ fp, ∀ o, s3.heap.get? b = some o → s6.heap.get? b = some o ∧ upd H5 D (C D z2) b = none := fun b hb o e => by
      have q := I6.pin (b, o) (List.mem_append_right _ (List.mem_append_right _ (mem_pinsAt hb e)))
      exact ⟨q.1, q.2.1⟩
    have wl : (wipe σ vs).length = σ4.length := by rw [← e4, wipe_length]
    refine ⟨m', hm, i + 1, _, (I6.unpinned (pins := [])).weak wl (fun j v e => ?_), T.keep _ _ _ t3 fun b hb o e => (stay b hb o e).1, fun b hb => ?_, w'⟩
    · rw [← e4] at e
      exact (wipe_some e).1
    · obtain ⟨o, e, _⟩ := T.obj _ _ t3 b hb
      exact (stay b hb o e).2
theorem pe_scB {elt tg iter : Expr} {scope : Scope} {own : List (PySem.Str × Nat)} {pos : Pos} {wi : TI} {g : TG} {te : TE} (B : Bag X C Z R) (hc : X.calm = true) (hN : X.N.Nodup) (hi : PI X tg iter wi) (ok : BlkOk X.N X.env.scope scope own)
    (hg : ∀ (s : Shared) (H : Hp) (c : Addr) (cl : List (PySem.Str × Addr)) (fp : List Addr), PG (X.blk s H scope (compEnvC scope cl c X.env) fp) tg g)
    (he : ∀ (s : Shared) (H : Hp) (c : Addr) (cl : List (PySem.Str × Addr)) (fp : List Addr), PE (X.blk s H scope (compEnvC scope cl c X.env) fp) elt te) (hs : ∀ x, foldedSetIterable iter X.env x = pure x := by intro _; rfl) :
    PE X (.SetComp elt [⟨tg, iter, [], 0⟩] scope pos) (tScB C Z R wi g te (own.map (·.2))) := by
  refine ⟨fun pins s σ H Q I h => ?_⟩
  rw [eval_SetComp]
  have cells : ∀ y ∈ scope.names, y.2 = .free → ∃ c, X.env.cells.lookup y.1 = some c := fun y hy e => (ok.free y hy e).elim (fun k => I.ok.has _ (.inl k)) fun k => I.ok.has _ (.inr k)
  refine wpAny_comprehension_free (use := none) rfl hs (closure_ok cells) ok.kind (fun y hy e => by rw [ok.uniq y hy, e]) (thn (hi.run pins s σ H _ I h) fun xv s1 h1 => thn h1 fun iv s2 h2 => ?_)
  obtain ⟨it, fp, tn, J, H2, rfl, I2, T, t2, f2, q⟩ := h2
  refine newSet_ok (newEnv_comp ?_)
  have hDn : H2 s2.heap.objs.size = none := I2.hok.fresh (Nat.le_refl _)
  obtain ⟨W, ⟨m0, w0⟩, turns⟩ := q _ hDn
  generalize hO : ({ cls := .type "set", dict := none, data := .set #[] 0 (.fresh 0 0 (!X.w.params.followText "set-order")) } : Obj) = O
  have I3 : L2.Inv X pins σ (upd H2 s2.heap.objs.size (C s2.heap.objs.size Z)) { s2 with heap := s2.heap.push O } :=
    I2.laid (t' := s2.toks) (fun b o e => Heap.get?_push_of_some _ e) (Nat.le_refl _) (by rw [← hO]; exact B.new _ _)
  have low : ∀ b ∈ fp, b < s2.heap.objs.size := fun b hb => by
    obtain ⟨o, e, _⟩ := T.obj _ _ t2 b hb
    exact Heap.lt_size e
  have f3 : ∀ b ∈ fp, FpOk X pins (upd H2 s2.heap.objs.size (C s2.heap.objs.size Z)) b ∧ b < (s2.heap.push O).objs.size := fun b hb =>
    ⟨⟨(upd_ne (Nat.ne_of_lt (low b hb))).trans (f2 b hb).1, (f2 b hb).2⟩, by rw [Heap.size_push]; exact Nat.lt_succ_of_lt (low b hb)⟩
  have I4 := block_start I3 ok hN f3
  have kp : ∀ b o, s2.heap.get? b = some o → (pushCells ((s2.heap.push O).push { cls := .type "dict", data := .dict #[] }) scope.names).get? b = some o := fun b o e =>
    pushCells_keeps _ _ _ _ (Heap.get?_push_of_some _ (Heap.get?_push_of_some _ e))
  have t4 := T.keep _ _ _ t2 fun b _ o e => kp b o e
  refine codeAny_compStart_set ?_ (T.self X.A 0 _ _ _ t4 ?_)
  all_goals
    refine sc_loop (Y := X.blk _ _ scope _ fp) B rfl rfl rfl rfl hc rfl rfl (fun b hb => hb) T (hg _ _ _ _ _) (he _ _ _ _ _) turns (fun s6 H6 I6 qd => ?_) I4 t4 (fun b hb => (f3 b hb).1.1) w0
    obtain ⟨m, hn, _⟩ := I6.loc
    have nC : H6 (s2.heap.push O).objs.size = none := I6.free
    have I7 : L2.Inv X pins σ H6 s6 := I3.call' (ch := fp) I6.os I6.base I6.hok I6.bare fun b hb => ⟨(f3 b hb).1.2.2.2.1, (f3 b hb).1.2.1, (f3 b hb).1.2.2.2.2.1, (f3 b hb).1.2.2.2.2.2⟩
    obtain ⟨k0, k1, k2, k3, k4, k5⟩ := I3.fpOk (Nat.le_refl _) nC
    exact ⟨m, hn, fun h'' sb => ⟨.ref _, H6, I7.turned (t' := s6.toks) (fun b o hb e => (sb.2 b hb).trans e) k0 k1 k3 k4 k5, rfl, qd⟩⟩
end
/-! ### the set of keys, by the list of those that it holds -/
def kMem (l : List Key) (k : Key) : Bool := l.any fun j => decide (j = k)
def addKey (l : List Key) (k : Key) : List Key := if kMem l k = true then l else l ++ [k]
def KeySet (P : Program) (w : World) (a : Addr) (l : List Key) : HO := SetK P w a (kMem l) l.length
theorem kMem_iff {l : List Key} {k : Key} : kMem l k = true ↔ k ∈ l := by
  unfold kMem
  rw [List.any_eq_true]
  constructor
  · rintro ⟨j, hj, e⟩
    rw [← of_decide_eq_true e]; exact hj
  · intro h
    exact ⟨k, h, decide_eq_true rfl⟩
theorem keySet_add (l : List Key) (k : Key) : (fun j => kMem l j || decide (j = k)) = kMem (addKey l k) := by
  funext j
  rw [Bool.eq_iff_iff, Bool.or_eq_true, decide_eq_true_eq, kMem_iff, kMem_iff]
  unfold addKey
  by_cases h : kMem l k = true
  · rw [if_pos h]
    have h2 := kMem_iff.mp h
    constructor
    · rintro (q | q)
      · exact q
      · rw [q]; exact h2
    · exact .inl
  · rw [if_neg h, List.mem_append, List.mem_singleton]
theorem keySet_len (l : List Key) (k : Key) : (if kMem l k = true then l.length else l.length + 1) = (addKey l k).length := by
  unfold addKey
  by_cases h : kMem l k = true
  · rw [if_pos h, if_pos h]
  · rw [if_neg h, if_neg h, List.length_append, List.length_singleton]
def RKey : Hp → List Key → V → List Key → Prop := fun _ l y l' => ∃ k : Key, y = kV k ∧ l.length + 1 < scanBound ∧ l' = addKey l k
theorem bagKey {X : Cx} : Bag X (KeySet X.prog X.w) [] RKey where
  new := fun H h => setK_new ⟨_, #[], 0, _, Heap.get?_push_size _ rfl, ⟨rfl, rfl, rfl⟩, rfl, (fun e he => by simp at he), (fun k => by simp [kMem]), (by decide), (by rfl), rfl⟩
  add := fun Y pins σ H s D l l' y u Q E hp hw hk hA I hD r hR hq => by
    obtain ⟨k, rfl, room, rfl⟩ := hR
    have g : s.heap.SetOf (mixKind X.prog X.w) D (kMem l) l.length := by
      have q := (I.hok D _ hD).1
      exact q
    refine call_set_add (kV_is r) (key_scan r) g room fun h' sb new => ?_
    have ex : ∃ o, h'.get? D = some o := by
      have ⟨o, _, _, _, ho, _⟩ := new
      exact ⟨o, ho⟩
    rw [keySet_add, keySet_len] at new
    refine hq _ (I.write (e := D) (t' := s.toks + 1) (by rw [hD]; trivial) (.inl rfl) (fun b o hb e => (sb.2 b hb).trans e) ex ?_)
    rw [hp, hw]
    exact setK_new new
/-- len of such a set -/
def rLenK (P : Program) (w : World) : List V → Hp → VK → Prop := fun xs H Q => ∃ a l, xs = [.ref a] ∧ H a = some (KeySet P w a l) ∧ Q (.int (l.length : Nat)) H
theorem call_lenK {X : Cx} : CallR X (.builtin "len") (rLenK X.prog X.w) := by
  intro pins s σ H xs us Q I r h
  obtain ⟨a, l, rfl, ha, q⟩ := h
  cases r with
  | cons r0 rt =>
    cases rt
    cases r0
    obtain ⟨o, es, ep, t, ho, hx, hd, _, _, hb, hf, hn⟩ := (I.hok a _ ha).1
    refine call_len_set ho hx hd hf ?_ ?_
    · have h1 : es.size < scanBound := hb
      have h2 : scanBound ≤ 2 ^ 62 := by decide
      omega
    · rw [hn]
      exact ⟨.int (l.length : Nat), H, I.tok _, ⟨_, rfl⟩, q⟩
/-- over data: the keys in turn -/
theorem sc_keys {P : Program} {w : World} {K : PySem.W.Frag} {J : It} {xs : List V} {ds : List PyData} {G : Hp → Prop} (wk : Walk J xs.length G (YAt xs)) {g : TG} {te : TE} {vs : List Nat} {σ : L2.St} {H1 : Hp} {D : Addr} {Qd : Hp → Prop} {ms : List Addr}
    (hD : H1 D = none) (hn : ds.length < 4000) (ha : DpAll K (hide H1 ms) xs ds) (hG : ∀ H, Same H1 H → G H) (key : PyData → Key)
    (step : ∀ x d H (Q : VK), d ∈ ds → Same H1 H → Dp K (hide H ms) x d → (∀ H4, Same H H4 → Q (kV (key d)) H4) → g x (wipe σ vs) H fun σ2 H2 => wipe σ2 vs = wipe σ vs ∧ te σ2 H2 Q)
    (done : ∀ H', Same H1 H' → H' D = some (KeySet P w D ((ds.map key).foldl addKey [])) → Qd H') : ScGoal (KeySet P w) [] RKey g te vs σ J H1 D Qd := by
  have hl := DpAll.length ha
  refine ⟨fun i m H => m = xs.length - i ∧ i ≤ xs.length ∧ Same H1 H ∧ H D = some (KeySet P w D (((ds.take i).map key).foldl addKey [])), ⟨xs.length, by simp, Nat.zero_le _, same_new hD, upd_same⟩, ?_⟩
  rintro i m H ⟨rfl, hi, s1, hK⟩
  by_cases hlt : i < xs.length
  · refine .inr ⟨wk.goes i H hlt (hG H s1), fun H' => Same H1 H' ∧ H' D = some (KeySet P w D (((ds.take (i + 1)).map key).foldl addKey [])), fun H' q => ⟨xs.length - (i + 1), by omega, rfl, hlt, q⟩, fun x H' y => ?_⟩
    obtain ⟨e0, ex⟩ := wk.yields i H x H' hlt (hG H s1) y
    subst e0
    obtain ⟨d, ed, hd⟩ := DpAll.at ha ex
    refine step x d _ _ (List.mem_of_getElem? ed) s1 (Dp.mono (Same.hide s1 ms) hd) fun H4 s4 => ?_
    have hz : (((ds.take i).map key).foldl addKey []).length ≤ i := by
      have q : ∀ (l : List Key) (a : List Key), (l.foldl addKey a).length ≤ a.length + l.length := by
        intro l
        induction l with
        | nil => intro a; simp
        | cons k l ih =>
          intro a
          have q1 := ih (addKey a k)
          have q2 : (addKey a k).length ≤ a.length + 1 := by unfold addKey; split <;> simp
          rw [List.foldl_cons, List.length_cons]
          omega
      have q3 := q ((ds.take i).map key) []
      rw [List.length_map, List.length_take, List.length_nil] at q3
      omega
    refine ⟨_, _, s4 _ _ hK, ⟨key d, rfl, by show _ < 4096; omega, rfl⟩, fun b o e => ?_, ?_⟩
    · rw [upd_ne (ne_of_none e hD)]
      exact s4 _ _ (s1 _ _ e)
    · rw [upd_same, List.take_succ, ed, List.map_append, List.foldl_append]
      rfl
  · have e : i = xs.length := by omega
    subst e
    rw [hl, List.take_length] at hK
    exact .inl ⟨wk.stops H (hG H s1), done H s1 hK⟩
theorem a_sc {ζ : Type} {C : Addr → ζ → HO} {Z : ζ} {R : Hp → ζ → V → ζ → Prop} {wi : TI} {g : TG} {te : TE} {vs : List Nat} {σ : L2.St} {H : Hp} {Q : VK} (h : wi σ H fun J H1 => ∀ D, H1 D = none → ScGoal C Z R g te vs σ J H1 D fun H' => Q (.ref D) H') : tScB C Z R wi g te vs σ H Q := h
end Pb

/-! PbMore -/
set_option Elab.async false
set_option linter.all false
set_option maxRecDepth 100000
set_option maxHeartbeats 4000000
/-! Pb: more rules: list + list whatever they are, dicts made by comprehension, parallel assignment -/
namespace Pb
open PySem PySem.Spec PyProof.Rows L2
/-! ### list + list -/
def rCatS (K : PySem.W.Frag) : R2 := fun x y H Q => ∃ l b xs zs, x = .ref l ∧ y = .ref b ∧ SqL K H l xs ∧ SqL K H b zs ∧ xs.length + zs.length ≤ sizeLine ∧ ∀ p, H p = none → Q (.ref p) (upd H p (.lst (xs ++ zs)))
section
variable {X : Cx}
theorem meets_catS (l : Addr) (items : Array Value) (n : Nat) (sl : Array (Option Value)) (b : Addr) (items2 : Array Value) (n2 : Nat) (sl2 : Array (Option Value)) (hc0 : items.size + items2.size ≤ sizeLine) :
    Meets (Builtin.«list.__add__» ⟨[.ref l, .ref b], []⟩) (fun _ R s => s.heap.get? l = some { cls := .type "list", dict := none, data := .seq items n, slots := sl } ∧ s.heap.get? b = some { cls := .type "list", dict := none, data := .seq items2 n2, slots := sl2 } ∧ R (.ok (.ret (Value.ref s.heap.objs.size))) { s with heap := s.heap.push { cls := Value.type "list", data := Data.seq (items ++ items2) } }) :=
  .of_wp fun prog w A R s hh => by
    have g1 := AutoSeq1.sub_list_list
    have g2 := AutoSeq1.idx_int
    obtain ⟨ha, hb, hr⟩ := hh
    obtain ⟨hp, g, d, tk, os⟩ := s
    wp_walk using AutoSeq1.wpAny_loadPart' ha, AutoSeq1.wpAny_loadPart' hb
    exact ⟨_, rfl, hr⟩
theorem op_catS : OpR X (binaryOp .Add) (rCatS X.K) := by
  intro pins s σ H x y v u Q I rx ry h
  obtain ⟨l, b, xs, zs, rfl, rfl, hl, hb, hz, q⟩ := h
  cases rx
  cases ry
  obtain ⟨i1, r1, ⟨⟨c1, d1, t1, sl1⟩, n1, e1, rfl, rfl, rfl⟩, z1⟩ := I.list hl
  obtain ⟨i2, r2, ⟨⟨c2, d2, t2, sl2⟩, n2, e2, rfl, rfl, rfl⟩, z2⟩ := I.list hb
  have k1 := r1.length
  have k2 := r2.length
  refine concat_meets ⟨_, e1, rfl⟩ ⟨_, e2, rfl⟩ noFill_list_add seq_list_add F.slot_list_add F.entry_list_add (F.args_list_add_2 _ _) (meets_catS l _ n1 sl1 b _ n2 sl2 (by rw [List.size_toArray, List.size_toArray]; omega)) ⟨e1, e2, ?_⟩
  have ea : i1.toArray ++ i2.toArray = (i1 ++ i2).toArray := by simp
  rw [ea]
  exact ⟨.ref _, _, I.lnew (t' := s.toks) (r1.append r2) (by rw [List.length_append]; omega), rfl, q _ I.fresh⟩
end
section
variable {K : PySem.W.Frag} {H : Hp} {Q : VK} {x y : V}
theorem a_cat {ds es : List PyData} (h1 : Dp K H x (.list ds)) (h2 : Dp K H y (.list es)) (hz : ds.length + es.length ≤ sizeLine)
    (q : ∀ p xs, H p = none → DpAll K H xs (ds ++ es) → Q (.ref p) (upd H p (.lst xs))) : rCatS K x y H Q := by
  obtain ⟨a, xs, rfl, hs, ha⟩ := dp_list h1
  obtain ⟨b, ys, rfl, hs2, hb⟩ := dp_list h2
  have e1 := DpAll.length ha
  have e2 := DpAll.length hb
  exact ⟨a, b, xs, ys, rfl, rfl, hs, hs2, by omega, fun p hp => q p _ hp (DpAll.append ha hb)⟩
end
section
variable {K : PySem.W.Frag} {H : Hp} {Q : VK} {x y : V} {ms : List Addr}
theorem a_catH {ds es : List PyData} (h1 : Dp K (hide H ms) x (.list ds)) (h2 : Dp K (hide H ms) y (.list es)) (hz : ds.length + es.length ≤ sizeLine)
    (q : ∀ p xs, H p = none → DpAll K (hide H ms) xs (ds ++ es) → Q (.ref p) (upd H p (.lst xs))) : rCatS K x y H Q := by
  obtain ⟨a, xs, rfl, hs, ha⟩ := dp_list h1
  obtain ⟨b, ys, rfl, hs2, hb⟩ := dp_list h2
  have e1 := DpAll.length ha
  have e2 := DpAll.length hb
  exact ⟨a, b, xs, ys, rfl, rfl, sqL_same same_show hs, sqL_same same_show hs2, by omega, fun p hp => q p _ hp (DpAll.append ha hb)⟩
theorem a_ixTh {ds : List PyData} {i : Int} {d : PyData} (h : Dp K (hide H ms) x (.tuple ds)) (e : atI ds i = some d) (q : ∀ u, Dp K (hide H ms) u d → Q u H) : rIx K x (.int i) H Q := by
  obtain ⟨a, xs, rfl, hs, ha⟩ := dp_tuple h
  obtain ⟨j, _, e2, e3⟩ := atI_len (DpAll.length ha) e
  obtain ⟨u, e4, hu⟩ := DpAll.get ha e2
  exact .inr (.inl ⟨a, xs, i, u, rfl, rfl, sqT_same same_show hs, e3.trans e4, q u hu⟩)
theorem a_ixLh {ds : List PyData} {i : Int} {d : PyData} (h : Dp K (hide H ms) x (.list ds)) (e : atI ds i = some d) (q : ∀ u, Dp K (hide H ms) u d → Q u H) : rIx K x (.int i) H Q := by
  obtain ⟨a, xs, rfl, hs, ha⟩ := dp_list h
  obtain ⟨j, _, e2, e3⟩ := atI_len (DpAll.length ha) e
  obtain ⟨u, e4, hu⟩ := DpAll.get ha e2
  exact .inl ⟨a, xs, i, u, rfl, rfl, sqL_same same_show hs, e3.trans e4, q u hu⟩
end
/-! ### dict comprehensions -/
def DcGoal (g : TG) (tt : TT) (tk tv : TE) (vs : List Nat) (σ : L2.St) (J : It) (H1 : Hp) (D : Addr) (Qd : Hp → Prop) : Prop :=
  ∃ W : Nat → Nat → Hp → Prop, (∃ m, W 0 m (upd H1 D (.dK []))) ∧ ∀ i m H, W i m H →
    (J.stop i H ∧ Qd H) ∨ (J.go i H ∧ ∃ Nx : Hp → Prop, (∀ H', Nx H' → ∃ m', m' < m ∧ W (i + 1) m' H') ∧ ∀ x H', J.yld i H x H' → gM g x (wipe σ vs) H' fun σ2 H2 => wipe σ2 vs = wipe σ vs ∧ tMT tt σ2 H2 fun b H3 =>
      if b = true then tM tk σ2 H3 fun y H4 => tM tv σ2 H4 fun z H5 => ∃ kvs k, y = kV k ∧ H5 D = some (.dK kvs) ∧ kvs.length < sizeLine ∧ Nx (upd H5 D (.dK (putK kvs k z))) else Nx H3)
theorem a_dc {wi : TI} {g : TG} {tt : TT} {tk tv : TE} {vs : List Nat} {σ : L2.St} {H : Hp} {Q : VK} (h : wi σ H fun J H1 => ∀ D, H1 D = none → DcGoal g tt tk tv vs σ J H1 D fun H' => Q (.ref D) H') : tDc wi (gM g) (tMT tt) (tM tk) (tM tv) vs σ H Q := h
/-- what a dict holds, key by key -/
inductive KvD (K : PySem.W.Frag) (H : Hp) : List (Key × V) → List (Key × PyData) → Prop where
  | nil : KvD K H [] []
  | cons {k : Key} {v : V} {d : PyData} {vs : List (Key × V)} {ds : List (Key × PyData)} (h : Dp K H v d) (a : KvD K H vs ds) : KvD K H ((k, v) :: vs) ((k, d) :: ds)
section
variable {K : PySem.W.Frag} {H H' : Hp}
theorem KvD.mono (s : Same H H') : ∀ {vs : List (Key × V)} {ds : List (Key × PyData)}, KvD K H vs ds → KvD K H' vs ds
  | _, _, .nil => .nil
  | _, _, .cons h a => .cons (Dp.mono s h) (KvD.mono s a)
theorem KvD.append : ∀ {vs ws : List (Key × V)} {ds es : List (Key × PyData)}, KvD K H vs ds → KvD K H ws es → KvD K H (vs ++ ws) (ds ++ es)
  | _, _, _, _, .nil, b => b
  | _, _, _, _, .cons h a, b => .cons h (KvD.append a b)
theorem KvD.keys : ∀ {vs : List (Key × V)} {ds : List (Key × PyData)}, KvD K H vs ds → vs.map (·.1) = ds.map (·.1)
  | _, _, .nil => rfl
  | _, _, .cons _ a => congrArg _ (KvD.keys a)
theorem KvD.length {vs : List (Key × V)} {ds : List (Key × PyData)} (h : KvD K H vs ds) : vs.length = ds.length := by
  have e := congrArg List.length (KvD.keys h)
  rw [List.length_map, List.length_map] at e
  exact e
/-- the entry of a key -/
def look (ds : List (Key × PyData)) (k : Key) : Option PyData := (ds.find? fun q => decide (q.1 = k)).map (·.2)
theorem KvD.get : ∀ {vs : List (Key × V)} {ds : List (Key × PyData)} {k : Key} {d : PyData}, KvD K H vs ds → look ds k = some d → ∃ v, valV vs k = some v ∧ Dp K H v d
  | _, _, _, _, .nil, e => by cases e
  | _, _, k, d, .cons (k := k0) h a, e => by
    by_cases q : k0 = k
    · unfold look at e
      rw [List.find?_cons_of_pos (by exact decide_eq_true q)] at e
      cases e
      exact ⟨_, valV_pos q, h⟩
    · unfold look at e
      rw [List.find?_cons_of_neg (by show ¬ decide (k0 = k) = true; rw [decide_eq_false q]; exact Bool.false_ne_true)] at e
      obtain ⟨v, h1, h2⟩ := KvD.get a e
      exact ⟨v, (valV_neg q).trans h1, h2⟩
theorem KvD.off : ∀ {vs : List (Key × V)} {ds : List (Key × PyData)} {k : Key}, KvD K H vs ds → look ds k = none → valV vs k = none
  | _, _, _, .nil, e => rfl
  | _, _, k, .cons (k := k0) h a, e => by
    by_cases q : k0 = k
    · unfold look at e
      rw [List.find?_cons_of_pos (by exact decide_eq_true q)] at e
      cases e
    · unfold look at e
      rw [List.find?_cons_of_neg (by show ¬ decide (k0 = k) = true; rw [decide_eq_false q]; exact Bool.false_ne_true)] at e
      exact (valV_neg q).trans (KvD.off a e)
theorem look_not {ds : List (Key × PyData)} {k : Key} (h : k ∉ ds.map (·.1)) : look ds k = none := by
  unfold look
  rw [List.find?_eq_none.mpr fun x hx => by
    rw [decide_eq_true_eq]
    exact fun z => h (List.mem_map.mpr ⟨x, hx, z⟩)]
  rfl
theorem KvD.put {vs : List (Key × V)} {ds : List (Key × PyData)} {k : Key} {v : V} {d : PyData} (h : KvD K H vs ds) (hv : Dp K H v d) (hn : k ∉ ds.map (·.1)) : KvD K H (putK vs k v) (ds ++ [(k, d)]) := by
  rw [putK_new v (KvD.off h (look_not hn))]
  exact KvD.append h (.cons hv .nil)
end
/-- a dict comprehension whose turns change nothing, over data, the keys unlike: kf the key, vf the value -/
theorem dc_data {K : PySem.W.Frag} {J : It} {xs : List V} {ds : List PyData} {G : Hp → Prop} (w : Walk J xs.length G (YAt xs)) {g : TG} {tt : TT} {tk tv : TE} {vs : List Nat} {σ : L2.St} {H1 : Hp} {D : Addr} {Qd : Hp → Prop} {ms : List Addr}
    (hD : H1 D = none) (hn : ds.length < sizeLine) (ha : DpAll K (hide H1 ms) xs ds) (hG : ∀ H, Same H1 H → G H) (kf : PyData → Key) (vf : PyData → PyData) (nd : (ds.map kf).Nodup)
    (step : ∀ x d H, d ∈ ds → Same H1 H → H D ≠ none → Dp K (hide H (D :: ms)) x d → g x (wipe σ vs) H fun σ2 H2 => wipe σ2 vs = wipe σ vs ∧ tt σ2 H2 fun b H3 => b = true ∧ tk σ2 H3 fun y H4 => y = kV (kf d) ∧ tv σ2 H4 fun z H5 => Same H H5 ∧ Dp K (hide H5 (D :: ms)) z (vf d))
    (done : ∀ H' kvs, Same H1 H' → H' D = some (.dK kvs) → KvD K (hide H' (D :: ms)) kvs (ds.map fun d => (kf d, vf d)) → Qd H') :
    DcGoal g tt tk tv vs σ J H1 D Qd := by
  have hl := DpAll.length ha
  refine ⟨fun i m H => m = xs.length - i ∧ i ≤ xs.length ∧ Same H1 H ∧ ∃ kvs, H D = some (.dK kvs) ∧ KvD K (hide H (D :: ms)) kvs ((ds.take i).map fun d => (kf d, vf d)), ⟨xs.length, by simp, Nat.zero_le _, same_new hD, [], upd_same, .nil⟩, ?_⟩
  rintro i m H ⟨rfl, hi, s1, kvs, hK, hkv⟩
  by_cases hlt : i < xs.length
  · refine .inr ⟨w.goes i H hlt (hG H s1), fun H' => Same H1 H' ∧ ∃ kvs, H' D = some (.dK kvs) ∧ KvD K (hide H' (D :: ms)) kvs ((ds.take (i + 1)).map fun d => (kf d, vf d)), fun H' q => ⟨xs.length - (i + 1), by omega, rfl, hlt, q⟩, fun x H' y => ?_⟩
    obtain ⟨e0, ex⟩ := w.yields i H x H' hlt (hG H s1) y
    subst e0
    obtain ⟨d, ed, hd⟩ := DpAll.at ha ex
    have hd2 : Dp K (hide H' (D :: ms)) x d := Dp.mono (fun b o e => by
      obtain ⟨q1, q2⟩ := hide_of e
      rw [hide_at (fun z => (List.mem_cons.mp z).elim (fun k => by rw [k, hD] at q1; cases q1) q2)]
      exact s1 _ _ q1) hd
    refine ⟨_, step x d _ (List.mem_of_getElem? ed) s1 (by rw [hK]; exact fun z => nomatch z) hd2, fun σ2 H2 q => ⟨q.1, _, q.2, fun b H3 q => ?_⟩⟩
    obtain ⟨rfl, q⟩ := q
    refine iteT ⟨_, q, fun y H4 q => ⟨_, q.2, fun z H5 r => ?_⟩⟩
    obtain ⟨ey, _⟩ := q
    obtain ⟨s5, hz⟩ := r
    have h5 : H5 D = some (.dK kvs) := s5 _ _ hK
    have hlk := KvD.length hkv
    rw [List.length_map, List.length_take] at hlk
    refine ⟨kvs, kf d, ey, h5, by omega, (fun b o z => by rw [upd_ne (ne_of_none z hD)]; exact s5 _ _ (s1 _ _ z)), _, upd_same, ?_⟩
    rw [hide_upd (List.mem_cons_self ..), List.take_succ, ed, List.map_append]
    refine KvD.put (KvD.mono (Same.hide s5 _) hkv) hz ?_
    rw [List.map_map]
    intro hm
    have e1 : ds.take (i + 1) = ds.take i ++ [d] := by rw [List.take_succ, ed]; rfl
    have nd2 : ((ds.take (i + 1)).map kf).Nodup := nd.sublist ((List.take_sublist _ _).map kf)
    rw [e1, List.map_append] at nd2
    exact (List.nodup_append.mp nd2).2.2 _ hm _ (List.mem_singleton.mpr rfl) rfl
  · have e : i = xs.length := by omega
    subst e
    refine .inl ⟨w.stops H (hG H s1), ?_⟩
    rw [hl, List.take_length] at hkv
    exact done H kvs s1 hK hkv
/-! ### a list comprehension of two loops -/
def iM (wi : TI) : TI := fun σ H Q => ∃ Q' : It → Hp → Prop, wi σ H Q' ∧ ∀ J H', Q' J H' → Q J H'
theorem pi_m {X : Cx} {tg iter : Expr} {wi : TI} (h : PI X tg iter wi) : PI X tg iter (iM wi) := ⟨fun pins s σ H R I hw => by
  obtain ⟨Q', h1, m⟩ := hw
  refine thn (h.run pins s σ H Q' I h1) fun v s1 h2 => thn h2 fun u s2 h3 => ?_
  obtain ⟨it, fp, tn, J, H2, e, I2, T, t2, f2, q⟩ := h3
  exact ⟨it, fp, tn, J, H2, e, I2, T, t2, f2, m _ _ q⟩⟩
def Lc2Goal (g : TG) (tt : TT) (wi1 : TI) (g1 : TG) (tt1 : TT) (te : TE) (vs vs1 : List Nat) (σ : L2.St) (J : It) (H1 : Hp) (D : Addr) (Qd : Hp → Prop) : Prop :=
  ∃ W : Nat → Nat → Hp → Prop, (∃ m, W 0 m (upd H1 D (.lst []))) ∧ ∀ i m H, W i m H →
  (J.stop i H ∧ Qd H) ∨ (J.go i H ∧ ∃ Nx : Hp → Prop, (∀ H', Nx H' → ∃ m', m' < m ∧ W (i + 1) m' H') ∧ ∀ x H', J.yld i H x H' → gM g x (wipe σ vs) H' fun σ2 H2 => wipe σ2 vs = wipe σ vs ∧ tMT tt σ2 H2 fun b H3 =>
    if b = true then iM wi1 σ2 H3 fun J1 H4 => ∃ W1 : Nat → Nat → Hp → Prop, (∃ m, W1 0 m H4) ∧ ∀ j k H, W1 j k H →
      (J1.stop j H ∧ Nx H) ∨ (J1.go j H ∧ ∃ Nx1 : Hp → Prop, (∀ H', Nx1 H' → ∃ k', k' < k ∧ W1 (j + 1) k' H') ∧ ∀ x H', J1.yld j H x H' → gM g1 x (wipe σ2 vs1) H' fun σ3 H5 => wipe σ3 vs1 = wipe σ2 vs1 ∧ tMT tt1 σ3 H5 fun b H6 =>
        if b = true then tM te σ3 H6 fun y H7 => ∃ acc, H7 D = some (.lst acc) ∧ acc.length < sizeLine ∧ Nx1 (upd H7 D (.lst (acc ++ [y]))) else Nx1 H6)
    else Nx H3)
theorem a_lc2 {wi wi1 : TI} {g g1 : TG} {tt tt1 : TT} {te : TE} {vs vs1 : List Nat} {σ : L2.St} {H : Hp} {Q : VK} (h : wi σ H fun J H1 => ∀ D, H1 D = none → Lc2Goal g tt wi1 g1 tt1 te vs vs1 σ J H1 D fun H' => Q (.ref D) H') : tLc2 wi (gM g) (tMT tt) (iM wi1) (gM g1) (tMT tt1) (tM te) vs vs1 σ H Q := h
/-- over data, nothing left out: sf the inner loop's source, ef what is told -/
theorem lc2_data {K : PySem.W.Frag} {J : It} {xs : List V} {ds : List PyData} {G : Hp → Prop} (w : Walk J xs.length G (YAt xs)) {g g1 : TG} {tt tt1 : TT} {wi1 : TI} {te : TE} {vs vs1 : List Nat} {σ : L2.St} {H1 : Hp} {D : Addr} {Qd : Hp → Prop} {ms : List Addr}
    (hD : H1 D = none) (N : Nat) (ha : DpAll K (hide H1 ms) xs ds) (hG : ∀ H, Same H1 H → G H) (sf : PyData → List PyData) (ef : PyData → PyData → PyData) (hN : ∀ d ∈ ds, (sf d).length ≤ N) (hn : ds.length * N < sizeLine)
    (step : ∀ x d H, d ∈ ds → Same H1 H → H D ≠ none → Dp K (hide H (D :: ms)) x d → g x (wipe σ vs) H fun σ2 H2 => wipe σ2 vs = wipe σ vs ∧ tt σ2 H2 fun b H3 => b = true ∧ wi1 σ2 H3 fun J1 H4 => Same H H4 ∧ ∃ (xs1 : List V) (G1 : Hp → Prop),
      Walk J1 xs1.length G1 (YAt xs1) ∧ DpAll K (hide H4 (D :: ms)) xs1 (sf d) ∧ (∀ H5, Same (hide H4 [D]) (hide H5 [D]) → G1 H5) ∧
      ∀ y e H5, e ∈ sf d → Same (hide H4 [D]) (hide H5 [D]) → H5 D ≠ none → Dp K (hide H5 (D :: ms)) y e → g1 y (wipe σ2 vs1) H5 fun σ3 H6 => wipe σ3 vs1 = wipe σ2 vs1 ∧ tt1 σ3 H6 fun b H7 => b = true ∧ te σ3 H7 fun z H8 => Same H5 H8 ∧ Dp K (hide H8 (D :: ms)) z (ef d e))
    (done : ∀ H' ys, Same H1 H' → H' D = some (.lst ys) → DpAll K (hide H' (D :: ms)) ys (ds.map fun d => (sf d).map (ef d)).flatten → Qd H') :
    Lc2Goal g tt wi1 g1 tt1 te vs vs1 σ J H1 D Qd := by
  have hl := DpAll.length ha
  have hDm : ∀ {H : Hp} {b : Addr} {o : HO}, hide H (D :: ms) b = some o → hide H [D] b = some o := fun {H b o} e => by
    obtain ⟨q1, q2⟩ := hide_of e
    rw [hide_at fun z => q2 (List.mem_cons.mpr (.inl (List.mem_singleton.mp z)))]
    exact q1
  have wide : ∀ {A B : Hp}, Same (hide A [D]) (hide B [D]) → Same (hide A (D :: ms)) (hide B (D :: ms)) := fun {A B} s b o e => by
    obtain ⟨q1, q2⟩ := hide_of e
    obtain ⟨q3, q4⟩ := hide_of (s b o (hDm e))
    rw [hide_at q2]
    exact q3
  have cut : ∀ {A B : Hp}, Same H1 A → Same (hide A [D]) (hide B [D]) → Same H1 B := fun {A B} s1 s b o e => by
    have hb : b ∉ [D] := fun z => by rw [List.mem_singleton.mp z, hD] at e; cases e
    have q := s b o (by rw [hide_at hb]; exact s1 b o e)
    rw [hide_at hb] at q
    exact q
  refine ⟨fun i m H => m = xs.length - i ∧ i ≤ xs.length ∧ Same H1 H ∧ ∃ acc, H D = some (.lst acc) ∧ acc.length ≤ i * N ∧ DpAll K (hide H (D :: ms)) acc ((ds.take i).map fun d => (sf d).map (ef d)).flatten, ⟨xs.length, by simp, Nat.zero_le _, same_new hD, [], upd_same, Nat.zero_le _, .nil⟩, ?_⟩
  rintro i m H ⟨rfl, hi, s1, acc, hK, hz, hkv⟩
  by_cases hlt : i < xs.length
  · refine .inr ⟨w.goes i H hlt (hG H s1), fun H => Same H1 H ∧ ∃ acc, H D = some (.lst acc) ∧ acc.length ≤ (i + 1) * N ∧ DpAll K (hide H (D :: ms)) acc ((ds.take (i + 1)).map fun d => (sf d).map (ef d)).flatten, fun H' q => ⟨xs.length - (i + 1), by omega, rfl, hlt, q⟩, fun x H' y => ?_⟩
    obtain ⟨e0, ex⟩ := w.yields i H x H' hlt (hG H s1) y
    subst e0
    obtain ⟨d, ed, hd⟩ := DpAll.at ha ex
    have hd2 : Dp K (hide H' (D :: ms)) x d := Dp.mono (fun b o e => by
      obtain ⟨q1, q2⟩ := hide_of e
      rw [hide_at (fun z => (List.mem_cons.mp z).elim (fun k => by rw [k, hD] at q1; cases q1) q2)]
      exact s1 _ _ q1) hd
    have hdm := List.mem_of_getElem? ed
    have hNd := hN d hdm
    have hil : i < ds.length := by omega
    have hbig : (i + 1) * N ≤ ds.length * N := Nat.mul_le_mul_right N hil
    have hsucc : (i + 1) * N = i * N + N := Nat.succ_mul i N
    have etake : ((ds.take (i + 1)).map fun d => (sf d).map (ef d)).flatten = ((ds.take i).map fun d => (sf d).map (ef d)).flatten ++ (sf d).map (ef d) := by
      rw [List.take_succ, ed, List.map_append, List.flatten_append]
      simp
    refine ⟨_, step x d _ hdm s1 (by rw [hK]; exact fun z => nomatch z) hd2, fun σ2 H2 q => ⟨q.1, _, q.2, fun b H3 q => ?_⟩⟩
    obtain ⟨rfl, q⟩ := q
    refine iteT ⟨_, q, fun J1 H4 q => ?_⟩
    obtain ⟨s4, xs1, G1, w1, ha1, hG1, st⟩ := q
    have hK4 : H4 D = some (.lst acc) := s4 _ _ hK
    have hl1 := DpAll.length ha1
    refine ⟨fun j k H5 => k = xs1.length - j ∧ j ≤ xs1.length ∧ Same (hide H4 [D]) (hide H5 [D]) ∧ ∃ acc', H5 D = some (.lst acc') ∧ acc'.length ≤ i * N + j ∧ DpAll K (hide H5 (D :: ms)) acc' (((ds.take i).map fun d => (sf d).map (ef d)).flatten ++ ((sf d).take j).map (ef d)), ⟨xs1.length, by simp, Nat.zero_le _, Same.refl _, acc, hK4, by omega, ?_⟩, ?_⟩
    · rw [List.take_zero, List.map_nil, List.append_nil]
      exact DpAll.mono (Same.hide s4 _) hkv
    rintro j k H5 ⟨rfl, hj, s5, acc5, hK5, hz5, hkv5⟩
    by_cases hlt1 : j < xs1.length
    · refine .inr ⟨w1.goes j H5 hlt1 (hG1 H5 s5), fun H5 => Same (hide H4 [D]) (hide H5 [D]) ∧ ∃ acc', H5 D = some (.lst acc') ∧ acc'.length ≤ i * N + (j + 1) ∧ DpAll K (hide H5 (D :: ms)) acc' (((ds.take i).map fun d => (sf d).map (ef d)).flatten ++ ((sf d).take (j + 1)).map (ef d)), fun H' q => ⟨xs1.length - (j + 1), by omega, rfl, hlt1, q⟩, fun y H6 yy => ?_⟩
      obtain ⟨e0, ey⟩ := w1.yields j H5 y H6 hlt1 (hG1 H5 s5) yy
      subst e0
      obtain ⟨e, ee, he⟩ := DpAll.at ha1 ey
      refine ⟨_, st y e _ (List.mem_of_getElem? ee) s5 (by rw [hK5]; exact fun z => nomatch z) (Dp.mono (wide s5) he), fun σ3 H6 q => ⟨q.1, _, q.2, fun b H7 q => ?_⟩⟩
      obtain ⟨rfl, q⟩ := q
      refine iteT ⟨_, q, fun z H8 r => ?_⟩
      obtain ⟨s8, hzv⟩ := r
      refine ⟨acc5, s8 _ _ hK5, by omega, ?_, _, upd_same, by rw [List.length_append, List.length_singleton]; omega, ?_⟩
      · rw [hide_upd (List.mem_singleton.mpr rfl)]
        exact s5.trans (Same.hide s8 _)
      · rw [hide_upd (List.mem_cons_self ..), List.take_succ, ee, List.map_append, ← List.append_assoc]
        exact DpAll.append (DpAll.mono (Same.hide s8 _) hkv5) (.cons hzv .nil)
    · have e : j = xs1.length := by omega
      subst e
      refine .inl ⟨w1.stops H5 (hG1 H5 s5), cut (s1.trans s4) s5, acc5, hK5, by omega, ?_⟩
      rw [etake]
      rw [hl1, List.take_length] at hkv5
      exact hkv5
  · have e : i = xs.length := by omega
    subst e
    refine .inl ⟨w.stops H (hG H s1), ?_⟩
    rw [hl, List.take_length] at hkv
    exact done H acc s1 hK hkv
/-! ### data that == may look at -/
def Shp (n : Nat) (d : PyData) : Prop := d.canLay0 = true ∧ d.depth ≤ n
theorem shp_int {n : Nat} {i : Int} : Shp n (.int i) := ⟨by simp [PyData.canLay0], by simp [PyData.depth]⟩
theorem shp_bool {n : Nat} {i : Bool} : Shp n (.bool i) := ⟨by simp [PyData.canLay0], by simp [PyData.depth]⟩
theorem shp_none {n : Nat} : Shp n .none := ⟨by simp [PyData.canLay0], by simp [PyData.depth]⟩
theorem shp_str {n : Nat} {x : Str} (h : PyData.strOk x = true) : Shp n (.str x) := ⟨by simpa [PyData.canLay0] using h, by simp [PyData.depth]⟩
theorem shp_all {n : Nat} : ∀ {ds : List PyData}, (∀ d ∈ ds, Shp n d) → PyData.canLayAll0 ds = true ∧ PyData.depthAll ds ≤ n
  | [], _ => ⟨by simp [PyData.canLayAll0], by simp [PyData.depthAll]⟩
  | d :: ds, h => by
    have h1 := h d (List.mem_cons_self ..)
    have h2 := shp_all (ds := ds) fun e he => h e (List.mem_cons_of_mem _ he)
    refine ⟨by simp [PyData.canLayAll0, h1.1, h2.1], ?_⟩
    have a := h1.2
    have b := h2.2
    simp only [PyData.depthAll]
    omega
theorem shp_list {n : Nat} {ds : List PyData} (h : ∀ d ∈ ds, Shp n d) : Shp (n + 1) (.list ds) := by
  have q := shp_all h
  exact ⟨by simpa [PyData.canLay0] using q.1, by simp only [PyData.depth]; omega⟩
theorem shp_tup {n : Nat} {ds : List PyData} (h : ∀ d ∈ ds, Shp n d) : Shp (n + 1) (.tuple ds) := by
  have q := shp_all h
  exact ⟨by simpa [PyData.canLay0] using q.1, by simp only [PyData.depth]; omega⟩
theorem Shp.mono {n m : Nat} {d : PyData} (h : Shp n d) (e : n ≤ m) : Shp m d := ⟨h.1, Nat.le_trans h.2 e⟩
theorem shaped_of {n : Nat} {d : PyData} (h : Shp n d) (e : n ≤ 64) : SeqAt.shaped d = true := by
  unfold SeqAt.shaped
  rw [h.1, decide_eq_true (Nat.le_trans h.2 e)]
  rfl
theorem shaped_strs {ls : List Str} (h : ∀ l ∈ ls, PyData.strOk l = true) : SeqAt.shaped (.list (ls.map PyData.str)) = true := shaped_of (n := 1) (shp_list fun d hd => by
  obtain ⟨l, hl, e⟩ := List.mem_map.mp hd
  rw [← e]
  exact shp_str (h l hl)) (by decide)
theorem eqv_nil_strs : ∀ (ls : List Str), PyData.eqv (.list (ls.map PyData.str)) (.list []) = decide (ls = [])
  | [] => by simp [PyData.eqv, PyData.eqvAll]
  | l :: ls => by simp [PyData.eqv, PyData.eqvAll]
/-! ### len of a dict -/
def rLenDK : List V → Hp → VK → Prop := fun xs H Q => ∃ a kvs, xs = [V.ref a] ∧ H a = some (.dK kvs) ∧ Q (.int kvs.length) H
theorem call_lenDK {X : Cx} : CallR X (.builtin "len") rLenDK := call_lenD
/-! ### all but the first -/
theorem sIx1 {n d : Nat} : HT.sIx (n + 1) d (some 1) = 1 := by
  show (if (1 : Int) < 0 then ((1 : Int) + ((n + 1 : Nat) : Int)).toNat else min (1 : Int).toNat (n + 1)) = 1
  rw [if_neg (by omega)]
  show min 1 (n + 1) = 1
  omega
theorem cut1 {x : V} {xs : List V} : cutV (x :: xs) (some 1) none = xs := by
  unfold cutV
  rw [List.length_cons, sIx1, HT.sIx_none]
  rw [List.drop_succ_cons, List.drop_zero, List.take_of_length_le (by omega)]
theorem cut1_not {x : V} {xs : List V} : ¬ (HT.sIx (x :: xs).length 0 (some 1) = 0 ∧ HT.sIx (x :: xs).length (x :: xs).length none = (x :: xs).length) := by
  rw [List.length_cons, sIx1]
  exact fun z => absurd z.1 (by decide)
/-! ### walks, the written part named -/
section
variable {X : Cx} {K : PySem.W.Frag} {tg l : Expr} {tl : TE}
theorem pi_listK (hl : PE X l tl) (hK : X.K = K := by rfl) : PI X tg l (iList K tl) := by
  subst hK; exact pi_list hl
theorem pi_tupK (hl : PE X l tl) (hK : X.K = K := by rfl) : PI X tg l (iTup K tl) := by
  subst hK; exact pi_tup hl
end
/-! ### a walk over what may be a list or a tuple -/
def iSeq (K : PySem.W.Frag) (tl : TE) : TI := fun σ H R => tl σ H fun x H1 => ∃ a, x = .ref a ∧ (((∃ xs, SqL K H1 a xs) ∧ R (Itl K a) H1) ∨ ((∃ xs, SqT K H1 a xs) ∧ R (Itt K a) H1))
section
variable {X : Cx} {tg l : Expr} {tl : TE}
theorem pi_seq {K : PySem.W.Frag} (hl : PE X l tl) (hK : X.K = K := by rfl) : PI X tg l (iSeq K tl) := by
  subst hK
  refine ⟨fun pins s0 σ H W I h => ?_⟩
  refine thn (hl.run pins s0 σ H _ I h) fun itv s ⟨y, H2, J, rel, a, ey, q⟩ => ?_
  subst ey
  cases rel
  have new : ∀ ob : Obj, L2.Inv X pins σ H2 { s with heap := s.heap.push ob } := fun ob => J.kept (t' := s.toks) fun b u e => Heap.get?_push_of_some _ e
  have fp : ∀ b ∈ [s.heap.objs.size], FpOk X pins H2 b := fun b hb => by
    rw [List.mem_singleton.mp hb]
    exact J.fpOk (Nat.le_refl _) (J.hok.fresh (Nat.le_refl _))
  rcases q with ⟨⟨xs, hx⟩, q⟩ | ⟨⟨xs, hx⟩, q⟩
  · obtain ⟨its, _, pl, _⟩ := J.list hx
    exact wpAny_pyIter_list pl.isList ⟨_, [s.heap.objs.size], _, _, H2, rfl, new _, turn_list a _, ⟨_, Heap.get?_push_size _ rfl, rfl, rfl⟩, fp, q⟩
  · obtain ⟨its, _, pl, _⟩ := J.tuple hx
    exact wpAny_pyIter_tuple (show s.heap.IsTuple a its.toArray from pl) ⟨_, [s.heap.objs.size], _, _, H2, rfl, new _, turn_tuple a _, ⟨_, Heap.get?_push_size _ rfl, rfl, rfl⟩, fp, q⟩
end
/-- a while, its turns' ends kept from the simplifier's eyes -/
theorem while_go {c : TT} {tb : TS} {D : Ends} {σ : L2.St} {H : Hp} (Pv : Nat → L2.St → Hp → Prop) (m0 : Nat) (h0 : Pv m0 σ H)
    (step : ∀ Pw : Nat → L2.St → Hp → Prop, (∀ m σ H, Pv m σ H → Pw m σ H) → ∀ m σ H, Pv m σ H → c σ H fun b H1 => if b = true then ∃ N : L2.St → Hp → Prop, (∀ σ' H', N σ' H' → ∃ m', m' < m ∧ Pw m' σ' H') ∧ tb { D with nx := N, ct := N, bk := D.nx } σ H1 else D.nx σ H1) :
    tWhile c tb D σ H := ⟨Pv, ⟨m0, h0⟩, fun m σ H p => step Pv (fun _ _ _ q => q) m σ H p⟩
/-- one statement, then the rest: what stands between -/
theorem seq_mid {a R : TS} {D : Ends} {σ : L2.St} {H : Hp} (mid : L2.St → Hp → Prop) (h : ∀ Kx : L2.St → Hp → Prop, (∀ σ' H', mid σ' H' → Kx σ' H') → a { D with nx := Kx } σ H) (rest : ∀ σ' H', mid σ' H' → R D σ' H') : tSeq a R D σ H := h (R D) rest
/-- a comprehension whose turns may change things -/
theorem lc_inv {J : It} {n : Nat} {G : Hp → Prop} {Y : Nat → Hp → V → Hp → Prop} (w : Walk J n G Y) {g : TG} {tt : TT} {te : TE} {vs : List Nat} {σ : L2.St} {H1 : Hp} {D : Addr} {Qd : Hp → Prop} (Pv : Nat → Hp → Prop) (h0 : Pv 0 (upd H1 D (.lst []))) (hG : ∀ i H, i ≤ n → Pv i H → G H)
    (hs : ∀ Pw : Nat → Hp → Prop, (∀ i H, Pv i H → Pw i H) → ∀ i x H H', i < n → Pv i H → Y i H x H' → g x (wipe σ vs) H' fun σ2 H2 => wipe σ2 vs = wipe σ vs ∧ tt σ2 H2 fun b H3 =>
      if b = true then te σ2 H3 fun y H4 => ∃ acc, H4 D = some (.lst acc) ∧ acc.length < sizeLine ∧ Pw (i + 1) (upd H4 D (.lst (acc ++ [y]))) else Pw (i + 1) H3) (hd : ∀ H, Pv n H → Qd H) : LcGoal g tt te vs σ J H1 D Qd := by
  refine lc_it w Pv h0 hG (fun i x H H' hi p y => ⟨_, hs Pv (fun _ _ q => q) i x H H' hi p y, fun σ2 H2 q => ⟨q.1, _, q.2, fun b H3 q => ?_⟩⟩) hd
  cases b with
  | true => exact ⟨_, q, fun _ _ q => q⟩
  | false => exact q
end Pb

/-! PbTab -/
set_option Elab.async false
set_option linter.all false
set_option maxRecDepth 100000
set_option maxHeartbeats 4000000
/-! Pb: the end of a law in whose program one def's table grows -/
namespace Pb
open PySem PySem.Spec PyProof.Rows L2
section
variable {P : Program} {w : World} {K : PySem.W.Frag} {mg mb : Str → Option Value}
/-- what may stand in the abstract heap: the script, the table -/
def Few (H : Hp) (T : Addr) : Prop := ∀ b, b = T ∨ H b = none ∨ ∃ ob xs, H b = some (.frz ob (.lst xs))
theorem law_atT {k : Nat} {fa a c T : Addr} {fd : FuncData} {x : Str} {sp : Sp} {s1 : Shared} {H : Hp} (kin : K.In s1.heap) (nsM : s1.heap.Ns mainGlobals mg) (nsB : s1.heap.Ns builtinsNs mb) (bb : ∀ x : Str, x ≠ "__name__" → mb x = bootBuiltins x) (nl : s1.heap.NoLimit) (ng : s1.gens = #[])
    (hcd : PySem.W.codeHdIn K c T = true) (oT : s1.heap.get? T = some { cls := .none, data := .fields #[] }) (hbm : ∃ (bm : Addr) (ob : Obj), mg "__builtins__" = some (.ref bm) ∧ bm ≠ builtinsNs ∧ s1.heap.get? bm = some ob ∧ ob.cls = .type "module" ∧ ob.dict = some builtinsNs ∧ ob.data = .plain)
    (room : Room k callerA) (F : ∀ base : Heap, K.In base → base.Ns mainGlobals mg → LamX.TabB base mg c T → GFn P w K mg base k fa fd [x] sp) (bnd : ∀ (t : Shared) (u : Value), BindsTo t fd ⟨[u], []⟩ [(x, u)])
    (aT : H T = some (.tbl #[])) (few : Few H T) (hok : HOk P w H s1.heap) (seqs : ∀ b o, H b ≠ none → s1.heap.get? b = some o → (∃ vs n, o.data = .seq vs n) ∨ o.data = .fields #[]) (off : ∀ b o, K.lookup b = some o → H b = none) (hsp : sp [.ref a] H (fun v _ => v = .bl true) fun _ _ _ => False) :
    codeAny (model P w) callerA (.call (.ref fa) ⟨[.ref a], []⟩) (fun r s' => r = .ok (.ret (.bool true)) ∧ OldK s1.heap s'.heap ∧ s'.os = s1.os ∧ AllBare s'.gens) s1 := by
  have seen : ∀ b o, s1.heap.get? b = some o → H b = none → (hidT s1.heap H).get? b = some o := fun b o e n => hidT_get e n
  have untr : ∀ b o, s1.heap.get? b = some o → (∀ vs n, o.data ≠ .seq vs n) → o.data ≠ .fields #[] → H b = none := fun b o e n1 n2 => by
    cases q : H b with
    | none => rfl
    | some u =>
      rcases seqs b o (by rw [q]; exact fun z => nomatch z) e with ⟨vs, n, z⟩ | z
      · exact (n1 _ _ z).elim
      · exact (n2 z).elim
  have ns : ∀ {b : Addr} {m : Str → Option Value}, s1.heap.Ns b m → (hidT s1.heap H).Ns b m := by
    rintro b m ⟨o, es, ep, e, d, r⟩
    exact ⟨o, es, ep, seen b o e (untr b o e (fun vs n z => by rw [d] at z; cases z) fun z => by rw [d] at z; cases z), d, r⟩
  have kB : K.In (hidT s1.heap H) := fun b o e => seen b o (kin b o e) (off b o e)
  obtain ⟨mc, l1, l2⟩ := nl
  have md : Mod K mg (hidT s1.heap H) := ⟨kB, ns nsM, ⟨mb, ns nsB, bb⟩, ⟨mc, ns l1, l2⟩⟩
  have env : Env0 P w K mg (hidT s1.heap H) callerA [] s1 H := ⟨rfl, md, fun b o e => of_hidT e, Nat.le_of_eq (hidT_size _ _), trivial, fun b hb => (nomatch hb), hok, .of_eq ng⟩
  have gT : mainGlobals ≠ T := fun z => by
    obtain ⟨o, es, ep, e, d, _⟩ := nsM
    rw [z, oT] at e
    cases e
    cases d
  have tab : LamX.TabB (hidT s1.heap H) mg c T := by
    obtain ⟨bm, om, m1, m2, m3, m4, m5, m6⟩ := hbm
    refine NdefX.tabB_of_K kB hcd ⟨bm, om, m1, m2, fun z => ?_, fun z => ?_, seen _ _ m3 (untr _ _ m3 (fun vs n z => by rw [m6] at z; cases z) fun z => by rw [m6] at z; cases z), m4, m5, m6⟩ gT
    · obtain ⟨o, es, ep, e, d, _⟩ := nsM
      rw [z, e] at m3
      cases m3
      rw [d] at m6
      cases m6
    · rw [z, oT] at m3
      cases m3
      cases m6
  refine codeAny_mono ((F _ kB (ns nsM) tab).go callerA rfl [] s1 H ⟨[.ref a], []⟩ [.ref a] [.ref a] _ _ room env (bnd s1 (.ref a)) (.cons rfl .nil) hsp) fun r s2 hq => ?_
  match r, hq with
  | .error _, hq => exact False.elim hq
  | .ok .next, hq => exact False.elim hq
  | .ok .brk, hq => exact False.elim hq
  | .ok .cont, hq => exact False.elim hq
  | .ok (.ret u), ⟨v, H2, eos, bare, un, hok2, rel, ev⟩ =>
    subst ev
    cases (show u = Value.bool true from rel)
    have same : ∀ b o, b ≠ T → s1.heap.get? b = some o → s2.heap.get? b = some o := fun b o nb e => by
      rcases few b with z | z | ⟨ob, xs, z⟩
      · exact (nb z).elim
      · exact un.keep b o e z (fun m => nomatch m) (fun m => nomatch m)
      · have e1 := (hok b _ z).1
        have e2 := (hok2 b _ (un.frzs b ob _ z)).1
        rw [e] at e1
        cases e1
        exact e2
    obtain ⟨more, gr⟩ := un.tbls T #[] aT
    have grT : s2.heap.get? T = some { cls := .none, data := .fields (#[] ++ more) } := hok2 T _ gr
    refine ⟨rfl, ⟨fun b o e => ?_, fun b o e => ?_⟩, eos, bare⟩
    · by_cases hb : b = T
      · subst hb
        rw [oT] at e
        cases e
        refine .inr (.inl ⟨((PySem.W.codeHd_of_K kin hcd).tab oT).isCodeTable, rfl, #[], more, rfl, ?_⟩)
        exact grT
      · exact .inl (same b o hb e)
    · by_cases hb : b = T
      · exact ⟨_, by rw [hb]; exact grT⟩
      · exact ⟨o, same b o hb e⟩
theorem law_ofT {k : Nat} {fa a c T : Addr} {fd : FuncData} {x : Str} {sp : Sp} {s1 : Shared} {us : List Value} {ns : List Int} (kin : K.In s1.heap) (nsM : s1.heap.Ns mainGlobals mg) (nsB : s1.heap.Ns builtinsNs mb) (bb : ∀ x : Str, x ≠ "__name__" → mb x = bootBuiltins x) (nl : s1.heap.NoLimit) (ng : s1.gens = #[])
    (hcd : PySem.W.codeHdIn K c T = true) (oT : s1.heap.get? T = some { cls := .none, data := .fields #[] }) (nT : K.lookup T = none) (hbm : ∃ (bm : Addr) (ob : Obj), mg "__builtins__" = some (.ref bm) ∧ bm ≠ builtinsNs ∧ s1.heap.get? bm = some ob ∧ ob.cls = .type "module" ∧ ob.dict = some builtinsNs ∧ ob.data = .plain)
    (ha : s1.heap.get? a = some { cls := .type "list", data := .seq us.toArray }) (hi : IntsAre us ns) (hl : ns.length ≤ sizeLine) (room : Room k callerA) (F : ∀ base : Heap, K.In base → base.Ns mainGlobals mg → LamX.TabB base mg c T → GFn P w K mg base k fa fd [x] sp)
    (bnd : ∀ (t : Shared) (u : Value), BindsTo t fd ⟨[u], []⟩ [(x, u)]) (hsp : ∀ H : Hp, H T = some (.tbl #[]) → SqL K H a (ns.map V.int) → sp [.ref a] H (fun v _ => v = .bl true) fun _ _ _ => False) :
    codeAny (model P w) callerA (.call (.ref fa) ⟨[.ref a], []⟩) (fun r s' => r = .ok (.ret (.bool true)) ∧ OldK s1.heap s'.heap ∧ s'.os = s1.os ∧ AllBare s'.gens) s1 := by
  have rel := vals_ints hi
  have len := hi.length
  have neT : a ≠ T := fun z => by
    rw [z, oT] at ha
    cases ha
  cases q : K.lookup a with
  | some o =>
    have e := kin a o q
    rw [ha] at e
    cases e
    have at_ : upd (fun _ => none) T (HO.tbl #[]) T = some (.tbl #[]) := upd_same
    have ne : ∀ b, b ≠ T → upd (fun _ => none) T (HO.tbl #[]) b = none := fun b z => upd_ne z
    refine law_atT kin nsM nsB bb nl ng hcd oT hbm room F bnd at_ (fun b => ?_) (fun b u z => ?_) (fun b o z e => ?_) (fun b o e => ne b fun z => ?_) (hsp _ at_ (.inr ⟨_, us.toArray, _, q, rfl, rfl, rfl, by rw [List.size_toArray, len]; exact hl, by rw [List.toList_toArray]; exact rel⟩))
    · by_cases hb : b = T
      · exact .inl hb
      · exact .inr (.inl (ne b hb))
    · by_cases hb : b = T
      · subst hb
        rw [at_] at z
        cases z
        exact oT
      · rw [ne b hb] at z
        cases z
    · by_cases hb : b = T
      · subst hb
        rw [oT] at e
        cases e
        exact .inr rfl
      · exact (z (ne b hb)).elim
    · rw [z, nT] at e
      cases e
  | none =>
    let ob : Obj := { cls := .type "list", data := .seq us.toArray }
    let H : Hp := upd (upd (fun _ => none) T (.tbl #[])) a (.frz ob (.lst (ns.map V.int)))
    have atA : H a = some (.frz ob (.lst (ns.map V.int))) := upd_same
    have atT : H T = some (.tbl #[]) := (upd_ne (Ne.symm neT)).trans upd_same
    have ne : ∀ b, b ≠ a → b ≠ T → H b = none := fun b z1 z2 => (upd_ne z1).trans (upd_ne z2)
    refine law_atT kin nsM nsB bb nl ng hcd oT hbm room F bnd atT (fun b => ?_) (fun b u z => ?_) (fun b o z e => ?_) (fun b o e => ne b (fun z => ?_) fun z => ?_) (hsp _ atT (.inl (.inr ⟨ob, atA⟩)))
    · by_cases h1 : b = T
      · exact .inl h1
      · by_cases h2 : b = a
        · exact .inr (.inr ⟨ob, _, by rw [h2]; exact atA⟩)
        · exact .inr (.inl (ne b h2 h1))
    · by_cases h2 : b = a
      · subst h2
        rw [atA] at z
        cases z
        exact ⟨ha, by rw [List.length_map]; exact hl, us, 0, rel, ha⟩
      · by_cases h1 : b = T
        · subst h1
          rw [atT] at z
          cases z
          exact oT
        · rw [ne b h2 h1] at z
          cases z
    · by_cases h2 : b = a
      · subst h2
        rw [ha] at e
        cases e
        exact .inl ⟨_, _, rfl⟩
      · by_cases h1 : b = T
        · subst h1
          rw [oT] at e
          cases e
          exact .inr rfl
        · exact (z (ne b h2 h1)).elim
    · rw [z, q] at e
      cases e
    · rw [z, nT] at e
      cases e
end
theorem walk_ofGT {l : PySem.W.OpenLaw} {n k : Nat} {q : Program} {loose : List Str} {XP : (Str → Option Value) → Heap → Prop} {YP : World → Heap → Prop} {d : DefRec} {x : Str} (hn : l.most = some n) (hn2 : n ≤ sizeLine) (hdf : d.params.defaults = []) (room : Room k callerA)
    (F : ∀ (w : World) (mg : Str → Option Value) (fa : Addr) (h : Heap), YP w h → h.Ns mainGlobals mg → mg d.name = some (.ref fa) →
      ∃ (K : PySem.W.Frag) (fd : FuncData) (sp : Sp) (c T : Addr), K.In h ∧ PySem.W.codeHdIn K c T = true ∧ h.get? T = some { cls := .none, data := .fields #[] } ∧ K.lookup T = none ∧ (∀ (s : Shared) (u : Value), BindsTo s fd ⟨[u], []⟩ [(x, u)]) ∧
        (∀ (H : Hp) (a : Addr) (ns : List Int), ns.length ≤ n → H T = some (.tbl #[]) → SqL K H a (ns.map V.int) → sp [.ref a] H (fun v _ => v = .bl true) fun _ _ _ => False) ∧ ∀ base : Heap, K.In base → base.Ns mainGlobals mg → LamX.TabB base mg c T → GFn l.prog w K mg base k fa fd [x] sp) :
    PySem.W.WalkO q loose XP YP l.row.toRowW d [] (fun f vs => PySem.call f vs) := by
  refine Att.attach_call hn hdf fun w s0 s1 mg mb fa o pm cd doc a us ns G Y ho hd hcd hmg hobj hints hlen ng => ?_
  obtain ⟨K, fd, sp, c, T, kin, hT, oT, nT, bnd, hsp, hF⟩ := F w mg fa _ Y G.T.g hmg
  exact law_ofT kin G.T.g G.T.b G.T.builtins G.T.nolimit ng hT oT nT G.T.bmain hobj hints (Nat.le_trans hlen hn2) room hF bnd fun H aT sq => hsp H a ns hlen aT sq
end Pb

/-! A0 -/
set_option Elab.async false
set_option linter.all false
set_option maxRecDepth 100000
set_option maxHeartbeats 4000000
namespace Pb
open PySem PySem.Spec PyProof.Rows L2
open C8 (Cal Mak Met pe_c pe_mk pe_mt pe_mt0 pe_gc fnScope_by)
/-! short words -/
local macro_rules | `(tactic| walk_at "rd") => `(tactic| try simp only [tVar, tC, tAdd, tSub, t2I, tIsN, tNotN, tB, tAnd, tOr, tNot, tAndV, tOrV, tNotV, tIf, tSeq, tPar, tPar3, tNext, tBreak, tCont, tDrop, tRet, tRetN, tIfS, gName, gNil, gCons, gTup, gSub, tAsg, tAug, ipI, iList, iTup, iRng1, iRng2, iStr, iEnum, iZip,
  tOp, tUn, rI, rI0, rU, tTest, tChain, tFld, sFld, sFldAug, L2.rAdd, L2.rSub, tNil, tCons, tTup, tLst, tCall, tMeth, tMake, tCB, tNoPart, tPart, tSl, tBM0, tBM, tDGet, tDGet1, tDGet2, tDIn, tDNotIn, sDPut, tDNewK, rEq, rNe, scal_ii, scal_ss, scal_bb, scal_nn, scal_ni, scal_in, scal_ns, scal_sn, scal_is, scal_si, List.take_succ_cons, List.take_zero, List.drop_succ_cons, List.drop_zero, upd_same, upd_upd, and_assoc, tKGet, gStar, tDisp, tPairs, tYes,
  L2.start, List.map_cons, List.map_nil, List.length_cons, List.length_nil, List.cons_append, List.nil_append, List.append_nil, List.replicate, Nat.sub_self, Nat.add_sub_cancel, Nat.reduceAdd, Nat.reduceSub, List.set_cons_zero, List.set_cons_succ, List.getElem?_cons_zero, List.getElem?_cons_succ,
  Option.some.injEq, V.int.injEq, V.bl.injEq, V.str.injEq, V.ref.injEq, exists_eq_left', exists_eq_left, exists_eq', exists_eq, true_and, and_true, if_true, if_false, Bool.false_eq_true, List.cons.injEq, Bool.not_true, Bool.not_false, cxK, cxP, cxW, ite_true, ite_false, wipe, reduceCtorEq, and_self, decide_true, decide_false, exists_and_left, exists_const, decide_eq_true_eq])
local macro_rules | `(tactic| walk_at "len") => `(tactic| (intro vs H Q E h; repeat (first | (obtain ⟨e, _⟩ := h; subst e; rfl) | (obtain ⟨_, h⟩ := h))))
local macro_rules | `(tactic| walk_at "wd") => `(tactic| simp (config := {decide := true}) only [V.str.injEq, scal_ss, true_and, if_true, if_false])

def top (i : Nat) : Stmt := PySem.Challenge.pw_pileboxes_k10_left_out.main.body.getD i (.Pass ⟨0, 0, 0, 0⟩)
abbrev s_is_whole : Stmt := top 14
theorem sc_is_whole : FnScope ["thing"] ["thing"] (defScope s_is_whole) := ⟨rfl, rfl, rfl, by decide +kernel, rfl, by decide +kernel, by decide +kernel⟩
abbrev s_within : Stmt := top 15
theorem sc_within : FnScope ["thing", "low", "high"] ["thing", "low", "high"] (defScope s_within) := ⟨rfl, rfl, rfl, by decide +kernel, rfl, by decide +kernel, by decide +kernel⟩
abbrev s_is_worth : Stmt := top 16
theorem sc_is_worth : FnScope ["thing"] ["thing"] (defScope s_is_worth) := ⟨rfl, rfl, rfl, by decide +kernel, rfl, by decide +kernel, by decide +kernel⟩
abbrev s_is_name : Stmt := top 17
theorem sc_is_name : FnScope ["thing", "sign"] ["thing"] (defScope s_is_name) := ⟨rfl, rfl, rfl, by decide +kernel, rfl, by decide +kernel, by decide +kernel⟩
abbrev s_is_tuple_of : Stmt := top 18
theorem sc_is_tuple_of : FnScope ["thing", "most"] ["thing", "most"] (defScope s_is_tuple_of) := ⟨rfl, rfl, rfl, by decide +kernel, rfl, by decide +kernel, by decide +kernel⟩
abbrev s_is_row : Stmt := top 19
theorem sc_is_row : FnScope ["thing"] ["thing"] (defScope s_is_row) := ⟨rfl, rfl, rfl, by decide +kernel, rfl, by decide +kernel, by decide +kernel⟩
abbrev s_is_end : Stmt := top 20
theorem sc_is_end : FnScope ["thing", "word", "labels", "counts", "label"] ["thing"] (defScope s_is_end) := ⟨rfl, rfl, rfl, by decide +kernel, rfl, by decide +kernel, by decide +kernel⟩
abbrev s_is_move : Stmt := top 21
theorem sc_is_move : FnScope ["thing"] ["thing"] (defScope s_is_move) := ⟨rfl, rfl, rfl, by decide +kernel, rfl, by decide +kernel, by decide +kernel⟩
abbrev s_touches : Stmt := top 22
theorem sc_touches : FnScope ["row"] ["row"] (defScope s_touches) := ⟨rfl, rfl, rfl, by decide +kernel, rfl, by decide +kernel, by decide +kernel⟩
abbrev s_change : Stmt := top 23
theorem sc_change : FnScope ["row"] ["row"] (defScope s_change) := ⟨rfl, rfl, rfl, by decide +kernel, rfl, by decide +kernel, by decide +kernel⟩
abbrev s_brought_back : Stmt := top 24
theorem sc_brought_back : FnScope ["number"] ["number"] (defScope s_brought_back) := ⟨rfl, rfl, rfl, by decide +kernel, rfl, by decide +kernel, by decide +kernel⟩
abbrev s_summed : Stmt := top 25
theorem sc_summed : FnScope ["word", "low", "high"] ["word", "low", "high"] (defScope s_summed) := ⟨rfl, rfl, rfl, by decide +kernel, rfl, by decide +kernel, by decide +kernel⟩
abbrev s_done_on : Stmt := top 26
theorem sc_done_on : FnScope ["pile", "row", "word"] ["pile", "row"] (defScope s_done_on) := ⟨rfl, rfl, rfl, by decide +kernel, rfl, by decide +kernel, by decide +kernel⟩
abbrev s_Ran___init__ : Stmt := inClass (top 29) 0
theorem sc_Ran___init__ : FnScope ["self", "told", "pile", "steps"] ["self", "told", "pile", "steps"] (defScope s_Ran___init__) := ⟨rfl, rfl, rfl, by decide +kernel, rfl, by decide +kernel, by decide +kernel⟩
abbrev s_Dry___init__ : Stmt := inClass (top 30) 0
theorem sc_Dry___init__ : FnScope ["self", "told", "label", "row"] ["self", "told", "label", "row"] (defScope s_Dry___init__) := ⟨rfl, rfl, rfl, by decide +kernel, rfl, by decide +kernel, by decide +kernel⟩
abbrev s_Spent___init__ : Stmt := inClass (top 31) 0
theorem sc_Spent___init__ : FnScope ["self", "told"] ["self", "told"] (defScope s_Spent___init__) := ⟨rfl, rfl, rfl, by decide +kernel, rfl, by decide +kernel, by decide +kernel⟩
abbrev s_parts_at : Stmt := top 32
theorem sc_parts_at : FnScope ["words", "joins", "one", "at", "found", "count", "row", "cost"] ["words", "joins", "one", "at"] (defScope s_parts_at) := ⟨rfl, rfl, rfl, by decide +kernel, rfl, by decide +kernel, by decide +kernel⟩
abbrev s_Cover___init__ : Stmt := inClass (top 33) 0
theorem sc_Cover___init__ : FnScope ["self", "parts", "numbers"] ["self", "parts", "numbers"] (defScope s_Cover___init__) := ⟨rfl, rfl, rfl, by decide +kernel, rfl, by decide +kernel, by decide +kernel⟩
abbrev s_Tally___init__ : Stmt := inClass (top 48) 0
theorem sc_Tally___init__ : FnScope ["self", "worths", "most", "heard"] ["self", "worths", "most", "heard"] (defScope s_Tally___init__) := ⟨rfl, rfl, rfl, by decide +kernel, rfl, by decide +kernel, by decide +kernel⟩
abbrev s_Tally_step : Stmt := inClass (top 48) 1
theorem sc_Tally_step : FnScope ["self"] ["self"] (defScope s_Tally_step) := ⟨rfl, rfl, rfl, by decide +kernel, rfl, by decide +kernel, by decide +kernel⟩
abbrev s_Tally_tell : Stmt := inClass (top 48) 2
theorem sc_Tally_tell : FnScope ["self", "worth"] ["self", "worth"] (defScope s_Tally_tell) := ⟨rfl, rfl, rfl, by decide +kernel, rfl, by decide +kernel, by decide +kernel⟩
abbrev s_Tally_hear : Stmt := inClass (top 48) 3
theorem sc_Tally_hear : FnScope ["self"] ["self"] (defScope s_Tally_hear) := ⟨rfl, rfl, rfl, by decide +kernel, rfl, by decide +kernel, by decide +kernel⟩
abbrev s_check_run : Stmt := top 49
theorem sc_check_run : FnScope ["worths", "most", "one"] ["worths", "most"] (defScope s_check_run) := ⟨rfl, rfl, rfl, by decide +kernel, rfl, by decide +kernel, by decide +kernel⟩
abbrev s_next_label : Stmt := top 50
theorem sc_next_label : FnScope ["end", "top"] ["end", "top"] (defScope s_next_label) := ⟨rfl, rfl, rfl, by decide +kernel, rfl, by decide +kernel, by decide +kernel⟩
abbrev s_run : Stmt := top 51
theorem sc_run : FnScope ["code", "worths", "most", "tally", "pile", "label", "rows", "end", "at", "row", "worth"] ["code", "worths", "most"] (defScope s_run) := ⟨rfl, rfl, rfl, by decide +kernel, rfl, by decide +kernel, by decide +kernel⟩
abbrev s_check_boxes : Stmt := top 58
theorem sc_check_boxes : FnScope ["boxes"] ["boxes"] (defScope s_check_boxes) := ⟨rfl, rfl, rfl, by decide +kernel, rfl, by decide +kernel, by decide +kernel⟩
abbrev s_are_rows : Stmt := top 59
theorem sc_are_rows : FnScope ["thing", "most", "look", "row"] ["thing", "most", "look"] (defScope s_are_rows) := ⟨rfl, rfl, rfl, by decide +kernel, rfl, by decide +kernel, by decide +kernel⟩
abbrev s_is_made_row : Stmt := top 60
theorem sc_is_made_row : FnScope ["thing"] ["thing"] (defScope s_is_made_row) := ⟨rfl, rfl, rfl, by decide +kernel, rfl, by decide +kernel, by decide +kernel⟩
abbrev s_is_made_block : Stmt := top 61
theorem sc_is_made_block : FnScope ["thing", "tail"] ["thing"] (defScope s_is_made_block) := ⟨rfl, rfl, rfl, by decide +kernel, rfl, by decide +kernel, by decide +kernel⟩
abbrev s_copied : Stmt := top 62
theorem sc_copied : FnScope ["blocks", "found", "label", "begin", "rows", "end", "tails", "tail"] ["blocks"] (defScope s_copied) := ⟨rfl, rfl, rfl, by decide +kernel, rfl, by decide +kernel, by decide +kernel⟩
abbrev s_Made___init__ : Stmt := inClass (top 63) 0
theorem sc_Made___init__ : FnScope ["self", "blocks", "boxes", "block", "labels", "label", "there"] ["self", "blocks", "boxes"] (defScope s_Made___init__) := ⟨rfl, rfl, rfl, by decide +kernel, rfl, by decide +kernel, by decide +kernel⟩
abbrev s_Made_blocks : Stmt := inClass (top 63) 1
theorem sc_Made_blocks : FnScope ["self"] ["self"] (defScope s_Made_blocks) := ⟨rfl, rfl, rfl, by decide +kernel, rfl, by decide +kernel, by decide +kernel⟩
abbrev s_Made_boxes : Stmt := inClass (top 63) 2
theorem sc_Made_boxes : FnScope ["self"] ["self"] (defScope s_Made_boxes) := ⟨rfl, rfl, rfl, by decide +kernel, rfl, by decide +kernel, by decide +kernel⟩
abbrev s_Store___init__ : Stmt := inClass (top 64) 0
theorem sc_Store___init__ : FnScope ["self"] ["self"] (defScope s_Store___init__) := ⟨rfl, rfl, rfl, by decide +kernel, rfl, by decide +kernel, by decide +kernel⟩
abbrev s_Store_move : Stmt := inClass (top 64) 1
theorem sc_Store_move : FnScope ["self", "row", "lowest", "others"] ["self", "row"] (defScope s_Store_move) := ⟨rfl, rfl, rfl, by decide +kernel, rfl, by decide +kernel, by decide +kernel⟩
abbrev s_run_heard : Stmt := top 65
theorem sc_run_heard : FnScope ["made", "tally", "store", "at", "label", "begin", "rows", "end", "tails", "done", "row", "worth", "there", "part"] ["made", "tally"] (defScope s_run_heard) := ⟨rfl, rfl, rfl, by decide +kernel, rfl, by decide +kernel, by decide +kernel⟩
abbrev s_run_made : Stmt := top 66
theorem sc_run_made : FnScope ["made", "worths", "most"] ["made", "worths", "most"] (defScope s_run_made) := ⟨rfl, rfl, rfl, by decide +kernel, rfl, by decide +kernel, by decide +kernel⟩
abbrev s_moves_between : Stmt := top 67
theorem sc_moves_between : FnScope ["one", "other"] ["one", "other"] (defScope s_moves_between) := ⟨rfl, rfl, rfl, by decide +kernel, rfl, by decide +kernel, by decide +kernel⟩
abbrev s_ways_through : Stmt := top 68
theorem sc_ways_through : FnScope ["rows", "end", "begin", "high", "boxes", "here", "row", "late", "full", "cost", "known", "one", "moves", "made_rows"] ["rows", "end", "begin", "high", "boxes"] (defScope s_ways_through) := ⟨rfl, rfl, rfl, by decide +kernel, rfl, by decide +kernel, by decide +kernel⟩
abbrev s_with_begin : Stmt := top 69
theorem sc_with_begin : FnScope ["begins", "label", "full", "found"] ["begins", "label", "full"] (defScope s_with_begin) := ⟨rfl, rfl, rfl, by decide +kernel, rfl, by decide +kernel, by decide +kernel⟩
abbrev s_all_begins : Stmt := top 70
theorem sc_all_begins : FnScope ["code", "boxes", "found", "label", "most", "begins", "full"] ["code", "boxes"] (defScope s_all_begins) := ⟨rfl, rfl, rfl, by decide +kernel, rfl, by decide +kernel, by decide +kernel⟩
abbrev s_best_end : Stmt := top 71
theorem sc_best_end : FnScope ["ways", "end", "begins", "found", "full", "cost", "rows", "there"] ["ways", "end", "begins"] (defScope s_best_end) := ⟨rfl, rfl, rfl, by decide +kernel, rfl, by decide +kernel, by decide +kernel⟩
abbrev s_brought : Stmt := top 72
theorem sc_brought : FnScope ["code", "boxes", "ways", "label", "rows", "end", "begin", "best", "most", "begins", "total", "blocks", "table", "full", "tails", "there"] ["code", "boxes"] (defScope s_brought) := ⟨rfl, rfl, rfl, by decide +kernel, rfl, by decide +kernel, by decide +kernel⟩
abbrev s_are_words : Stmt := top 79
theorem sc_are_words : FnScope ["thing", "least", "most", "word"] ["thing", "least", "most"] (defScope s_are_words) := ⟨rfl, rfl, rfl, by decide +kernel, rfl, by decide +kernel, by decide +kernel⟩
abbrev s_is_join : Stmt := top 80
theorem sc_is_join : FnScope ["thing"] ["thing"] (defScope s_is_join) := ⟨rfl, rfl, rfl, by decide +kernel, rfl, by decide +kernel, by decide +kernel⟩
abbrev s_covered : Stmt := top 81
theorem sc_covered : FnScope ["words", "joins", "one", "join", "numbers", "best", "at", "rows", "count", "many", "cost", "total", "parts"] ["words", "joins", "one"] (defScope s_covered) := ⟨rfl, rfl, rfl, by decide +kernel, rfl, by decide +kernel, by decide +kernel⟩
abbrev s_Mill___init__ : Stmt := inClass (top 83) 0
theorem sc_Mill___init__ : FnScope ["self", "code", "boxes"] ["self", "code", "boxes"] (defScope s_Mill___init__) := ⟨rfl, rfl, rfl, by decide +kernel, rfl, by decide +kernel, by decide +kernel⟩
abbrev s_Mill_run : Stmt := inClass (top 83) 1
theorem sc_Mill_run : FnScope ["self", "worths", "most", "heard"] ["self", "worths", "most", "heard"] (defScope s_Mill_run) := ⟨rfl, rfl, rfl, by decide +kernel, rfl, by decide +kernel, by decide +kernel⟩
abbrev s_Mill_log : Stmt := inClass (top 83) 2
theorem sc_Mill_log : FnScope ["self"] ["self"] (defScope s_Mill_log) := ⟨rfl, rfl, rfl, by decide +kernel, rfl, by decide +kernel, by decide +kernel⟩
abbrev s_Mill_made : Stmt := inClass (top 83) 4
theorem sc_Mill_made : FnScope ["self"] ["self"] (defScope s_Mill_made) := ⟨rfl, rfl, rfl, by decide +kernel, rfl, by decide +kernel, by decide +kernel⟩
abbrev s_are_blocks : Stmt := top 85
theorem sc_are_blocks : FnScope ["thing", "block", "row"] ["thing"] (defScope s_are_blocks) := ⟨rfl, rfl, rfl, by decide +kernel, rfl, by decide +kernel, by decide +kernel⟩
abbrev s_Code___init__ : Stmt := inClass (top 86) 0
theorem sc_Code___init__ : FnScope ["self", "blocks", "label", "rows", "end"] ["self", "blocks"] (defScope s_Code___init__) := ⟨rfl, rfl, rfl, by decide +kernel, rfl, by decide +kernel, by decide +kernel⟩
abbrev s_Code___eq__ : Stmt := inClass (top 86) 1
theorem sc_Code___eq__ : FnScope ["self", "other"] ["self", "other"] (defScope s_Code___eq__) := ⟨rfl, rfl, rfl, by decide +kernel, rfl, by decide +kernel, by decide +kernel⟩
abbrev s_Code___len__ : Stmt := inClass (top 86) 2
theorem sc_Code___len__ : FnScope ["self", "label", "rows", "end", "row"] ["self"] (defScope s_Code___len__) := ⟨rfl, rfl, rfl, by decide +kernel, rfl, by decide +kernel, by decide +kernel⟩
abbrev s_Code_find_heights : Stmt := inClass (top 86) 3
theorem sc_Code_find_heights : FnScope ["self", "first", "turn", "known", "label", "rows", "end", "high", "at", "row", "there"] ["self"] (defScope s_Code_find_heights) := ⟨rfl, rfl, rfl, by decide +kernel, rfl, by decide +kernel, by decide +kernel⟩
abbrev s_Code_blocks : Stmt := inClass (top 86) 4
theorem sc_Code_blocks : FnScope ["self", "label", "rows", "end"] ["self"] (defScope s_Code_blocks) := ⟨rfl, rfl, rfl, by decide +kernel, rfl, by decide +kernel, by decide +kernel⟩
abbrev s_Code_first : Stmt := inClass (top 86) 6
theorem sc_Code_first : FnScope ["self"] ["self"] (defScope s_Code_first) := ⟨rfl, rfl, rfl, by decide +kernel, rfl, by decide +kernel, by decide +kernel⟩
abbrev s__law_rings : Stmt := top 88
theorem sc__law_rings : FnScope ["_law_worth", "_law_put", "_law_drop", "_law_tell"] ["_law_worth"] (defScope s__law_rings) := ⟨rfl, rfl, rfl, by decide +kernel, rfl, by decide +kernel, by decide +kernel⟩
abbrev s_law : Stmt := top 89
theorem sc_law : FnScope ["_law_script", "_law_worth", "_law_rows", "_law_code", "_law_made", "_law_lots", "_law_dues", "_law_left", "_law_due", "_law_words", "_law_joins"] ["_law_script"] (defScope s_law) := ⟨rfl, rfl, rfl, by decide +kernel, rfl, by decide +kernel, by decide +kernel⟩
def c_WORDS : List Str := ["put", "plus", "less", "times", "under", "same", "over", "swap", "drop", "tell", "hear"]
def c_SUMS : List Str := ["plus", "less", "times", "under"]
def c_TOUCHES : List (Str × Int) := [("put", 0), ("hear", 0), ("same", 1), ("drop", 1), ("tell", 1), ("over", 2), ("swap", 2), ("if", 1), ("go", 0), ("stop", 0)]
def c_CHANGES : List (Str × Int) := [("put", 1), ("hear", 1), ("same", 1), ("over", 1), ("swap", 0), ("drop", -1), ("tell", -1), ("if", -1), ("go", 0), ("stop", 0)]
def c_MOVES : List Str := ["fill", "spill"]
structure Tx (w : World) (K : PySem.W.Frag) (mg : Str → Option Value) : Prop where
  b_isinstance : mg "isinstance" = none
  b_int : mg "int" = none
  b_bool : mg "bool" = none
  b_str : mg "str" = none
  b_all : mg "all" = none
  b_len : mg "len" = none
  b_tuple : mg "tuple" = none
  b_list : mg "list" = none
  b_enumerate : mg "enumerate" = none
  b_range : mg "range" = none
  b_min : mg "min" = none
  b_abs : mg "abs" = none
  b_dict : mg "dict" = none
  b_sum : mg "sum" = none
  b_reversed : mg "reversed" = none
  b_zip : mg "zip" = none
  v_LETTERS : ∃ u, mg "LETTERS" = some u ∧ RelV (.str "abcdefghijklmnopqrstuvwxyz") u
  v_LEAST : ∃ u, mg "LEAST" = some u ∧ RelV (.int (-32768)) u
  v_MOST_WORTH : ∃ u, mg "MOST_WORTH" = some u ∧ RelV (.int (32767)) u
  v_ROUND : ∃ u, mg "ROUND" = some u ∧ RelV (.int (65536)) u
  v_MOST_BLOCKS : ∃ u, mg "MOST_BLOCKS" = some u ∧ RelV (.int (6)) u
  v_MOST_ROWS : ∃ u, mg "MOST_ROWS" = some u ∧ RelV (.int (12)) u
  v_DEEPEST : ∃ u, mg "DEEPEST" = some u ∧ RelV (.int (12)) u
  v_WORDS : ∃ u, mg "WORDS" = some u ∧ RelV (.ref (He.ga K "WORDS")) u
  t_WORDS : ∀ H, SqT K H (He.ga K "WORDS") (c_WORDS.map V.str)
  v_SUMS : ∃ u, mg "SUMS" = some u ∧ RelV (.ref (He.ga K "SUMS")) u
  t_SUMS : ∀ H, SqT K H (He.ga K "SUMS") (c_SUMS.map V.str)
  v_TOUCHES : ∃ u, mg "TOUCHES" = some u ∧ RelV (.ref (He.ga K "TOUCHES")) u
  k_TOUCHES : ∃ es n, KDict K w (He.ga K "TOUCHES") es n
  x_TOUCHES : ∀ q ∈ c_TOUCHES, ∃ u, PySem.W.nsIn K (He.ga K "TOUCHES") q.1 = some (some u) ∧ RelV (.int q.2) u
  v_CHANGES : ∃ u, mg "CHANGES" = some u ∧ RelV (.ref (He.ga K "CHANGES")) u
  k_CHANGES : ∃ es n, KDict K w (He.ga K "CHANGES") es n
  x_CHANGES : ∀ q ∈ c_CHANGES, ∃ u, PySem.W.nsIn K (He.ga K "CHANGES") q.1 = some (some u) ∧ RelV (.int q.2) u
  v_MOVES : ∃ u, mg "MOVES" = some u ∧ RelV (.ref (He.ga K "MOVES")) u
  t_MOVES : ∀ H, SqT K H (He.ga K "MOVES") (c_MOVES.map V.str)
  v_MOST : ∃ u, mg "MOST" = some u ∧ RelV (.int (500)) u
  v_GREATEST_MOST : ∃ u, mg "GREATEST_MOST" = some u ∧ RelV (.int (100000)) u
  v_BOXES : ∃ u, mg "BOXES" = some u ∧ RelV (.int (3)) u
  v_FEWEST_BOXES : ∃ u, mg "FEWEST_BOXES" = some u ∧ RelV (.int (3)) u
  v_MOST_BOXES : ∃ u, mg "MOST_BOXES" = some u ∧ RelV (.int (5)) u
  v_MOST_MADE_ROWS : ∃ u, mg "MOST_MADE_ROWS" = some u ∧ RelV (.int (99)) u
  v_MOST_TAIL : ∃ u, mg "MOST_TAIL" = some u ∧ RelV (.int (9)) u
  v_ONE : ∃ u, mg "ONE" = some u ∧ RelV (.int (3)) u
  v_MOST_WORDS : ∃ u, mg "MOST_WORDS" = some u ∧ RelV (.int (40)) u
  v_MOST_JOINS : ∃ u, mg "MOST_JOINS" = some u ∧ RelV (.int (6)) u
  v_LONGEST_JOIN : ∃ u, mg "LONGEST_JOIN" = some u ∧ RelV (.int (4)) u
  v_MOST_COST : ∃ u, mg "MOST_COST" = some u ∧ RelV (.int (9)) u
  g_is_whole : mg "is_whole" = some (.ref (He.ga K "is_whole"))
  D_is_whole : FnD K "is_whole" "is_whole" s_is_whole [] [] (He.ga K "is_whole")
  g_within : mg "within" = some (.ref (He.ga K "within"))
  D_within : FnD K "within" "within" s_within [] [] (He.ga K "within")
  g_is_worth : mg "is_worth" = some (.ref (He.ga K "is_worth"))
  D_is_worth : FnD K "is_worth" "is_worth" s_is_worth [] [] (He.ga K "is_worth")
  g_is_name : mg "is_name" = some (.ref (He.ga K "is_name"))
  D_is_name : FnD K "is_name" "is_name" s_is_name [] [] (He.ga K "is_name")
  g_is_tuple_of : mg "is_tuple_of" = some (.ref (He.ga K "is_tuple_of"))
  D_is_tuple_of : FnD K "is_tuple_of" "is_tuple_of" s_is_tuple_of [] [] (He.ga K "is_tuple_of")
  g_is_row : mg "is_row" = some (.ref (He.ga K "is_row"))
  D_is_row : FnD K "is_row" "is_row" s_is_row [] [] (He.ga K "is_row")
  g_is_end : mg "is_end" = some (.ref (He.ga K "is_end"))
  D_is_end : FnD K "is_end" "is_end" s_is_end [] [] (He.ga K "is_end")
  g_is_move : mg "is_move" = some (.ref (He.ga K "is_move"))
  D_is_move : FnD K "is_move" "is_move" s_is_move [] [] (He.ga K "is_move")
  g_touches : mg "touches" = some (.ref (He.ga K "touches"))
  D_touches : FnD K "touches" "touches" s_touches [] [] (He.ga K "touches")
  g_change : mg "change" = some (.ref (He.ga K "change"))
  D_change : FnD K "change" "change" s_change [] [] (He.ga K "change")
  g_brought_back : mg "brought_back" = some (.ref (He.ga K "brought_back"))
  D_brought_back : FnD K "brought_back" "brought_back" s_brought_back [] [] (He.ga K "brought_back")
  g_summed : mg "summed" = some (.ref (He.ga K "summed"))
  D_summed : FnD K "summed" "summed" s_summed [] [] (He.ga K "summed")
  g_done_on : mg "done_on" = some (.ref (He.ga K "done_on"))
  D_done_on : FnD K "done_on" "done_on" s_done_on [] [] (He.ga K "done_on")
  D_Ran___init__ : FnD K "__init__" "Ran.__init__" s_Ran___init__ [] [] (He.ma K (He.ga K "Ran") "__init__")
  D_Dry___init__ : FnD K "__init__" "Dry.__init__" s_Dry___init__ [] [] (He.ma K (He.ga K "Dry") "__init__")
  D_Spent___init__ : FnD K "__init__" "Spent.__init__" s_Spent___init__ [] [] (He.ma K (He.ga K "Spent") "__init__")
  g_parts_at : mg "parts_at" = some (.ref (He.ga K "parts_at"))
  D_parts_at : FnD K "parts_at" "parts_at" s_parts_at [] [] (He.ga K "parts_at")
  D_Cover___init__ : FnD K "__init__" "Cover.__init__" s_Cover___init__ [] [] (He.ma K (He.ga K "Cover") "__init__")
  D_Tally___init__ : FnD K "__init__" "Tally.__init__" s_Tally___init__ [] [] (He.ma K (He.ga K "Tally") "__init__")
  D_Tally_step : FnD K "step" "Tally.step" s_Tally_step [] [] (He.ma K (He.ga K "Tally") "step")
  D_Tally_tell : FnD K "tell" "Tally.tell" s_Tally_tell [] [] (He.ma K (He.ga K "Tally") "tell")
  D_Tally_hear : FnD K "hear" "Tally.hear" s_Tally_hear [] [] (He.ma K (He.ga K "Tally") "hear")
  g_check_run : mg "check_run" = some (.ref (He.ga K "check_run"))
  D_check_run : FnD K "check_run" "check_run" s_check_run [] [] (He.ga K "check_run")
  g_next_label : mg "next_label" = some (.ref (He.ga K "next_label"))
  D_next_label : FnD K "next_label" "next_label" s_next_label [] [] (He.ga K "next_label")
  g_run : mg "run" = some (.ref (He.ga K "run"))
  e_run_worths : ∀ H, SqT K H (kwdAt (He.ga K "run") "worths" K) []
  D_run : FnD K "run" "run" s_run [] [("worths", .ref (kwdAt (He.ga K "run") "worths" K)), ("most", .int 500)] (He.ga K "run")
  g_check_boxes : mg "check_boxes" = some (.ref (He.ga K "check_boxes"))
  D_check_boxes : FnD K "check_boxes" "check_boxes" s_check_boxes [] [] (He.ga K "check_boxes")
  g_are_rows : mg "are_rows" = some (.ref (He.ga K "are_rows"))
  D_are_rows : FnD K "are_rows" "are_rows" s_are_rows [] [] (He.ga K "are_rows")
  g_is_made_row : mg "is_made_row" = some (.ref (He.ga K "is_made_row"))
  D_is_made_row : FnD K "is_made_row" "is_made_row" s_is_made_row [] [] (He.ga K "is_made_row")
  g_is_made_block : mg "is_made_block" = some (.ref (He.ga K "is_made_block"))
  D_is_made_block : FnD K "is_made_block" "is_made_block" s_is_made_block [] [] (He.ga K "is_made_block")
  g_copied : mg "copied" = some (.ref (He.ga K "copied"))
  D_copied : FnD K "copied" "copied" s_copied [] [] (He.ga K "copied")
  D_Made___init__ : FnD K "__init__" "Made.__init__" s_Made___init__ [] [("boxes", .int 3)] (He.ma K (He.ga K "Made") "__init__")
  D_Made_blocks : FnD K "blocks" "Made.blocks" s_Made_blocks [] [] (He.ma K (He.ga K "Made") "blocks")
  D_Made_boxes : FnD K "boxes" "Made.boxes" s_Made_boxes [] [] (He.ma K (He.ga K "Made") "boxes")
  D_Store___init__ : FnD K "__init__" "Store.__init__" s_Store___init__ [] [] (He.ma K (He.ga K "Store") "__init__")
  D_Store_move : FnD K "move" "Store.move" s_Store_move [] [] (He.ma K (He.ga K "Store") "move")
  g_run_heard : mg "run_heard" = some (.ref (He.ga K "run_heard"))
  D_run_heard : FnD K "run_heard" "run_heard" s_run_heard [] [] (He.ga K "run_heard")
  g_run_made : mg "run_made" = some (.ref (He.ga K "run_made"))
  e_run_made_worths : ∀ H, SqT K H (kwdAt (He.ga K "run_made") "worths" K) []
  D_run_made : FnD K "run_made" "run_made" s_run_made [] [("worths", .ref (kwdAt (He.ga K "run_made") "worths" K)), ("most", .int 500)] (He.ga K "run_made")
  g_moves_between : mg "moves_between" = some (.ref (He.ga K "moves_between"))
  D_moves_between : FnD K "moves_between" "moves_between" s_moves_between [] [] (He.ga K "moves_between")
  g_ways_through : mg "ways_through" = some (.ref (He.ga K "ways_through"))
  D_ways_through : FnD K "ways_through" "ways_through" s_ways_through [] [] (He.ga K "ways_through")
  g_with_begin : mg "with_begin" = some (.ref (He.ga K "with_begin"))
  D_with_begin : FnD K "with_begin" "with_begin" s_with_begin [] [] (He.ga K "with_begin")
  g_all_begins : mg "all_begins" = some (.ref (He.ga K "all_begins"))
  D_all_begins : FnD K "all_begins" "all_begins" s_all_begins [] [] (He.ga K "all_begins")
  g_best_end : mg "best_end" = some (.ref (He.ga K "best_end"))
  D_best_end : FnD K "best_end" "best_end" s_best_end [] [] (He.ga K "best_end")
  g_brought : mg "brought" = some (.ref (He.ga K "brought"))
  D_brought : FnD K "brought" "brought" s_brought [] [("boxes", .int 3)] (He.ga K "brought")
  g_are_words : mg "are_words" = some (.ref (He.ga K "are_words"))
  D_are_words : FnD K "are_words" "are_words" s_are_words [] [] (He.ga K "are_words")
  g_is_join : mg "is_join" = some (.ref (He.ga K "is_join"))
  D_is_join : FnD K "is_join" "is_join" s_is_join [] [] (He.ga K "is_join")
  g_covered : mg "covered" = some (.ref (He.ga K "covered"))
  D_covered : FnD K "covered" "covered" s_covered [] [("one", .int 3)] (He.ga K "covered")
  D_Mill___init__ : FnD K "__init__" "Mill.__init__" s_Mill___init__ [] [("boxes", .int 3)] (He.ma K (He.ga K "Mill") "__init__")
  e_Mill_run_worths : ∀ H, SqT K H (kwdAt (He.ma K (He.ga K "Mill") "run") "worths" K) []
  D_Mill_run : FnD K "run" "Mill.run" s_Mill_run [] [("worths", .ref (kwdAt (He.ma K (He.ga K "Mill") "run") "worths" K)), ("most", .int 500), ("heard", .non)] (He.ma K (He.ga K "Mill") "run")
  D_Mill_log : FnD K "log" "Mill.log" s_Mill_log [] [] (He.ma K (He.ga K "Mill") "log")
  D_Mill_made : FnD K "made" "Mill.made" s_Mill_made [] [] (He.ma K (He.ga K "Mill") "made")
  g_are_blocks : mg "are_blocks" = some (.ref (He.ga K "are_blocks"))
  D_are_blocks : FnD K "are_blocks" "are_blocks" s_are_blocks [] [] (He.ga K "are_blocks")
  D_Code___init__ : FnD K "__init__" "Code.__init__" s_Code___init__ [] [] (He.ma K (He.ga K "Code") "__init__")
  D_Code___eq__ : FnD K "__eq__" "Code.__eq__" s_Code___eq__ [] [] (He.ma K (He.ga K "Code") "__eq__")
  D_Code___len__ : FnD K "__len__" "Code.__len__" s_Code___len__ [] [] (He.ma K (He.ga K "Code") "__len__")
  D_Code_find_heights : FnD K "find_heights" "Code.find_heights" s_Code_find_heights [] [] (He.ma K (He.ga K "Code") "find_heights")
  D_Code_blocks : FnD K "blocks" "Code.blocks" s_Code_blocks [] [] (He.ma K (He.ga K "Code") "blocks")
  D_Code_first : FnD K "first" "Code.first" s_Code_first [] [] (He.ma K (He.ga K "Code") "first")
  g__law_rings : mg "_law_rings" = some (.ref (He.ga K "_law_rings"))
  D__law_rings : FnD K "_law_rings" "_law_rings" s__law_rings [] [] (He.ga K "_law_rings")
  g_law : mg "law" = some (.ref (He.ga K "law"))
  D_law : FnD K "law" "law" s_law [] [] (He.ga K "law")
  i_Answer : IsaC K (He.ga K "Answer")
  q_Answer_Code : PySem.W.kitOne K (.ref (He.ga K "Answer")) (.ref (He.ga K "Code")) = some false
  g_Answer : mg "Answer" = some (.ref (He.ga K "Answer"))
  c_Answer : Cls K (He.ga K "Answer")
  i_Ran : IsaC K (He.ga K "Ran")
  q_Ran_Code : PySem.W.kitOne K (.ref (He.ga K "Ran")) (.ref (He.ga K "Code")) = some false
  g_Ran : mg "Ran" = some (.ref (He.ga K "Ran"))
  c_Ran : Cls K (He.ga K "Ran")
  n_Ran_told : NoAttr K (He.ga K "Ran") "told"
  n_Ran_pile : NoAttr K (He.ga K "Ran") "pile"
  n_Ran_steps : NoAttr K (He.ga K "Ran") "steps"
  mk_Ran : Mk K (He.ga K "Ran") (He.ma K (He.ga K "Ran") "__init__")
  i_Dry : IsaC K (He.ga K "Dry")
  q_Dry_Code : PySem.W.kitOne K (.ref (He.ga K "Dry")) (.ref (He.ga K "Code")) = some false
  g_Dry : mg "Dry" = some (.ref (He.ga K "Dry"))
  c_Dry : Cls K (He.ga K "Dry")
  n_Dry_told : NoAttr K (He.ga K "Dry") "told"
  n_Dry_label : NoAttr K (He.ga K "Dry") "label"
  n_Dry_row : NoAttr K (He.ga K "Dry") "row"
  mk_Dry : Mk K (He.ga K "Dry") (He.ma K (He.ga K "Dry") "__init__")
  i_Spent : IsaC K (He.ga K "Spent")
  q_Spent_Code : PySem.W.kitOne K (.ref (He.ga K "Spent")) (.ref (He.ga K "Code")) = some false
  g_Spent : mg "Spent" = some (.ref (He.ga K "Spent"))
  c_Spent : Cls K (He.ga K "Spent")
  n_Spent_told : NoAttr K (He.ga K "Spent") "told"
  mk_Spent : Mk K (He.ga K "Spent") (He.ma K (He.ga K "Spent") "__init__")
  i_Cover : IsaC K (He.ga K "Cover")
  q_Cover_Code : PySem.W.kitOne K (.ref (He.ga K "Cover")) (.ref (He.ga K "Code")) = some false
  g_Cover : mg "Cover" = some (.ref (He.ga K "Cover"))
  c_Cover : Cls K (He.ga K "Cover")
  n_Cover_parts : NoAttr K (He.ga K "Cover") "parts"
  n_Cover_numbers : NoAttr K (He.ga K "Cover") "numbers"
  mk_Cover : Mk K (He.ga K "Cover") (He.ma K (He.ga K "Cover") "__init__")
  i_Tally : IsaC K (He.ga K "Tally")
  q_Tally_Code : PySem.W.kitOne K (.ref (He.ga K "Tally")) (.ref (He.ga K "Code")) = some false
  g_Tally : mg "Tally" = some (.ref (He.ga K "Tally"))
  c_Tally : Cls K (He.ga K "Tally")
  n_Tally_worths : NoAttr K (He.ga K "Tally") "worths"
  n_Tally_most : NoAttr K (He.ga K "Tally") "most"
  n_Tally_heard : NoAttr K (He.ga K "Tally") "heard"
  n_Tally_told_so_far : NoAttr K (He.ga K "Tally") "told_so_far"
  n_Tally_steps_done : NoAttr K (He.ga K "Tally") "steps_done"
  mk_Tally : Mk K (He.ga K "Tally") (He.ma K (He.ga K "Tally") "__init__")
  me_Tally_step : Meth K (He.ga K "Tally") "step" (He.ma K (He.ga K "Tally") "step")
  me_Tally_tell : Meth K (He.ga K "Tally") "tell" (He.ma K (He.ga K "Tally") "tell")
  me_Tally_hear : Meth K (He.ga K "Tally") "hear" (He.ma K (He.ga K "Tally") "hear")
  i_Made : IsaC K (He.ga K "Made")
  q_Made_Code : PySem.W.kitOne K (.ref (He.ga K "Made")) (.ref (He.ga K "Code")) = some false
  g_Made : mg "Made" = some (.ref (He.ga K "Made"))
  c_Made : Cls K (He.ga K "Made")
  n_Made_many_boxes : NoAttr K (He.ga K "Made") "many_boxes"
  n_Made_made_parts : NoAttr K (He.ga K "Made") "made_parts"
  mk_Made : Mk K (He.ga K "Made") (He.ma K (He.ga K "Made") "__init__")
  me_Made_blocks : Meth K (He.ga K "Made") "blocks" (He.ma K (He.ga K "Made") "blocks")
  me_Made_boxes : Meth K (He.ga K "Made") "boxes" (He.ma K (He.ga K "Made") "boxes")
  i_Store : IsaC K (He.ga K "Store")
  q_Store_Code : PySem.W.kitOne K (.ref (He.ga K "Store")) (.ref (He.ga K "Code")) = some false
  g_Store : mg "Store" = some (.ref (He.ga K "Store"))
  c_Store : Cls K (He.ga K "Store")
  n_Store_boxes_full : NoAttr K (He.ga K "Store") "boxes_full"
  n_Store_cellar : NoAttr K (He.ga K "Store") "cellar"
  mk_Store : Mk K (He.ga K "Store") (He.ma K (He.ga K "Store") "__init__")
  me_Store_move : Meth K (He.ga K "Store") "move" (He.ma K (He.ga K "Store") "move")
  i_Mill : IsaC K (He.ga K "Mill")
  q_Mill_Code : PySem.W.kitOne K (.ref (He.ga K "Mill")) (.ref (He.ga K "Code")) = some false
  g_Mill : mg "Mill" = some (.ref (He.ga K "Mill"))
  c_Mill : Cls K (He.ga K "Mill")
  n_Mill_code_made : NoAttr K (He.ga K "Mill") "code_made"
  n_Mill_rows_told : NoAttr K (He.ga K "Mill") "rows_told"
  n_Mill_busy : NoAttr K (He.ga K "Mill") "busy"
  n_Mill_many : NoAttr K (He.ga K "Mill") "many"
  mk_Mill : Mk K (He.ga K "Mill") (He.ma K (He.ga K "Mill") "__init__")
  me_Mill_run : Meth K (He.ga K "Mill") "run" (He.ma K (He.ga K "Mill") "run")
  me_Mill_log : Meth K (He.ga K "Mill") "log" (He.ma K (He.ga K "Mill") "log")
  me_Mill_made : Meth K (He.ga K "Mill") "made" (He.ma K (He.ga K "Mill") "made")
  i_Code : IsaC K (He.ga K "Code")
  q_Code_Code : PySem.W.kitOne K (.ref (He.ga K "Code")) (.ref (He.ga K "Code")) = some true
  g_Code : mg "Code" = some (.ref (He.ga K "Code"))
  c_Code : Cls K (He.ga K "Code")
  n_Code_parts : NoAttr K (He.ga K "Code") "parts"
  n_Code_table : NoAttr K (He.ga K "Code") "table"
  n_Code_high : NoAttr K (He.ga K "Code") "high"
  mk_Code : Mk K (He.ga K "Code") (He.ma K (He.ga K "Code") "__init__")
  me_Code___eq__ : Meth K (He.ga K "Code") "__eq__" (He.ma K (He.ga K "Code") "__eq__")
  me_Code___len__ : Meth K (He.ga K "Code") "__len__" (He.ma K (He.ga K "Code") "__len__")
  me_Code_find_heights : Meth K (He.ga K "Code") "find_heights" (He.ma K (He.ga K "Code") "find_heights")
  me_Code_blocks : Meth K (He.ga K "Code") "blocks" (He.ma K (He.ga K "Code") "blocks")
  me_Code_first : Meth K (He.ga K "Code") "first" (He.ma K (He.ga K "Code") "first")
end Pb

/-! Z4 -/
set_option Elab.async false
set_option linter.all false
set_option maxRecDepth 100000
set_option maxHeartbeats 4000000
namespace Pb
open PySem PySem.Spec PyProof.Rows L2
open C8 (Cal Mak Met pe_c pe_mk pe_mt pe_mt0 pe_gc fnScope_by)
/-! short words -/
local macro_rules | `(tactic| walk_at "rd") => `(tactic| try simp only [tVar, tC, tAdd, tSub, t2I, tIsN, tNotN, tB, tAnd, tOr, tNot, tAndV, tOrV, tNotV, tIf, tSeq, tPar, tPar3, tNext, tBreak, tCont, tDrop, tRet, tRetN, tIfS, gName, gNil, gCons, gTup, gSub, tAsg, tAug, ipI, iList, iTup, iRng1, iRng2, iStr, iEnum, iZip,
  tOp, tUn, rI, rI0, rU, tTest, tChain, tFld, sFld, sFldAug, L2.rAdd, L2.rSub, tNil, tCons, tTup, tLst, tCall, tMeth, tMake, tCB, tNoPart, tPart, tSl, tBM0, tBM, tDGet, tDGet1, tDGet2, tDIn, tDNotIn, sDPut, tDNewK, rEq, rNe, scal_ii, scal_ss, scal_bb, scal_nn, scal_ni, scal_in, scal_ns, scal_sn, scal_is, scal_si, List.take_succ_cons, List.take_zero, List.drop_succ_cons, List.drop_zero, upd_same, upd_upd, and_assoc, tKGet, gStar, tDisp, tPairs, tYes,
  L2.start, List.map_cons, List.map_nil, List.length_cons, List.length_nil, List.cons_append, List.nil_append, List.append_nil, List.replicate, Nat.sub_self, Nat.add_sub_cancel, Nat.reduceAdd, Nat.reduceSub, List.set_cons_zero, List.set_cons_succ, List.getElem?_cons_zero, List.getElem?_cons_succ,
  Option.some.injEq, V.int.injEq, V.bl.injEq, V.str.injEq, V.ref.injEq, exists_eq_left', exists_eq_left, exists_eq', exists_eq, true_and, and_true, if_true, if_false, Bool.false_eq_true, List.cons.injEq, Bool.not_true, Bool.not_false, cxK, cxP, cxW, ite_true, ite_false, wipe, reduceCtorEq, and_self, decide_true, decide_false, exists_and_left, exists_const, decide_eq_true_eq])
local macro_rules | `(tactic| walk_at "len") => `(tactic| (intro vs H Q E h; repeat (first | (obtain ⟨e, _⟩ := h; subst e; rfl) | (obtain ⟨_, h⟩ := h))))
local macro_rules | `(tactic| walk_at "wd") => `(tactic| simp (config := {decide := true}) only [V.str.injEq, scal_ss, true_and, if_true, if_false])

def dd_is_whole : He.DefD := ⟨("is_whole", none), "is_whole", "is_whole", L2.defArgs s_is_whole, L2.defBody s_is_whole, L2.defScope s_is_whole, [], []⟩
def dd_within : He.DefD := ⟨("within", none), "within", "within", L2.defArgs s_within, L2.defBody s_within, L2.defScope s_within, [], []⟩
def dd_is_worth : He.DefD := ⟨("is_worth", none), "is_worth", "is_worth", L2.defArgs s_is_worth, L2.defBody s_is_worth, L2.defScope s_is_worth, [], []⟩
def dd_is_name : He.DefD := ⟨("is_name", none), "is_name", "is_name", L2.defArgs s_is_name, L2.defBody s_is_name, L2.defScope s_is_name, [], []⟩
def dd_is_tuple_of : He.DefD := ⟨("is_tuple_of", none), "is_tuple_of", "is_tuple_of", L2.defArgs s_is_tuple_of, L2.defBody s_is_tuple_of, L2.defScope s_is_tuple_of, [], []⟩
def dd_is_row : He.DefD := ⟨("is_row", none), "is_row", "is_row", L2.defArgs s_is_row, L2.defBody s_is_row, L2.defScope s_is_row, [], []⟩
def dd_is_end : He.DefD := ⟨("is_end", none), "is_end", "is_end", L2.defArgs s_is_end, L2.defBody s_is_end, L2.defScope s_is_end, [], []⟩
def dd_is_move : He.DefD := ⟨("is_move", none), "is_move", "is_move", L2.defArgs s_is_move, L2.defBody s_is_move, L2.defScope s_is_move, [], []⟩
def dd_touches : He.DefD := ⟨("touches", none), "touches", "touches", L2.defArgs s_touches, L2.defBody s_touches, L2.defScope s_touches, [], []⟩
def dd_change : He.DefD := ⟨("change", none), "change", "change", L2.defArgs s_change, L2.defBody s_change, L2.defScope s_change, [], []⟩
def dd_brought_back : He.DefD := ⟨("brought_back", none), "brought_back", "brought_back", L2.defArgs s_brought_back, L2.defBody s_brought_back, L2.defScope s_brought_back, [], []⟩
def dd_summed : He.DefD := ⟨("summed", none), "summed", "summed", L2.defArgs s_summed, L2.defBody s_summed, L2.defScope s_summed, [], []⟩
def dd_done_on : He.DefD := ⟨("done_on", none), "done_on", "done_on", L2.defArgs s_done_on, L2.defBody s_done_on, L2.defScope s_done_on, [], []⟩
def dd_Ran___init__ : He.DefD := ⟨("Ran", some "__init__"), "__init__", "Ran.__init__", L2.defArgs s_Ran___init__, L2.defBody s_Ran___init__, L2.defScope s_Ran___init__, [], []⟩
def dd_Dry___init__ : He.DefD := ⟨("Dry", some "__init__"), "__init__", "Dry.__init__", L2.defArgs s_Dry___init__, L2.defBody s_Dry___init__, L2.defScope s_Dry___init__, [], []⟩
def dd_Spent___init__ : He.DefD := ⟨("Spent", some "__init__"), "__init__", "Spent.__init__", L2.defArgs s_Spent___init__, L2.defBody s_Spent___init__, L2.defScope s_Spent___init__, [], []⟩
def dd_parts_at : He.DefD := ⟨("parts_at", none), "parts_at", "parts_at", L2.defArgs s_parts_at, L2.defBody s_parts_at, L2.defScope s_parts_at, [], []⟩
def dd_Cover___init__ : He.DefD := ⟨("Cover", some "__init__"), "__init__", "Cover.__init__", L2.defArgs s_Cover___init__, L2.defBody s_Cover___init__, L2.defScope s_Cover___init__, [], []⟩
def dd_Tally___init__ : He.DefD := ⟨("Tally", some "__init__"), "__init__", "Tally.__init__", L2.defArgs s_Tally___init__, L2.defBody s_Tally___init__, L2.defScope s_Tally___init__, [], []⟩
def dd_Tally_step : He.DefD := ⟨("Tally", some "step"), "step", "Tally.step", L2.defArgs s_Tally_step, L2.defBody s_Tally_step, L2.defScope s_Tally_step, [], []⟩
def dd_Tally_tell : He.DefD := ⟨("Tally", some "tell"), "tell", "Tally.tell", L2.defArgs s_Tally_tell, L2.defBody s_Tally_tell, L2.defScope s_Tally_tell, [], []⟩
def dd_Tally_hear : He.DefD := ⟨("Tally", some "hear"), "hear", "Tally.hear", L2.defArgs s_Tally_hear, L2.defBody s_Tally_hear, L2.defScope s_Tally_hear, [], []⟩
def dd_check_run : He.DefD := ⟨("check_run", none), "check_run", "check_run", L2.defArgs s_check_run, L2.defBody s_check_run, L2.defScope s_check_run, [], []⟩
def dd_next_label : He.DefD := ⟨("next_label", none), "next_label", "next_label", L2.defArgs s_next_label, L2.defBody s_next_label, L2.defScope s_next_label, [], []⟩
def dd_run : He.DefD := ⟨("run", none), "run", "run", L2.defArgs s_run, L2.defBody s_run, L2.defScope s_run, [], [("worths", .adr fun K => (kwdAt (He.ga K "run") "worths" K)), ("most", .int 500)]⟩
def dd_check_boxes : He.DefD := ⟨("check_boxes", none), "check_boxes", "check_boxes", L2.defArgs s_check_boxes, L2.defBody s_check_boxes, L2.defScope s_check_boxes, [], []⟩
def dd_are_rows : He.DefD := ⟨("are_rows", none), "are_rows", "are_rows", L2.defArgs s_are_rows, L2.defBody s_are_rows, L2.defScope s_are_rows, [], []⟩
def dd_is_made_row : He.DefD := ⟨("is_made_row", none), "is_made_row", "is_made_row", L2.defArgs s_is_made_row, L2.defBody s_is_made_row, L2.defScope s_is_made_row, [], []⟩
def dd_is_made_block : He.DefD := ⟨("is_made_block", none), "is_made_block", "is_made_block", L2.defArgs s_is_made_block, L2.defBody s_is_made_block, L2.defScope s_is_made_block, [], []⟩
def dd_copied : He.DefD := ⟨("copied", none), "copied", "copied", L2.defArgs s_copied, L2.defBody s_copied, L2.defScope s_copied, [], []⟩
def dd_Made___init__ : He.DefD := ⟨("Made", some "__init__"), "__init__", "Made.__init__", L2.defArgs s_Made___init__, L2.defBody s_Made___init__, L2.defScope s_Made___init__, [], [("boxes", .int 3)]⟩
def dd_Made_blocks : He.DefD := ⟨("Made", some "blocks"), "blocks", "Made.blocks", L2.defArgs s_Made_blocks, L2.defBody s_Made_blocks, L2.defScope s_Made_blocks, [], []⟩
def dd_Made_boxes : He.DefD := ⟨("Made", some "boxes"), "boxes", "Made.boxes", L2.defArgs s_Made_boxes, L2.defBody s_Made_boxes, L2.defScope s_Made_boxes, [], []⟩
def dd_Store___init__ : He.DefD := ⟨("Store", some "__init__"), "__init__", "Store.__init__", L2.defArgs s_Store___init__, L2.defBody s_Store___init__, L2.defScope s_Store___init__, [], []⟩
def dd_Store_move : He.DefD := ⟨("Store", some "move"), "move", "Store.move", L2.defArgs s_Store_move, L2.defBody s_Store_move, L2.defScope s_Store_move, [], []⟩
def dd_run_heard : He.DefD := ⟨("run_heard", none), "run_heard", "run_heard", L2.defArgs s_run_heard, L2.defBody s_run_heard, L2.defScope s_run_heard, [], []⟩
def dd_run_made : He.DefD := ⟨("run_made", none), "run_made", "run_made", L2.defArgs s_run_made, L2.defBody s_run_made, L2.defScope s_run_made, [], [("worths", .adr fun K => (kwdAt (He.ga K "run_made") "worths" K)), ("most", .int 500)]⟩
def dd_moves_between : He.DefD := ⟨("moves_between", none), "moves_between", "moves_between", L2.defArgs s_moves_between, L2.defBody s_moves_between, L2.defScope s_moves_between, [], []⟩
def dd_ways_through : He.DefD := ⟨("ways_through", none), "ways_through", "ways_through", L2.defArgs s_ways_through, L2.defBody s_ways_through, L2.defScope s_ways_through, [], []⟩
def dd_with_begin : He.DefD := ⟨("with_begin", none), "with_begin", "with_begin", L2.defArgs s_with_begin, L2.defBody s_with_begin, L2.defScope s_with_begin, [], []⟩
def dd_all_begins : He.DefD := ⟨("all_begins", none), "all_begins", "all_begins", L2.defArgs s_all_begins, L2.defBody s_all_begins, L2.defScope s_all_begins, [], []⟩
def dd_best_end : He.DefD := ⟨("best_end", none), "best_end", "best_end", L2.defArgs s_best_end, L2.defBody s_best_end, L2.defScope s_best_end, [], []⟩
def dd_brought : He.DefD := ⟨("brought", none), "brought", "brought", L2.defArgs s_brought, L2.defBody s_brought, L2.defScope s_brought, [], [("boxes", .int 3)]⟩
def dd_are_words : He.DefD := ⟨("are_words", none), "are_words", "are_words", L2.defArgs s_are_words, L2.defBody s_are_words, L2.defScope s_are_words, [], []⟩
def dd_is_join : He.DefD := ⟨("is_join", none), "is_join", "is_join", L2.defArgs s_is_join, L2.defBody s_is_join, L2.defScope s_is_join, [], []⟩
def dd_covered : He.DefD := ⟨("covered", none), "covered", "covered", L2.defArgs s_covered, L2.defBody s_covered, L2.defScope s_covered, [], [("one", .int 3)]⟩
def dd_Mill___init__ : He.DefD := ⟨("Mill", some "__init__"), "__init__", "Mill.__init__", L2.defArgs s_Mill___init__, L2.defBody s_Mill___init__, L2.defScope s_Mill___init__, [], [("boxes", .int 3)]⟩
def dd_Mill_run : He.DefD := ⟨("Mill", some "run"), "run", "Mill.run", L2.defArgs s_Mill_run, L2.defBody s_Mill_run, L2.defScope s_Mill_run, [], [("worths", .adr fun K => (kwdAt (He.ma K (He.ga K "Mill") "run") "worths" K)), ("most", .int 500), ("heard", .non)]⟩
def dd_Mill_log : He.DefD := ⟨("Mill", some "log"), "log", "Mill.log", L2.defArgs s_Mill_log, L2.defBody s_Mill_log, L2.defScope s_Mill_log, [], []⟩
def dd_Mill_made : He.DefD := ⟨("Mill", some "made"), "made", "Mill.made", L2.defArgs s_Mill_made, L2.defBody s_Mill_made, L2.defScope s_Mill_made, [], []⟩
def dd_are_blocks : He.DefD := ⟨("are_blocks", none), "are_blocks", "are_blocks", L2.defArgs s_are_blocks, L2.defBody s_are_blocks, L2.defScope s_are_blocks, [], []⟩
def dd_Code___init__ : He.DefD := ⟨("Code", some "__init__"), "__init__", "Code.__init__", L2.defArgs s_Code___init__, L2.defBody s_Code___init__, L2.defScope s_Code___init__, [], []⟩
def dd_Code___eq__ : He.DefD := ⟨("Code", some "__eq__"), "__eq__", "Code.__eq__", L2.defArgs s_Code___eq__, L2.defBody s_Code___eq__, L2.defScope s_Code___eq__, [], []⟩
def dd_Code___len__ : He.DefD := ⟨("Code", some "__len__"), "__len__", "Code.__len__", L2.defArgs s_Code___len__, L2.defBody s_Code___len__, L2.defScope s_Code___len__, [], []⟩
def dd_Code_find_heights : He.DefD := ⟨("Code", some "find_heights"), "find_heights", "Code.find_heights", L2.defArgs s_Code_find_heights, L2.defBody s_Code_find_heights, L2.defScope s_Code_find_heights, [], []⟩
def dd_Code_blocks : He.DefD := ⟨("Code", some "blocks"), "blocks", "Code.blocks", L2.defArgs s_Code_blocks, L2.defBody s_Code_blocks, L2.defScope s_Code_blocks, [], []⟩
def dd_Code_first : He.DefD := ⟨("Code", some "first"), "first", "Code.first", L2.defArgs s_Code_first, L2.defBody s_Code_first, L2.defScope s_Code_first, [], []⟩
def dd__law_rings : He.DefD := ⟨("_law_rings", none), "_law_rings", "_law_rings", L2.defArgs s__law_rings, L2.defBody s__law_rings, L2.defScope s__law_rings, [], []⟩
def dd_law : He.DefD := ⟨("law", none), "law", "law", L2.defArgs s_law, L2.defBody s_law, L2.defScope s_law, [], []⟩
def hfn : List He.DefD := [dd_is_whole, dd_within, dd_is_worth, dd_is_name, dd_is_tuple_of, dd_is_row, dd_is_end, dd_is_move, dd_touches, dd_change, dd_brought_back, dd_summed, dd_done_on, dd_Ran___init__, dd_Dry___init__, dd_Spent___init__, dd_parts_at, dd_Cover___init__, dd_Tally___init__, dd_Tally_step, dd_Tally_tell, dd_Tally_hear, dd_check_run, dd_next_label, dd_run, dd_check_boxes, dd_are_rows, dd_is_made_row, dd_is_made_block, dd_copied, dd_Made___init__, dd_Made_blocks, dd_Made_boxes, dd_Store___init__, dd_Store_move, dd_run_heard, dd_run_made, dd_moves_between, dd_ways_through, dd_with_begin, dd_all_begins, dd_best_end, dd_brought, dd_are_words, dd_is_join, dd_covered, dd_Mill___init__, dd_Mill_run, dd_Mill_log, dd_Mill_made, dd_are_blocks, dd_Code___init__, dd_Code___eq__, dd_Code___len__, dd_Code_find_heights, dd_Code_blocks, dd_Code_first, dd__law_rings, dd_law]
def hfa : List He.Fa := [.free "isinstance", .free "int", .free "bool", .free "str", .free "all", .free "len", .free "tuple", .free "list", .free "enumerate", .free "range", .free "min", .free "abs", .free "dict", .free "sum", .free "reversed", .free "zip", .str "LETTERS" "abcdefghijklmnopqrstuvwxyz", .int "LEAST" (-32768), .int "MOST_WORTH" (32767), .int "ROUND" (65536), .int "MOST_BLOCKS" (6), .int "MOST_ROWS" (12), .int "DEEPEST" (12), .glo "WORDS", .glo "SUMS", .glo "TOUCHES", .glo "CHANGES", .glo "MOVES", .int "MOST" (500), .int "GREATEST_MOST" (100000), .int "BOXES" (3), .int "FEWEST_BOXES" (3), .int "MOST_BOXES" (5), .int "MOST_MADE_ROWS" (99), .int "MOST_TAIL" (9), .int "ONE" (3), .int "MOST_WORDS" (40), .int "MOST_JOINS" (6), .int "LONGEST_JOIN" (4), .int "MOST_COST" (9), .glo "is_whole", .glo "within", .glo "is_worth", .glo "is_name", .glo "is_tuple_of", .glo "is_row", .glo "is_end", .glo "is_move", .glo "touches", .glo "change", .glo "brought_back", .glo "summed", .glo "done_on", .glo "parts_at", .glo "check_run", .glo "next_label", .glo "run", .glo "check_boxes", .glo "are_rows", .glo "is_made_row", .glo "is_made_block", .glo "copied", .glo "run_heard", .glo "run_made", .glo "moves_between", .glo "ways_through", .glo "with_begin", .glo "all_begins", .glo "best_end", .glo "brought", .glo "are_words", .glo "is_join", .glo "covered", .glo "are_blocks", .glo "_law_rings", .glo "law", .glo "Answer", .cls "Answer", .glo "Ran", .cls "Ran", .noat "Ran" "told", .noat "Ran" "pile", .noat "Ran" "steps", .mkr "Ran", .glo "Dry", .cls "Dry", .noat "Dry" "told", .noat "Dry" "label", .noat "Dry" "row", .mkr "Dry", .glo "Spent", .cls "Spent", .noat "Spent" "told", .mkr "Spent", .glo "Cover", .cls "Cover", .noat "Cover" "parts", .noat "Cover" "numbers", .mkr "Cover", .glo "Tally", .cls "Tally", .noat "Tally" "worths", .noat "Tally" "most", .noat "Tally" "heard", .noat "Tally" "told_so_far", .noat "Tally" "steps_done", .mkr "Tally", .meth "Tally" "step", .meth "Tally" "tell", .meth "Tally" "hear", .glo "Made", .cls "Made", .noat "Made" "many_boxes", .noat "Made" "made_parts", .mkr "Made", .meth "Made" "blocks", .meth "Made" "boxes", .glo "Store", .cls "Store", .noat "Store" "boxes_full", .noat "Store" "cellar", .mkr "Store", .meth "Store" "move", .glo "Mill", .cls "Mill", .noat "Mill" "code_made", .noat "Mill" "rows_told", .noat "Mill" "busy", .noat "Mill" "many", .mkr "Mill", .meth "Mill" "run", .meth "Mill" "log", .meth "Mill" "made", .glo "Code", .cls "Code", .noat "Code" "parts", .noat "Code" "table", .noat "Code" "high", .mkr "Code", .meth "Code" "__eq__", .meth "Code" "__len__", .meth "Code" "find_heights", .meth "Code" "blocks", .meth "Code" "first"]
def hts : List He.Tab := [(fun K => He.ga K "TOUCHES", ["put", "hear", "same", "drop", "tell", "over", "swap", "if", "go", "stop"]), (fun K => He.ga K "CHANGES", ["put", "hear", "same", "over", "swap", "drop", "tell", "if", "go", "stop"])]
def exL (K : PySem.W.Frag) : List Bool := [He.tupB K "WORDS" [.str "put", .str "plus", .str "less", .str "times", .str "under", .str "same", .str "over", .str "swap", .str "drop", .str "tell", .str "hear"],
  He.tupB K "SUMS" [.str "plus", .str "less", .str "times", .str "under"],
  He.valsB K (He.ga K "TOUCHES") (c_TOUCHES.map fun z => (z.1, He.Dv.int z.2)),
  He.valsB K (He.ga K "CHANGES") (c_CHANGES.map fun z => (z.1, He.Dv.int z.2)),
  He.tupB K "MOVES" [.str "fill", .str "spill"],
  etB K (kwdAt (He.ga K "run") "worths" K),
  etB K (kwdAt (He.ga K "run_made") "worths" K),
  etB K (kwdAt (He.ma K (He.ga K "Mill") "run") "worths" K),
  isaB K (He.ga K "Answer"),
  decide (PySem.W.kitOne K (.ref (He.ga K "Answer")) (.ref (He.ga K "Code")) = some false),
  isaB K (He.ga K "Ran"),
  decide (PySem.W.kitOne K (.ref (He.ga K "Ran")) (.ref (He.ga K "Code")) = some false),
  isaB K (He.ga K "Dry"),
  decide (PySem.W.kitOne K (.ref (He.ga K "Dry")) (.ref (He.ga K "Code")) = some false),
  isaB K (He.ga K "Spent"),
  decide (PySem.W.kitOne K (.ref (He.ga K "Spent")) (.ref (He.ga K "Code")) = some false),
  isaB K (He.ga K "Cover"),
  decide (PySem.W.kitOne K (.ref (He.ga K "Cover")) (.ref (He.ga K "Code")) = some false),
  isaB K (He.ga K "Tally"),
  decide (PySem.W.kitOne K (.ref (He.ga K "Tally")) (.ref (He.ga K "Code")) = some false),
  isaB K (He.ga K "Made"),
  decide (PySem.W.kitOne K (.ref (He.ga K "Made")) (.ref (He.ga K "Code")) = some false),
  isaB K (He.ga K "Store"),
  decide (PySem.W.kitOne K (.ref (He.ga K "Store")) (.ref (He.ga K "Code")) = some false),
  isaB K (He.ga K "Mill"),
  decide (PySem.W.kitOne K (.ref (He.ga K "Mill")) (.ref (He.ga K "Code")) = some false),
  isaB K (He.ga K "Code"),
  decide (PySem.W.kitOne K (.ref (He.ga K "Code")) (.ref (He.ga K "Code")) = some true)]
def hex (K : PySem.W.Frag) : Bool := (exL K).all id
theorem exAt {K : PySem.W.Frag} (h : hex K = true) (i : Nat) {b : Bool} (e : (exL K)[i]? = some b) : b = true := List.all_eq_true.mp h b (List.mem_of_getElem? e)
def htf : List He.Defn := [("covered", none)]
def asR (n : Nat) : List Addr := List.range n
def obsY (n : Nat) (fa : List He.Fa) (fn : List He.DefD) (ts : List He.Tab) (tf : List He.Defn) (ex : PySem.W.Frag → Bool) (g : Addr → Option Obj) : He.AlX := (He.obsT fa fn ts (He.frT g (asR n)), ex (He.frT g (asR n)) && He.tabsB g tf (He.frT g (asR n)))
theorem saysY {n : Nat} {fa : List He.Fa} {fn : List He.DefD} {ts : List He.Tab} {tf : List He.Defn} {ex : PySem.W.Frag → Bool} {w : World} {h : Heap} (e : obsY n fa fn ts tf ex h.get? = He.valX fn ts w) : He.SaysX fa fn ts tf ex w h (He.frT h.get? (asR n)) := by
  have a1 : He.obsT fa fn ts (He.frT h.get? (asR n)) = He.valT fn ts w := congrArg (fun z : He.AlX => z.1) e
  have a2 : (ex (He.frT h.get? (asR n)) && He.tabsB h.get? tf (He.frT h.get? (asR n))) = true := congrArg (fun z : He.AlX => z.2) e
  have a3 := Bool.and_eq_true_iff.mp a2
  have all : ∀ p ∈ tf, PySem.W.codeHdIn (He.frT h.get? (asR n)) (He.cT (He.frT h.get? (asR n)) p).1 (He.cT (He.frT h.get? (asR n)) p).2 = true ∧ ∃ o, h.get? (He.cT (He.frT h.get? (asR n)) p).2 = some o ∧ He.emptyTab o = true := by
    intro p hp
    have b := Bool.and_eq_true_iff.mp (List.all_eq_true.mp a3.2 p hp)
    refine ⟨b.1, ?_⟩
    have b2 := b.2
    generalize h.get? (He.cT (He.frT h.get? (asR n)) p).2 = u at b2
    cases u with
    | none => cases b2
    | some o => exact ⟨o, rfl, b2⟩
  refine ⟨a1, a3.1, fun p hp => (all p hp).1, fun p hp => ?_, fun p hp => ?_⟩
  · obtain ⟨o, q, z⟩ := (all p hp).2
    exact He.frT_none q z
  · obtain ⟨o, q, z⟩ := (all p hp).2
    rw [q, He.emptyTab_eq z]
def hookY (n : Nat) (fa : List He.Fa) (fn : List He.DefD) (ts : List He.Tab) (tf : List He.Defn) (ex : PySem.W.Frag → Bool) : PySem.W.Hook where
  α := He.AlX
  obs := fun s => obsY n fa fn ts tf ex s.heap.get?
  val := fun w => He.valX fn ts w
  says := fun w h => ∃ K : PySem.W.Frag, K.In h ∧ He.SaysX fa fn ts tf ex w h K
  of := fun _ _ e => ⟨_, He.frT_in, saysY e⟩
  keeps := fun _ _ _ ⟨K, hK, c⟩ k => ⟨K, PySem.W.Frag.In.keeps hK k, ⟨c.t, c.more, c.hd, c.out, fun p hp => k _ _ (c.empty p hp)⟩⟩
theorem obsY_eq {n : Nat} {fa : List He.Fa} {fn : List He.DefD} {ts : List He.Tab} {tf : List He.Defn} {ex : PySem.W.Frag → Bool} {g : Addr → Option Obj} {s : Shared} (h : ∀ a, g a = s.heap.get? a) : obsY n fa fn ts tf ex g = (hookY n fa fn ts tf ex).obs s := by
  have e : g = s.heap.get? := funext h
  rw [e] <;> rfl
abbrev hk : PySem.W.Hook := hookY 1500 hfa hfn hts htf hex
def hob (s : PySem.W.SharedT) : He.AlX := obsY 1500 hfa hfn hts htf hex (HandSHeadRun.getT s)
theorem hob_eq (s : PySem.W.SharedT) : hob s = hk.obs s.abs := obsY_eq (HandSHeadRun.getT_eq s)
abbrev hR : PySem.W.OpenRow := PySem.W.OpenLaw.row PySem.Challenge.rw_pileboxes_k10_left_out
abbrev hq : Program := PySem.W.view hR.prog [89]
def hnames : List PySem.Str := (["_wall", "LETTERS", "LEAST", "MOST_WORTH", "ROUND", "MOST_BLOCKS", "MOST_ROWS", "DEEPEST", "WORDS", "SUMS", "TOUCHES", "CHANGES", "MOVES", "is_whole", "within", "is_worth", "is_name", "is_tuple_of", "is_row", "is_end", "is_move", "touches", "change", "brought_back", "summed", "done_on", "Answer", "Ran", "Dry", "Spent"] : List PySem.Str) ++ (["parts_at", "Cover", "PileError", "BadMade", "BadBoxes", "BadWorths", "BadMost", "BadJoins", "BadWords", "BadCost", "Busy", "BadCode", "MOST", "GREATEST_MOST", "Tally", "check_run", "next_label", "run", "BOXES", "FEWEST_BOXES", "MOST_BOXES", "MOST_MADE_ROWS", "MOST_TAIL", "check_boxes", "are_rows", "is_made_row", "is_made_block", "copied", "Made", "Store"] : List PySem.Str) ++ (["run_heard", "run_made", "moves_between", "ways_through", "with_begin", "all_begins", "best_end", "brought", "ONE", "MOST_WORDS", "MOST_JOINS", "LONGEST_JOIN", "MOST_COST", "are_words", "is_join", "covered", "Mill", "are_blocks", "Code", "_law_rings"] : List PySem.Str)
theorem runF (w : World) : HandSHeadRun.RunEq hR hq hk hob 12000 hnames (w.withFollow "special-get-raises" false) := by
  intro os
  kernel_rfl
theorem runT (w : World) : HandSHeadRun.RunEq hR hq hk hob 12000 hnames (w.withFollow "special-get-raises" true) := by
  intro os
  kernel_rfl
theorem hrun (w : World) : HandSHeadRun.RunEq hR hq hk hob 12000 hnames w := PySem.W.byRow2 "special-get-raises" runF runT w
theorem tx_of {w : World} {K : PySem.W.Frag} {h : Heap} {mg : Str → Option Value} (X : K.In h) (G : h.Ns mainGlobals mg) (c : He.SaysX hfa hfn hts htf hex w h K) : Tx w K mg where
  b_isinstance := He.free_ok X G (c.t.d.fact 0 (f := .free "isinstance") rfl)
  b_int := He.free_ok X G (c.t.d.fact 1 (f := .free "int") rfl)
  b_bool := He.free_ok X G (c.t.d.fact 2 (f := .free "bool") rfl)
  b_str := He.free_ok X G (c.t.d.fact 3 (f := .free "str") rfl)
  b_all := He.free_ok X G (c.t.d.fact 4 (f := .free "all") rfl)
  b_len := He.free_ok X G (c.t.d.fact 5 (f := .free "len") rfl)
  b_tuple := He.free_ok X G (c.t.d.fact 6 (f := .free "tuple") rfl)
  b_list := He.free_ok X G (c.t.d.fact 7 (f := .free "list") rfl)
  b_enumerate := He.free_ok X G (c.t.d.fact 8 (f := .free "enumerate") rfl)
  b_range := He.free_ok X G (c.t.d.fact 9 (f := .free "range") rfl)
  b_min := He.free_ok X G (c.t.d.fact 10 (f := .free "min") rfl)
  b_abs := He.free_ok X G (c.t.d.fact 11 (f := .free "abs") rfl)
  b_dict := He.free_ok X G (c.t.d.fact 12 (f := .free "dict") rfl)
  b_sum := He.free_ok X G (c.t.d.fact 13 (f := .free "sum") rfl)
  b_reversed := He.free_ok X G (c.t.d.fact 14 (f := .free "reversed") rfl)
  b_zip := He.free_ok X G (c.t.d.fact 15 (f := .free "zip") rfl)
  v_LETTERS := by obtain ⟨t, e⟩ := He.str_ok X G (c.t.d.fact 16 (f := .str "LETTERS" "abcdefghijklmnopqrstuvwxyz") rfl); exact ⟨_, e, t, rfl⟩
  v_LEAST := by obtain ⟨t, e⟩ := He.int_ok X G (c.t.d.fact 17 (f := .int "LEAST" (-32768)) rfl); exact ⟨_, e, t, rfl⟩
  v_MOST_WORTH := by obtain ⟨t, e⟩ := He.int_ok X G (c.t.d.fact 18 (f := .int "MOST_WORTH" (32767)) rfl); exact ⟨_, e, t, rfl⟩
  v_ROUND := by obtain ⟨t, e⟩ := He.int_ok X G (c.t.d.fact 19 (f := .int "ROUND" (65536)) rfl); exact ⟨_, e, t, rfl⟩
  v_MOST_BLOCKS := by obtain ⟨t, e⟩ := He.int_ok X G (c.t.d.fact 20 (f := .int "MOST_BLOCKS" (6)) rfl); exact ⟨_, e, t, rfl⟩
  v_MOST_ROWS := by obtain ⟨t, e⟩ := He.int_ok X G (c.t.d.fact 21 (f := .int "MOST_ROWS" (12)) rfl); exact ⟨_, e, t, rfl⟩
  v_DEEPEST := by obtain ⟨t, e⟩ := He.int_ok X G (c.t.d.fact 22 (f := .int "DEEPEST" (12)) rfl); exact ⟨_, e, t, rfl⟩
  v_WORDS := ⟨_, He.glo_ok X G (c.t.d.fact 23 (f := .glo "WORDS") rfl), rfl⟩
  t_WORDS := fun H => He.tupB_ok (vs := [.str "put", .str "plus", .str "less", .str "times", .str "under", .str "same", .str "over", .str "swap", .str "drop", .str "tell", .str "hear"]) (exAt c.more 0 rfl) H
  v_SUMS := ⟨_, He.glo_ok X G (c.t.d.fact 24 (f := .glo "SUMS") rfl), rfl⟩
  t_SUMS := fun H => He.tupB_ok (vs := [.str "plus", .str "less", .str "times", .str "under"]) (exAt c.more 1 rfl) H
  v_TOUCHES := ⟨_, He.glo_ok X G (c.t.d.fact 25 (f := .glo "TOUCHES") rfl), rfl⟩
  k_TOUCHES := c.t.tab 0 (t := (fun K => He.ga K "TOUCHES", ["put", "hear", "same", "drop", "tell", "over", "swap", "if", "go", "stop"])) rfl
  x_TOUCHES := fun z hz => by obtain ⟨u, e1, e2⟩ := He.valsB_ok (kvs := c_TOUCHES.map fun z => (z.1, He.Dv.int z.2)) (exAt c.more 2 rfl) (List.mem_map.mpr ⟨z, hz, rfl⟩); exact ⟨u, e1, e2⟩
  v_CHANGES := ⟨_, He.glo_ok X G (c.t.d.fact 26 (f := .glo "CHANGES") rfl), rfl⟩
  k_CHANGES := c.t.tab 1 (t := (fun K => He.ga K "CHANGES", ["put", "hear", "same", "over", "swap", "drop", "tell", "if", "go", "stop"])) rfl
  x_CHANGES := fun z hz => by obtain ⟨u, e1, e2⟩ := He.valsB_ok (kvs := c_CHANGES.map fun z => (z.1, He.Dv.int z.2)) (exAt c.more 3 rfl) (List.mem_map.mpr ⟨z, hz, rfl⟩); exact ⟨u, e1, e2⟩
  v_MOVES := ⟨_, He.glo_ok X G (c.t.d.fact 27 (f := .glo "MOVES") rfl), rfl⟩
  t_MOVES := fun H => He.tupB_ok (vs := [.str "fill", .str "spill"]) (exAt c.more 4 rfl) H
  v_MOST := by obtain ⟨t, e⟩ := He.int_ok X G (c.t.d.fact 28 (f := .int "MOST" (500)) rfl); exact ⟨_, e, t, rfl⟩
  v_GREATEST_MOST := by obtain ⟨t, e⟩ := He.int_ok X G (c.t.d.fact 29 (f := .int "GREATEST_MOST" (100000)) rfl); exact ⟨_, e, t, rfl⟩
  v_BOXES := by obtain ⟨t, e⟩ := He.int_ok X G (c.t.d.fact 30 (f := .int "BOXES" (3)) rfl); exact ⟨_, e, t, rfl⟩
  v_FEWEST_BOXES := by obtain ⟨t, e⟩ := He.int_ok X G (c.t.d.fact 31 (f := .int "FEWEST_BOXES" (3)) rfl); exact ⟨_, e, t, rfl⟩
  v_MOST_BOXES := by obtain ⟨t, e⟩ := He.int_ok X G (c.t.d.fact 32 (f := .int "MOST_BOXES" (5)) rfl); exact ⟨_, e, t, rfl⟩
  v_MOST_MADE_ROWS := by obtain ⟨t, e⟩ := He.int_ok X G (c.t.d.fact 33 (f := .int "MOST_MADE_ROWS" (99)) rfl); exact ⟨_, e, t, rfl⟩
  v_MOST_TAIL := by obtain ⟨t, e⟩ := He.int_ok X G (c.t.d.fact 34 (f := .int "MOST_TAIL" (9)) rfl); exact ⟨_, e, t, rfl⟩
  v_ONE := by obtain ⟨t, e⟩ := He.int_ok X G (c.t.d.fact 35 (f := .int "ONE" (3)) rfl); exact ⟨_, e, t, rfl⟩
  v_MOST_WORDS := by obtain ⟨t, e⟩ := He.int_ok X G (c.t.d.fact 36 (f := .int "MOST_WORDS" (40)) rfl); exact ⟨_, e, t, rfl⟩
  v_MOST_JOINS := by obtain ⟨t, e⟩ := He.int_ok X G (c.t.d.fact 37 (f := .int "MOST_JOINS" (6)) rfl); exact ⟨_, e, t, rfl⟩
  v_LONGEST_JOIN := by obtain ⟨t, e⟩ := He.int_ok X G (c.t.d.fact 38 (f := .int "LONGEST_JOIN" (4)) rfl); exact ⟨_, e, t, rfl⟩
  v_MOST_COST := by obtain ⟨t, e⟩ := He.int_ok X G (c.t.d.fact 39 (f := .int "MOST_COST" (9)) rfl); exact ⟨_, e, t, rfl⟩
  g_is_whole := He.glo_ok X G (c.t.d.fact 40 (f := .glo "is_whole") rfl)
  D_is_whole := c.t.d.def_ 0 (d := dd_is_whole) rfl
  g_within := He.glo_ok X G (c.t.d.fact 41 (f := .glo "within") rfl)
  D_within := c.t.d.def_ 1 (d := dd_within) rfl
  g_is_worth := He.glo_ok X G (c.t.d.fact 42 (f := .glo "is_worth") rfl)
  D_is_worth := c.t.d.def_ 2 (d := dd_is_worth) rfl
  g_is_name := He.glo_ok X G (c.t.d.fact 43 (f := .glo "is_name") rfl)
  D_is_name := c.t.d.def_ 3 (d := dd_is_name) rfl
  g_is_tuple_of := He.glo_ok X G (c.t.d.fact 44 (f := .glo "is_tuple_of") rfl)
  D_is_tuple_of := c.t.d.def_ 4 (d := dd_is_tuple_of) rfl
  g_is_row := He.glo_ok X G (c.t.d.fact 45 (f := .glo "is_row") rfl)
  D_is_row := c.t.d.def_ 5 (d := dd_is_row) rfl
  g_is_end := He.glo_ok X G (c.t.d.fact 46 (f := .glo "is_end") rfl)
  D_is_end := c.t.d.def_ 6 (d := dd_is_end) rfl
  g_is_move := He.glo_ok X G (c.t.d.fact 47 (f := .glo "is_move") rfl)
  D_is_move := c.t.d.def_ 7 (d := dd_is_move) rfl
  g_touches := He.glo_ok X G (c.t.d.fact 48 (f := .glo "touches") rfl)
  D_touches := c.t.d.def_ 8 (d := dd_touches) rfl
  g_change := He.glo_ok X G (c.t.d.fact 49 (f := .glo "change") rfl)
  D_change := c.t.d.def_ 9 (d := dd_change) rfl
  g_brought_back := He.glo_ok X G (c.t.d.fact 50 (f := .glo "brought_back") rfl)
  D_brought_back := c.t.d.def_ 10 (d := dd_brought_back) rfl
  g_summed := He.glo_ok X G (c.t.d.fact 51 (f := .glo "summed") rfl)
  D_summed := c.t.d.def_ 11 (d := dd_summed) rfl
  g_done_on := He.glo_ok X G (c.t.d.fact 52 (f := .glo "done_on") rfl)
  D_done_on := c.t.d.def_ 12 (d := dd_done_on) rfl
  D_Ran___init__ := c.t.d.def_ 13 (d := dd_Ran___init__) rfl
  D_Dry___init__ := c.t.d.def_ 14 (d := dd_Dry___init__) rfl
  D_Spent___init__ := c.t.d.def_ 15 (d := dd_Spent___init__) rfl
  g_parts_at := He.glo_ok X G (c.t.d.fact 53 (f := .glo "parts_at") rfl)
  D_parts_at := c.t.d.def_ 16 (d := dd_parts_at) rfl
  D_Cover___init__ := c.t.d.def_ 17 (d := dd_Cover___init__) rfl
  D_Tally___init__ := c.t.d.def_ 18 (d := dd_Tally___init__) rfl
  D_Tally_step := c.t.d.def_ 19 (d := dd_Tally_step) rfl
  D_Tally_tell := c.t.d.def_ 20 (d := dd_Tally_tell) rfl
  D_Tally_hear := c.t.d.def_ 21 (d := dd_Tally_hear) rfl
  g_check_run := He.glo_ok X G (c.t.d.fact 54 (f := .glo "check_run") rfl)
  D_check_run := c.t.d.def_ 22 (d := dd_check_run) rfl
  g_next_label := He.glo_ok X G (c.t.d.fact 55 (f := .glo "next_label") rfl)
  D_next_label := c.t.d.def_ 23 (d := dd_next_label) rfl
  g_run := He.glo_ok X G (c.t.d.fact 56 (f := .glo "run") rfl)
  e_run_worths := fun H => etB_ok (exAt c.more 5 rfl) H
  D_run := c.t.d.def_ 24 (d := dd_run) rfl
  g_check_boxes := He.glo_ok X G (c.t.d.fact 57 (f := .glo "check_boxes") rfl)
  D_check_boxes := c.t.d.def_ 25 (d := dd_check_boxes) rfl
  g_are_rows := He.glo_ok X G (c.t.d.fact 58 (f := .glo "are_rows") rfl)
  D_are_rows := c.t.d.def_ 26 (d := dd_are_rows) rfl
  g_is_made_row := He.glo_ok X G (c.t.d.fact 59 (f := .glo "is_made_row") rfl)
  D_is_made_row := c.t.d.def_ 27 (d := dd_is_made_row) rfl
  g_is_made_block := He.glo_ok X G (c.t.d.fact 60 (f := .glo "is_made_block") rfl)
  D_is_made_block := c.t.d.def_ 28 (d := dd_is_made_block) rfl
  g_copied := He.glo_ok X G (c.t.d.fact 61 (f := .glo "copied") rfl)
  D_copied := c.t.d.def_ 29 (d := dd_copied) rfl
  D_Made___init__ := c.t.d.def_ 30 (d := dd_Made___init__) rfl
  D_Made_blocks := c.t.d.def_ 31 (d := dd_Made_blocks) rfl
  D_Made_boxes := c.t.d.def_ 32 (d := dd_Made_boxes) rfl
  D_Store___init__ := c.t.d.def_ 33 (d := dd_Store___init__) rfl
  D_Store_move := c.t.d.def_ 34 (d := dd_Store_move) rfl
  g_run_heard := He.glo_ok X G (c.t.d.fact 62 (f := .glo "run_heard") rfl)
  D_run_heard := c.t.d.def_ 35 (d := dd_run_heard) rfl
  g_run_made := He.glo_ok X G (c.t.d.fact 63 (f := .glo "run_made") rfl)
  e_run_made_worths := fun H => etB_ok (exAt c.more 6 rfl) H
  D_run_made := c.t.d.def_ 36 (d := dd_run_made) rfl
  g_moves_between := He.glo_ok X G (c.t.d.fact 64 (f := .glo "moves_between") rfl)
  D_moves_between := c.t.d.def_ 37 (d := dd_moves_between) rfl
  g_ways_through := He.glo_ok X G (c.t.d.fact 65 (f := .glo "ways_through") rfl)
  D_ways_through := c.t.d.def_ 38 (d := dd_ways_through) rfl
  g_with_begin := He.glo_ok X G (c.t.d.fact 66 (f := .glo "with_begin") rfl)
  D_with_begin := c.t.d.def_ 39 (d := dd_with_begin) rfl
  g_all_begins := He.glo_ok X G (c.t.d.fact 67 (f := .glo "all_begins") rfl)
  D_all_begins := c.t.d.def_ 40 (d := dd_all_begins) rfl
  g_best_end := He.glo_ok X G (c.t.d.fact 68 (f := .glo "best_end") rfl)
  D_best_end := c.t.d.def_ 41 (d := dd_best_end) rfl
  g_brought := He.glo_ok X G (c.t.d.fact 69 (f := .glo "brought") rfl)
  D_brought := c.t.d.def_ 42 (d := dd_brought) rfl
  g_are_words := He.glo_ok X G (c.t.d.fact 70 (f := .glo "are_words") rfl)
  D_are_words := c.t.d.def_ 43 (d := dd_are_words) rfl
  g_is_join := He.glo_ok X G (c.t.d.fact 71 (f := .glo "is_join") rfl)
  D_is_join := c.t.d.def_ 44 (d := dd_is_join) rfl
  g_covered := He.glo_ok X G (c.t.d.fact 72 (f := .glo "covered") rfl)
  D_covered := c.t.d.def_ 45 (d := dd_covered) rfl
  D_Mill___init__ := c.t.d.def_ 46 (d := dd_Mill___init__) rfl
  e_Mill_run_worths := fun H => etB_ok (exAt c.more 7 rfl) H
  D_Mill_run := c.t.d.def_ 47 (d := dd_Mill_run) rfl
  D_Mill_log := c.t.d.def_ 48 (d := dd_Mill_log) rfl
  D_Mill_made := c.t.d.def_ 49 (d := dd_Mill_made) rfl
  g_are_blocks := He.glo_ok X G (c.t.d.fact 73 (f := .glo "are_blocks") rfl)
  D_are_blocks := c.t.d.def_ 50 (d := dd_are_blocks) rfl
  D_Code___init__ := c.t.d.def_ 51 (d := dd_Code___init__) rfl
  D_Code___eq__ := c.t.d.def_ 52 (d := dd_Code___eq__) rfl
  D_Code___len__ := c.t.d.def_ 53 (d := dd_Code___len__) rfl
  D_Code_find_heights := c.t.d.def_ 54 (d := dd_Code_find_heights) rfl
  D_Code_blocks := c.t.d.def_ 55 (d := dd_Code_blocks) rfl
  D_Code_first := c.t.d.def_ 56 (d := dd_Code_first) rfl
  g__law_rings := He.glo_ok X G (c.t.d.fact 74 (f := .glo "_law_rings") rfl)
  D__law_rings := c.t.d.def_ 57 (d := dd__law_rings) rfl
  g_law := He.glo_ok X G (c.t.d.fact 75 (f := .glo "law") rfl)
  D_law := c.t.d.def_ 58 (d := dd_law) rfl
  i_Answer := isaB_ok (exAt c.more 8 rfl)
  q_Answer_Code := of_decide_eq_true (exAt c.more 9 rfl)
  g_Answer := He.glo_ok X G (c.t.d.fact 76 (f := .glo "Answer") rfl)
  c_Answer := He.cls_ok (c.t.d.fact 77 (f := .cls "Answer") rfl)
  i_Ran := isaB_ok (exAt c.more 10 rfl)
  q_Ran_Code := of_decide_eq_true (exAt c.more 11 rfl)
  g_Ran := He.glo_ok X G (c.t.d.fact 78 (f := .glo "Ran") rfl)
  c_Ran := He.cls_ok (c.t.d.fact 79 (f := .cls "Ran") rfl)
  n_Ran_told := He.noat_ok (c.t.d.fact 80 (f := .noat "Ran" "told") rfl)
  n_Ran_pile := He.noat_ok (c.t.d.fact 81 (f := .noat "Ran" "pile") rfl)
  n_Ran_steps := He.noat_ok (c.t.d.fact 82 (f := .noat "Ran" "steps") rfl)
  mk_Ran := He.mkr_ok (c.t.d.fact 83 (f := .mkr "Ran") rfl)
  i_Dry := isaB_ok (exAt c.more 12 rfl)
  q_Dry_Code := of_decide_eq_true (exAt c.more 13 rfl)
  g_Dry := He.glo_ok X G (c.t.d.fact 84 (f := .glo "Dry") rfl)
  c_Dry := He.cls_ok (c.t.d.fact 85 (f := .cls "Dry") rfl)
  n_Dry_told := He.noat_ok (c.t.d.fact 86 (f := .noat "Dry" "told") rfl)
  n_Dry_label := He.noat_ok (c.t.d.fact 87 (f := .noat "Dry" "label") rfl)
  n_Dry_row := He.noat_ok (c.t.d.fact 88 (f := .noat "Dry" "row") rfl)
  mk_Dry := He.mkr_ok (c.t.d.fact 89 (f := .mkr "Dry") rfl)
  i_Spent := isaB_ok (exAt c.more 14 rfl)
  q_Spent_Code := of_decide_eq_true (exAt c.more 15 rfl)
  g_Spent := He.glo_ok X G (c.t.d.fact 90 (f := .glo "Spent") rfl)
  c_Spent := He.cls_ok (c.t.d.fact 91 (f := .cls "Spent") rfl)
  n_Spent_told := He.noat_ok (c.t.d.fact 92 (f := .noat "Spent" "told") rfl)
  mk_Spent := He.mkr_ok (c.t.d.fact 93 (f := .mkr "Spent") rfl)
  i_Cover := isaB_ok (exAt c.more 16 rfl)
  q_Cover_Code := of_decide_eq_true (exAt c.more 17 rfl)
  g_Cover := He.glo_ok X G (c.t.d.fact 94 (f := .glo "Cover") rfl)
  c_Cover := He.cls_ok (c.t.d.fact 95 (f := .cls "Cover") rfl)
  n_Cover_parts := He.noat_ok (c.t.d.fact 96 (f := .noat "Cover" "parts") rfl)
  n_Cover_numbers := He.noat_ok (c.t.d.fact 97 (f := .noat "Cover" "numbers") rfl)
  mk_Cover := He.mkr_ok (c.t.d.fact 98 (f := .mkr "Cover") rfl)
  i_Tally := isaB_ok (exAt c.more 18 rfl)
  q_Tally_Code := of_decide_eq_true (exAt c.more 19 rfl)
  g_Tally := He.glo_ok X G (c.t.d.fact 99 (f := .glo "Tally") rfl)
  c_Tally := He.cls_ok (c.t.d.fact 100 (f := .cls "Tally") rfl)
  n_Tally_worths := He.noat_ok (c.t.d.fact 101 (f := .noat "Tally" "worths") rfl)
  n_Tally_most := He.noat_ok (c.t.d.fact 102 (f := .noat "Tally" "most") rfl)
  n_Tally_heard := He.noat_ok (c.t.d.fact 103 (f := .noat "Tally" "heard") rfl)
  n_Tally_told_so_far := He.noat_ok (c.t.d.fact 104 (f := .noat "Tally" "told_so_far") rfl)
  n_Tally_steps_done := He.noat_ok (c.t.d.fact 105 (f := .noat "Tally" "steps_done") rfl)
  mk_Tally := He.mkr_ok (c.t.d.fact 106 (f := .mkr "Tally") rfl)
  me_Tally_step := He.meth_ok (c.t.d.fact 107 (f := .meth "Tally" "step") rfl)
  me_Tally_tell := He.meth_ok (c.t.d.fact 108 (f := .meth "Tally" "tell") rfl)
  me_Tally_hear := He.meth_ok (c.t.d.fact 109 (f := .meth "Tally" "hear") rfl)
  i_Made := isaB_ok (exAt c.more 20 rfl)
  q_Made_Code := of_decide_eq_true (exAt c.more 21 rfl)
  g_Made := He.glo_ok X G (c.t.d.fact 110 (f := .glo "Made") rfl)
  c_Made := He.cls_ok (c.t.d.fact 111 (f := .cls "Made") rfl)
  n_Made_many_boxes := He.noat_ok (c.t.d.fact 112 (f := .noat "Made" "many_boxes") rfl)
  n_Made_made_parts := He.noat_ok (c.t.d.fact 113 (f := .noat "Made" "made_parts") rfl)
  mk_Made := He.mkr_ok (c.t.d.fact 114 (f := .mkr "Made") rfl)
  me_Made_blocks := He.meth_ok (c.t.d.fact 115 (f := .meth "Made" "blocks") rfl)
  me_Made_boxes := He.meth_ok (c.t.d.fact 116 (f := .meth "Made" "boxes") rfl)
  i_Store := isaB_ok (exAt c.more 22 rfl)
  q_Store_Code := of_decide_eq_true (exAt c.more 23 rfl)
  g_Store := He.glo_ok X G (c.t.d.fact 117 (f := .glo "Store") rfl)
  c_Store := He.cls_ok (c.t.d.fact 118 (f := .cls "Store") rfl)
  n_Store_boxes_full := He.noat_ok (c.t.d.fact 119 (f := .noat "Store" "boxes_full") rfl)
  n_Store_cellar := He.noat_ok (c.t.d.fact 120 (f := .noat "Store" "cellar") rfl)
  mk_Store := He.mkr_ok (c.t.d.fact 121 (f := .mkr "Store") rfl)
  me_Store_move := He.meth_ok (c.t.d.fact 122 (f := .meth "Store" "move") rfl)
  i_Mill := isaB_ok (exAt c.more 24 rfl)
  q_Mill_Code := of_decide_eq_true (exAt c.more 25 rfl)
  g_Mill := He.glo_ok X G (c.t.d.fact 123 (f := .glo "Mill") rfl)
  c_Mill := He.cls_ok (c.t.d.fact 124 (f := .cls "Mill") rfl)
  n_Mill_code_made := He.noat_ok (c.t.d.fact 125 (f := .noat "Mill" "code_made") rfl)
  n_Mill_rows_told := He.noat_ok (c.t.d.fact 126 (f := .noat "Mill" "rows_told") rfl)
  n_Mill_busy := He.noat_ok (c.t.d.fact 127 (f := .noat "Mill" "busy") rfl)
  n_Mill_many := He.noat_ok (c.t.d.fact 128 (f := .noat "Mill" "many") rfl)
  mk_Mill := He.mkr_ok (c.t.d.fact 129 (f := .mkr "Mill") rfl)
  me_Mill_run := He.meth_ok (c.t.d.fact 130 (f := .meth "Mill" "run") rfl)
  me_Mill_log := He.meth_ok (c.t.d.fact 131 (f := .meth "Mill" "log") rfl)
  me_Mill_made := He.meth_ok (c.t.d.fact 132 (f := .meth "Mill" "made") rfl)
  i_Code := isaB_ok (exAt c.more 26 rfl)
  q_Code_Code := of_decide_eq_true (exAt c.more 27 rfl)
  g_Code := He.glo_ok X G (c.t.d.fact 133 (f := .glo "Code") rfl)
  c_Code := He.cls_ok (c.t.d.fact 134 (f := .cls "Code") rfl)
  n_Code_parts := He.noat_ok (c.t.d.fact 135 (f := .noat "Code" "parts") rfl)
  n_Code_table := He.noat_ok (c.t.d.fact 136 (f := .noat "Code" "table") rfl)
  n_Code_high := He.noat_ok (c.t.d.fact 137 (f := .noat "Code" "high") rfl)
  mk_Code := He.mkr_ok (c.t.d.fact 138 (f := .mkr "Code") rfl)
  me_Code___eq__ := He.meth_ok (c.t.d.fact 139 (f := .meth "Code" "__eq__") rfl)
  me_Code___len__ := He.meth_ok (c.t.d.fact 140 (f := .meth "Code" "__len__") rfl)
  me_Code_find_heights := He.meth_ok (c.t.d.fact 141 (f := .meth "Code" "find_heights") rfl)
  me_Code_blocks := He.meth_ok (c.t.d.fact 142 (f := .meth "Code" "blocks") rfl)
  me_Code_first := He.meth_ok (c.t.d.fact 143 (f := .meth "Code" "first") rfl)
end Pb

/-! PbTup -/
set_option Elab.async false
set_option linter.all false
set_option maxRecDepth 100000
set_option maxHeartbeats 4000000
/-! Pb: tuples of five -/
namespace Pb
open PySem PySem.Spec PyProof.Rows L2
theorem atI_3 {α : Type} {a b c d : α} {xs : List α} : atI (a :: b :: c :: d :: xs) 3 = some d := by
  unfold atI ixN
  rw [if_pos (by omega), if_pos (by simp only [List.length_cons]; omega)]
  rfl
theorem atI_4 {α : Type} {a b c d e : α} {xs : List α} : atI (a :: b :: c :: d :: e :: xs) 4 = some e := by
  unfold atI ixN
  rw [if_pos (by omega), if_pos (by simp only [List.length_cons]; omega)]
  rfl
theorem a_t5V {K : PySem.W.Frag} {H : Hp} {σ : L2.St} {Q : L2.St → Hp → Prop} {i j k l m : Nat} {p : Addr} {u v x z y : V} (h : SqT K H p [u, v, x, z, y]) (q : Q (((((σ.set i (some u)).set j (some v)).set k (some x)).set l (some z)).set m (some y)) H) : gT K 5 (gCons (gName i) (gCons (gName j) (gCons (gName k) (gCons (gName l) (gCons (gName m) gNil))))) (.ref p) σ H Q :=
  ⟨p, _, rfl, h, rfl, _, _, rfl, _, _, rfl, _, _, rfl, _, _, rfl, _, _, rfl, rfl, q⟩
theorem dp_t5 {K : PySem.W.Frag} {H : Hp} {y : V} {a b c d e : PyData} (h : Dp K H y (.tuple [a, b, c, d, e])) : ∃ p u v x z t, y = .ref p ∧ SqT K H p [u, v, x, z, t] ∧ Dp K H u a ∧ Dp K H v b ∧ Dp K H x c ∧ Dp K H z d ∧ Dp K H t e := by
  obtain ⟨p, ys, rfl, hys, hya⟩ := dp_tuple h
  cases hya with
  | cons h1 hya =>
    cases hya with
    | cons h2 hya =>
      cases hya with
      | cons h3 hya =>
        cases hya with
        | cons h4 hya =>
          cases hya with
          | cons h5 hya =>
            cases hya
            exact ⟨p, _, _, _, _, _, rfl, hys, h1, h2, h3, h4, h5⟩
theorem same_own {H0 H H' : Hp} {ms : List Addr} (s : Same H0 H) (sx : Sx ms H H') (n : ∀ m ∈ ms, H0 m = none) : Same H0 H' := fun b o e => sx b o (fun z => by rw [n b z] at e; cases e) (s b o e)
theorem hide_own {H0 H : Hp} {ms ks : List Addr} (s : Same H0 H) (n : ∀ k ∈ ks, H0 k = none) : Same (hide H0 ms) (hide H ks) := fun b o e => by
  obtain ⟨e1, e2⟩ := hide_of e
  rw [hide_at fun z => by rw [n b z] at e1; cases e1]
  exact s b o e1
theorem g_name {i : Nat} {v : V} {σ : L2.St} {H : Hp} {Q : L2.St → Hp → Prop} (h : Q (σ.set i (some v)) H) : gName i v σ H Q := h
/-- an if as a statement: what stands behind its test -/
theorem if_mid {t : TT} {A B : TS} {D : Ends} {σ : L2.St} {H : Hp} (mid : Bool → Hp → Prop) (h : ∀ Kx : Bool → Hp → Prop, (∀ b H', mid b H' → Kx b H') → t σ H Kx) (hT : ∀ H', mid true H' → A D σ H') (hF : ∀ H', mid false H' → B D σ H') : tIfS t A B D σ H :=
  h (fun b H1 => if b = true then A D σ H1 else B D σ H1) fun b H' m => by
    cases b with
    | true => exact hT H' m
    | false => exact hF H' m
end Pb

/-! PbIn -/
set_option Elab.async false
set_option linter.all false
set_option maxRecDepth 100000
set_option maxHeartbeats 4000000
/-! Pb: in with a tuple of data, a dict held against an empty one -/
namespace Pb
open PySem PySem.Spec PyProof.Rows L2
theorem u65 {k : Nat} {A : Around} (r : Room k A) : A.units + 65 < cLine := by have := r.un; omega
section
variable {X : Cx}
def rInT (K : PySem.W.Frag) (neg : Bool) : R2 := fun x y H Q => ∃ d ds, Dp K H x d ∧ Dp K H y (.tuple ds) ∧ SeqAt.shaped d = true ∧ SeqAt.shaped (.tuple ds) = true ∧ Q (.bl (if neg then !ds.any fun z => PyData.eqv z d else ds.any fun z => PyData.eqv z d)) H
theorem op_inT (hu : X.A.units + 65 < cLine) : OpR X (compareOp .In) (rInT X.K false) := by
  intro pins s σ H x y v u Q I rx ry h
  obtain ⟨d, ds, hd, he, sd, se, q⟩ := h
  obtain ⟨as, r1⟩ := Dp.reads I d x v hd rx
  obtain ⟨bs, r2⟩ := Dp.reads I (.tuple ds) y u he ry
  exact SeqAt.in_tuple_reads r2 r1 (SeqAt.canLay_of_shaped se) (SeqAt.canLay_of_shaped sd) (room_in_shaped sd hu) ⟨.bl _, H, I, rfl, q⟩
theorem op_notInT (hu : X.A.units + 65 < cLine) : OpR X (compareOp .NotIn) (rInT X.K true) := by
  intro pins s σ H x y v u Q I rx ry h
  obtain ⟨d, ds, hd, he, sd, se, q⟩ := h
  obtain ⟨as, r1⟩ := Dp.reads I d x v hd rx
  obtain ⟨bs, r2⟩ := Dp.reads I (.tuple ds) y u he ry
  exact SeqAt.notIn_tuple_reads r2 r1 (SeqAt.canLay_of_shaped se) (SeqAt.canLay_of_shaped sd) (room_in_shaped sd hu) ⟨.bl _, H, I, rfl, q⟩
def rEqD0 : R2 := fun x y H Q => ∃ a b ks, x = .ref a ∧ y = .ref b ∧ H a = some (.dK ks) ∧ H b = some (.dK []) ∧ Q (.bl (decide (ks = []))) H
theorem op_eqD0 (hu : X.A.units < cLine) : OpR X (compareOp .Eq) rEqD0 := by
  intro pins s σ H x y v u Q I rx ry h
  obtain ⟨a, b, ks, rfl, rfl, ea, eb, q⟩ := h
  obtain rfl : v = Value.ref a := rx
  obtain rfl : u = Value.ref b := ry
  obtain ⟨_, ya, va, ra, da⟩ := (show ObjOk X.prog X.w H s.heap a (.dK ks) from I.hok a _ ea)
  obtain ⟨_, yb, vb, rb, db⟩ := (show ObjOk X.prog X.w H s.heap b (.dK []) from I.hok b _ eb)
  have hlb : vb.length = 0 := by rw [← rb.length]; rfl
  cases ks with
  | nil => exact PySem.W.keq_eq (knd := mixKind X.prog X.w) (r := true) ya yb da db hu (fun _ => hits_all rb ra fun p hp => nomatch hp) (fin_bl I q (by rw [hlb, ← ra.length]; rfl))
  | cons k ks => exact PySem.W.keq_eq (knd := mixKind X.prog X.w) (r := true) ya yb da db hu (fun z => absurd z (by rw [hlb, ← ra.length]; simp)) (fin_bl I q (by rw [hlb, ← ra.length]; simp))
end
end Pb

/-! PbCut -/
set_option Elab.async false
set_option linter.all false
set_option maxRecDepth 100000
set_option maxHeartbeats 4000000
namespace Pb
open PySem PySem.Spec PyProof.Rows L2
open C8 (Cal Mak Met pe_c pe_mk pe_mt pe_mt0 pe_gc fnScope_by)
/-! short words -/
local macro_rules | `(tactic| walk_at "rd") => `(tactic| try simp only [tVar, tC, tAdd, tSub, t2I, tIsN, tNotN, tB, tAnd, tOr, tNot, tAndV, tOrV, tNotV, tIf, tSeq, tPar, tPar3, tNext, tBreak, tCont, tDrop, tRet, tRetN, tIfS, gName, gNil, gCons, gTup, gSub, tAsg, tAug, ipI, iList, iTup, iRng1, iRng2, iStr, iEnum, iZip,
  tOp, tUn, rI, rI0, rU, tTest, tChain, tFld, sFld, sFldAug, L2.rAdd, L2.rSub, tNil, tCons, tTup, tLst, tCall, tMeth, tMake, tCB, tNoPart, tPart, tSl, tBM0, tBM, tDGet, tDGet1, tDGet2, tDIn, tDNotIn, sDPut, tDNewK, rEq, rNe, scal_ii, scal_ss, scal_bb, scal_nn, scal_ni, scal_in, scal_ns, scal_sn, scal_is, scal_si, List.take_succ_cons, List.take_zero, List.drop_succ_cons, List.drop_zero, upd_same, upd_upd, and_assoc, tKGet, gStar, tDisp, tPairs, tYes,
  L2.start, List.map_cons, List.map_nil, List.length_cons, List.length_nil, List.cons_append, List.nil_append, List.append_nil, List.replicate, Nat.sub_self, Nat.add_sub_cancel, Nat.reduceAdd, Nat.reduceSub, List.set_cons_zero, List.set_cons_succ, List.getElem?_cons_zero, List.getElem?_cons_succ,
  Option.some.injEq, V.int.injEq, V.bl.injEq, V.str.injEq, V.ref.injEq, exists_eq_left', exists_eq_left, exists_eq', exists_eq, true_and, and_true, if_true, if_false, Bool.false_eq_true, List.cons.injEq, Bool.not_true, Bool.not_false, cxK, cxP, cxW, ite_true, ite_false, wipe, reduceCtorEq, and_self, decide_true, decide_false, exists_and_left, exists_const, decide_eq_true_eq])
local macro_rules | `(tactic| walk_at "len") => `(tactic| (intro vs H Q E h; repeat (first | (obtain ⟨e, _⟩ := h; subst e; rfl) | (obtain ⟨_, h⟩ := h))))
local macro_rules | `(tactic| walk_at "wd") => `(tactic| simp (config := {decide := true}) only [V.str.injEq, scal_ss, true_and, if_true, if_false])

/-! parts of lists of data -/
def cutL {α : Type} (xs : List α) (lo hi : Option Int) : List α := (xs.drop (HT.sIx xs.length 0 lo)).take (HT.sIx xs.length xs.length hi - HT.sIx xs.length 0 lo)
theorem cutL_map {α β : Type} (f : α → β) {xs : List α} {lo hi : Option Int} : cutL (xs.map f) lo hi = (cutL xs lo hi).map f := by
  unfold cutL
  rw [List.length_map, List.map_take, List.map_drop]
theorem cutL_to {α : Type} {xs : List α} {k : Nat} : cutL xs none (some (k : Int)) = xs.take k := by
  unfold cutL
  rw [HT.sIx_nat, HT.sIx_none, List.drop_zero, Nat.sub_zero]
  by_cases h : k ≤ xs.length
  · rw [Nat.min_eq_left h]
  · rw [Nat.min_eq_right (by omega), List.take_of_length_le (Nat.le_refl _), List.take_of_length_le (by omega)]
theorem cutL_from {α : Type} {xs : List α} {k : Nat} : cutL xs (some (k : Int)) none = xs.drop k := by
  unfold cutL
  rw [HT.sIx_nat, HT.sIx_none]
  by_cases h : k ≤ xs.length
  · rw [Nat.min_eq_left h, List.take_of_length_le (by rw [List.length_drop]; omega)]
  · rw [Nat.min_eq_right (by omega), List.drop_of_length_le (Nat.le_refl _), List.drop_of_length_le (by omega), List.take_nil]
theorem cutL_mid {α : Type} {xs : List α} {k j : Nat} : cutL xs (some (k : Int)) (some ((k + j : Nat) : Int)) = (xs.drop k).take j := by
  unfold cutL
  rw [HT.sIx_nat, HT.sIx_nat]
  by_cases h : k ≤ xs.length
  · rw [Nat.min_eq_left h]
    by_cases h2 : k + j ≤ xs.length
    · rw [Nat.min_eq_left h2, show k + j - k = j by omega]
    · rw [List.take_of_length_le (by rw [List.length_drop]; omega), List.take_of_length_le (by rw [List.length_drop]; omega)]
  · rw [Nat.min_eq_right (show xs.length ≤ k by omega), Nat.min_eq_right (show xs.length ≤ k + j by omega), List.drop_of_length_le (Nat.le_refl _), List.drop_of_length_le (show xs.length ≤ k by omega), List.take_nil, List.take_nil]
section
variable {K : PySem.W.Frag} {H : Hp} {ms : List Addr} {x y : V} {ds es : List PyData} {lo hi : Option Int} {Q : VK}
theorem DpAll.rev : ∀ {vs : List V} {ds : List PyData}, DpAll K H vs ds → DpAll K H vs.reverse ds.reverse
  | _, _, .nil => .nil
  | _, _, .cons h t => by
    rw [List.reverse_cons, List.reverse_cons]
    exact DpAll.append (DpAll.rev t) (.cons h .nil)
theorem DpAll.cut {xs : List V} (h : DpAll K H xs ds) : DpAll K H (cutV xs lo hi) (cutL ds lo hi) := by
  have e := DpAll.length h
  unfold cutV cutL
  rw [e]
  exact DpAll.take _ (DpAll.drop _ h)
theorem a_slD (tk : Tk H ms) (h : Dp K (hide H ms) x (.list ds)) (q : ∀ H' p, Same H H' → H p = none → Dp K (hide H' ms) (.ref p) (.list (cutL ds lo hi)) → Q (.ref p) H') : rSlL K x lo hi H Q := by
  obtain ⟨a, xs, rfl, hs, ha⟩ := dp_list h
  exact ⟨a, xs, rfl, sqL_same same_show hs, fun p np => q _ p (same_new np) np (.lst (.inl (.inl (new_at tk np))) (DpAll.mono (Same.hide (same_new np) ms) (DpAll.cut ha)))⟩
theorem a_slH (h : Dp K (hide H ms) x (.list ds)) (q : ∀ p vs, H p = none → DpAll K (hide H ms) vs (cutL ds lo hi) → Q (.ref p) (upd H p (.lst vs))) : rSlL K x lo hi H Q := by
  obtain ⟨a, xs, rfl, hs, ha⟩ := dp_list h
  exact ⟨a, xs, rfl, sqL_same same_show hs, fun p np => q p _ np (DpAll.cut ha)⟩
theorem a_catD (tk : Tk H ms) (h1 : Dp K (hide H ms) x (.list ds)) (h2 : Dp K (hide H ms) y (.list es)) (hz : ds.length + es.length ≤ 1000000) (q : ∀ H' p, Same H H' → H p = none → Dp K (hide H' ms) (.ref p) (.list (ds ++ es)) → Q (.ref p) H') : rCatS K x y H Q :=
  a_catH h1 h2 (by rw [sizeLine_eq]; omega) fun p ys np hys => q _ p (same_new np) np (.lst (.inl (.inl (new_at tk np))) (DpAll.mono (Same.hide (same_new np) ms) hys))
theorem a_revD {te : TE} {σ : L2.St} (h : te σ H fun x H1 => ∃ ds, Tk H1 ms ∧ Dp K (hide H1 ms) x (.list ds) ∧ ∀ H' p, Same H1 H' → H1 p = none → Dp K (hide H' ms) (.ref p) (.list ds.reverse) → Q (.ref p) H') (mono : ∀ {R S : VK}, (∀ x A, R x A → S x A) → te σ H R → te σ H S) : tRevL K te σ H Q := by
  refine mono (fun x A ⟨ds, tk, d, q⟩ => ?_) h
  obtain ⟨a, xs, rfl, hs, ha⟩ := dp_list d
  refine ⟨a, xs, rfl, sqL_same same_show hs, fun p np => q _ p (same_new np) np (.lst (.inl (.inl (new_at tk np))) (DpAll.mono (Same.hide (same_new np) ms) ?_))⟩
  exact DpAll.rev ha
theorem a_newL {vs : List V} {p : Addr} (tk : Tk H ms) (np : H p = none) (h : DpAll K (hide H ms) vs ds) : Dp K (hide (upd H p (.lst vs)) ms) (.ref p) (.list ds) := .lst (.inl (.inl (new_at tk np))) (DpAll.mono (Same.hide (same_new np) ms) h)
theorem a_newT {vs : List V} {p : Addr} (tk : Tk H ms) (np : H p = none) (h : DpAll K (hide H ms) vs ds) : Dp K (hide (upd H p (.tup vs)) ms) (.ref p) (.tuple ds) := .tup (.inl (.inl (new_at tk np))) (DpAll.mono (Same.hide (same_new np) ms) h)
end
end Pb

/-! PbKey -/
set_option Elab.async false
set_option linter.all false
set_option maxRecDepth 100000
set_option maxHeartbeats 4000000
/-! Pb: min(xs, key=lambda x: x[0]) over a list of tuples that begin with a number; the lambda's code object lies in the def's table -/
namespace Pb
open PySem PySem.Spec PyProof.Rows L2
open LamX (TabS TabB ExtN CodeO)
/-- the function that a lambda made, nothing captured -/
def LamO (f c' : Addr) (q : Str) (params : Arguments) (body : Expr) (scope : Scope) : HO := .ext fun h => ∃ pm ctv : Value, h.get? f = some (PySem.W.kla_obj "<lambda>" q params body scope [] pm c' ctv)
theorem upd_none' {H : Hp} {a b : Addr} {o : HO} (e : upd H a o b = Option.none) : H b = Option.none := by
  unfold upd at e
  split at e
  · cases e
  · exact e
section
variable {X : Cx} {pins : List (Addr × Obj)} {σ : L2.St} {H : Hp} {s : Shared}
theorem inv_lam {h' : Heap} {f c' : Addr} {q : Str} {params : Arguments} {body : Expr} {scope : Scope} {pm ctv : Value} {t' : Nat} (I : L2.Inv X pins σ H s) (ef : f = s.heap.objs.size) (eh : h' = s.heap.push (PySem.W.kla_obj "<lambda>" q params body scope [] pm c' ctv)) :
    L2.Inv X pins σ (upd H f (LamO f c' q params body scope)) { s with heap := h', toks := t' } := by
  subst ef
  subst eh
  have e : (s.heap.push (PySem.W.kla_obj "<lambda>" q params body scope [] pm c' ctv)).get? s.heap.objs.size = some (PySem.W.kla_obj "<lambda>" q params body scope [] pm c' ctv) := Heap.get?_push_size _ rfl
  refine I.laid (a := s.heap.objs.size) (fun b u z => Heap.get?_push_of_some _ z) (Nat.le_refl _) ?_
  exact ⟨⟨pm, ctv, e⟩, ⟨_, e⟩, fun h1 h2 ⟨p, t, z⟩ st => ⟨p, t, st _ z⟩⟩
/-- what the making of a lambda tells -/
def tLamE (P : Addr) (q : Str) (params : Arguments) (body : Expr) (scope : Scope) : TE := fun σ H Q => TabS H P q ∧
  ∀ (f c' : Addr) (H1 : Hp), Sx [P] H H1 → TabS H1 P q → H1 f = some (LamO f c' q params body scope) → H1 c' = some (CodeO c' q) → Q (.ref f) H1
theorem pe_lam {c P : Addr} {q : Str} {params : Arguments} {body : Expr} {scope : Scope} {pos : Pos} (TB : TabB X.base X.mg c P) (hcode : X.env.code = .ref c) (hq : X.env.qual ++ "<lambda>" = q) (hdef : defaultsOf params X.env = ([], []))
    (hcl : cloFrom X.env.cells scope.names [] = []) (hfree : ∀ y ∈ scope.names, y.2 = .free → ∃ c, X.env.cells.lookup y.1 = some c) : PE X (.Lambda params body scope pos) (tLamE P q params body scope) := by
  subst hq
  refine ⟨fun pins s σ H Q I h => ?_⟩
  obtain ⟨tab, k⟩ := h
  obtain ⟨ps, atP, tri, am⟩ := tab
  have bP : s.heap.BuiltinsAt X.mg P := TB.bm.keeps I.bk
  have oP : s.heap.get? P = some { cls := .none, data := .fields ps } := I.hok P _ atP
  refine PySem.W.kla_eval hdef ?_
  cases hc : codeAmong pos ps.toList with
  | none =>
    refine PySem.W.kla_makeFunction (mg := X.mg) (c := c) (P := P) (ps := ps) (closure_ok hfree) I.ok.glob (I.mod.glob.keeps I.bk) hcode (TB.code.keeps I.bk) oP tri hc TB.gP bP fun c' ctv h' tk hx hge hlt hrec htb => ?_
    obtain ⟨c2, oc, vs, t, e2, hoc, hd, hv⟩ := hrec
    cases e2
    have nC : H c' = none := I.hok.fresh hge
    have I1 := LamX.inv_table (t' := tk) (more := #[rawInt pos.line, rawInt pos.col, .ref c']) (h' := h') I atP (fun b o hb e => hx b o hb e) htb hge ⟨oc, vs, t, hoc, hd, hv⟩
    have ex : ExtN H (upd (upd H P (.tbl (ps ++ #[rawInt pos.line, rawInt pos.col, .ref c']))) c' (CodeO c' (X.env.qual ++ "<lambda>"))) := fun b o e n => by
      rw [upd_ne (ne_of_none e nC), upd_ne (fun z => n ps (Option.some.inj (e.symm.trans (by rw [z]; exact atP))))]
      exact e
    have eL : (ps ++ #[rawInt pos.line, rawInt pos.col, .ref c']).toList = ps.toList ++ [rawInt pos.line, rawInt pos.col, .ref c'] := by simp
    have nF := I1.hok.fresh (Nat.le_refl _)
    rw [hcl]
    have I2 := inv_lam (f := h'.objs.size) (c' := c') (q := X.env.qual ++ "<lambda>") (params := params) (body := body) (scope := scope) (pm := (X.mg "__name__").getD .none) (ctv := ctv) (t' := tk) I1 rfl rfl
    refine ⟨.ref h'.objs.size, _, I2, rfl, k _ c' _ (fun b o hb e => ?_) ⟨_, ?_, by rw [eL]; exact PySem.TriplesOk_snoc _ _ _ _ tri, fun p' cv hcv => ?_⟩ upd_same ?_⟩
    · have e1 : upd (upd H P (.tbl (ps ++ #[rawInt pos.line, rawInt pos.col, .ref c']))) c' (CodeO c' (X.env.qual ++ "<lambda>")) b = some o := by rw [upd_ne (ne_of_none e nC), upd_ne fun z => hb (by rw [z]; exact .head _)]; exact e
      exact (upd_ne (ne_of_none e1 nF)).trans e1
    · have z : upd (upd H P (.tbl (ps ++ #[rawInt pos.line, rawInt pos.col, .ref c']))) c' (CodeO c' (X.env.qual ++ "<lambda>")) P = some (.tbl (ps ++ #[rawInt pos.line, rawInt pos.col, .ref c'])) := by rw [upd_ne (ne_of_none atP nC), upd_same]
      exact (upd_ne (ne_of_none z nF)).trans z
    · rw [eL] at hcv
      have fin : ∀ c0, upd (upd H P (.tbl (ps ++ #[rawInt pos.line, rawInt pos.col, .ref c']))) c' (CodeO c' (X.env.qual ++ "<lambda>")) c0 = some (CodeO c0 (X.env.qual ++ "<lambda>")) → upd (upd (upd H P (.tbl (ps ++ #[rawInt pos.line, rawInt pos.col, .ref c']))) c' (CodeO c' (X.env.qual ++ "<lambda>"))) h'.objs.size (LamO h'.objs.size c' (X.env.qual ++ "<lambda>") params body scope) c0 = some (CodeO c0 (X.env.qual ++ "<lambda>")) := fun c0 z => (upd_ne (ne_of_none z nF)).trans z
      rcases LamX.among_app _ tri hcv with z | z
      · obtain ⟨c0, e1, e2⟩ := am p' cv z
        exact ⟨c0, e1, fin c0 (ex _ _ e2 LamX.codeO_ne)⟩
      · exact ⟨c', z, fin c' upd_same⟩
    · exact (upd_ne (Nat.ne_of_lt hlt)).trans upd_same
  | some cv =>
    obtain ⟨c', e, hco⟩ := am pos cv hc
    subst e
    refine PySem.W.kla_makeFunctionHit (mg := X.mg) (c := c) (P := P) (ps := ps) (closure_ok hfree) I.ok.glob (I.mod.glob.keeps I.bk) hcode (TB.code.keeps I.bk) oP tri hc bP fun ctv h' tk hx hsz => ?_
    have I1 : L2.Inv X pins σ H { s with heap := h', toks := tk } := I.kept hx
    have nF : H h'.objs.size = none := I1.hok.fresh (Nat.le_refl _)
    rw [hcl]
    have I2 := inv_lam (f := h'.objs.size) (c' := c') (q := X.env.qual ++ "<lambda>") (params := params) (body := body) (scope := scope) (pm := (X.mg "__name__").getD .none) (ctv := ctv) (t' := tk) I1 rfl rfl
    have ks : ∀ b o, H b = some o → upd H h'.objs.size (LamO h'.objs.size c' (X.env.qual ++ "<lambda>") params body scope) b = some o := fun b o e => (upd_ne (ne_of_none e nF)).trans e
    exact ⟨.ref h'.objs.size, _, I2, rfl, k _ c' _ (Sx.of fun b o e => ks b o e) (TabS.ext ⟨ps, atP, tri, am⟩ ks) upd_same (ks _ _ hco)⟩
end
/-! ### the lambda x: x[0] called -/
structure FstLam (params : Arguments) (body : Expr) (scope : Scope) : Prop where
  kind : scope.kind = .function
  co : scope.isCoroutine = false
  gen : scope.isGenerator = false
  nocell : ∀ y ∈ scope.names, y.2 ≠ .cell
  ex : ∃ (x : Str) (p1 p2 p3 : Pos) (n : Nat), body = .Subscript (.Name x p1) (.Constant (.int 0) n p2) p3 ∧ (x == ("__debug__" : Str)) = false ∧ scope.names.lookup x = some .local ∧
    ∀ (q : Str) (pm cv ctv : Value) (u : Value), bindArgs (PySem.W.kla_fn "<lambda>" q params body scope [] pm cv ctv) ⟨[u], []⟩ = pure [(x, u)]
theorem fst_run {prog : Program} {w : World} {A : Around} {s : Shared} {f c' t : Addr} {q : Str} {params : Arguments} {body : Expr} {scope : Scope} {pm ctv y : Value} {its : Array Value} (L : FstLam params body scope) (hd : A.depth < recursionLimit) (lim : s.heap.NoLimit)
    (ho : s.heap.get? f = some (PySem.W.kla_obj "<lambda>" q params body scope [] pm c' ctv)) (hcd : s.heap.CodeRec (.ref c') q) (ht : IsTup s.heap t its) (hy : its[0]? = some y) :
    codeAny (model prog w) A (.call (.ref f) ⟨[.ref t], []⟩) (fun r s' => ∃ h' tk, r = .ok (.ret y) ∧ s' = { s with heap := h', toks := tk } ∧ s.toks ≤ tk ∧ ∀ b o, s.heap.get? b = some o → h'.get? b = some o) s := by
  obtain ⟨x, p1, p2, p3, n, rfl, hdb, hloc, hbind⟩ := L.ex
  refine PySem.W.kla_callFunE hd ho rfl L.co L.gen rfl hcd ?_
  rw [hbind]
  refine wpAny_pure (wpAny_newFunctionEnv L.nocell (fun z hz => by rw [List.mem_singleton.mp hz]; exact hloc) (fun h₁ hns hsb => ⟨lim.fresh _ hsb, ?_⟩) L.kind)
  have kp : ∀ b o, s.heap.get? b = some o → h₁.get? b = some o := fun b o e => hsb.extBut b o (Nat.ne_of_lt (Heap.lt_size e)) (Heap.get?_push_of_some _ e)
  show codeAny _ _ (.expr _ (PySem.W.envX q scope s.heap.objs.size f (.ref c') [])) _ _
  refine PySem.W.kla_codeExpr ?_
  have hlen : 0 < its.size := by
    rcases Array.getElem?_eq_some_iff.mp hy with ⟨h, _⟩
    exact h
  refine Subscript_ (wpAny_Name (wpAny_loadName_local (v := .ref t) L.kind hloc hns (by simp) ?_) hdb)
  refine wpAny_Constant_int ?_
  refine subscriptTail_builtinR (x := y) (IsTup.keeps ht kp).typeIs slot_tuple_getitem.lookup (getItem_tuple (j := 0) (IsTup.keeps ht kp) (by omega) (by omega) ?_ hy ⟨rfl, ?_⟩)
  · unfold seqIndex?
    simp [hlen]
  · exact ⟨_, _, rfl, rfl, Nat.le_trans (Nat.le_add_right _ _) (Nat.le_add_right _ _), kp⟩
/-! ### min by it -/
section
variable {X : Cx} {j : Nat}
def rMinK (K : PySem.W.Frag) (q : Str) (params : Arguments) (body : Expr) (scope : Scope) : List V → List V → Hp → VK → Prop := fun vs zs H Q => ∃ (a : Addr) (xs : List V) (f c' : Addr) (cs : Nat → Int), vs = [V.ref a] ∧ zs = [V.ref f] ∧ H f = some (LamO f c' q params body scope) ∧ H c' = some (CodeO c' q) ∧ SqL K H a xs ∧ 0 < xs.length ∧
  (∀ (i : Nat) x, xs[i]? = some x → ∃ t ys, x = .ref t ∧ SqT K H t (.int (cs i) :: ys)) ∧ ∀ v, xs[argBest (fun i j => decide ((cs i : Int) < cs j)) (xs.length - 1)]? = some v → Q v H
theorem cr_minK {q : Str} {params : Arguments} {body : Expr} {scope : Scope} (L : FstLam params body scope) (hc : X.calm = true) (hr : Room (j + 2) X.A) : CallRK X (.builtin "min") [Str.ofString "key"] (rMinK X.K q params body scope) := by
  intro pins s σ H vs zs us ws Q I r rz h
  obtain ⟨a, xs, f, c', cs, rfl, rfl, hf, hco, hq, hn, hx, k⟩ := h
  obtain ⟨u, rfl, ru⟩ := vals1 r
  cases ru
  obtain ⟨w1, rfl, rw1⟩ := vals1 rz
  cases rw1
  obtain ⟨its, rv, hl, hz⟩ := I.list hq
  have hlen := rv.length
  obtain ⟨⟨pm, ctv, of_⟩, _, _⟩ := I.hok f _ hf
  obtain ⟨⟨oc, vs0, t0, hoc, hdc, hvc⟩, _, _⟩ := I.hok c' _ hco
  have lim : s.heap.NoLimit := I.nolimit
  refine call_min_walkK (PySem.W.iter_listW (A := X.A.in1) (I.ok.hd hc) hl.isList fun s2 e2 W st hfp hw hk => ?_)
  have item : ∀ (i : Nat) (v : Value), its.toArray[i]? = some v → ∃ t ys its2 tk, v = .ref t ∧ IsTup s.heap t its2 ∧ its2[0]? = some (.int (cs i) tk) := fun i v e => by
    have e' : its[i]? = some v := by simpa using e
    obtain ⟨x, ex, rx⟩ : ∃ x, xs[i]? = some x ∧ RelV x v := by
      cases q : xs[i]? with
      | none => rw [rv.none_of q] at e'; cases e'
      | some x =>
        obtain ⟨u, eu, ru⟩ := rv.get q
        rw [e'] at eu
        cases eu
        exact ⟨x, rfl, ru⟩
    obtain ⟨t, ys, rfl, ht⟩ := hx i x ex
    cases rx
    obtain ⟨its2, r2, tp, _⟩ := I.tuple ht
    cases r2 with
    | cons r1 r3 =>
      obtain ⟨tk, e⟩ := r1
      subst e
      exact ⟨t, ys, _, tk, rfl, tp, by simp⟩
  refine ⟨_, _, _, _, _, _, _, (fun s' => ∃ h' tk, s' = { s with heap := h', toks := tk } ∧ ∀ b o, s.heap.get? b = some o → h'.get? b = some o), (fun i k _ => ∃ tk, k = .int (cs i) tk), (fun i j => decide ((cs i : Int) < cs j)), rfl, W, st, hfp, ?_, ⟨?_, ?_, ?_, ?_⟩, ?_, ?_⟩
  · show 0 < its.toArray.size
    simp only [List.size_toArray]
    omega
  · rintro s3 s4 ⟨h3, tk3, rfl, k3⟩ m
    obtain ⟨hp, g, d, tk, os⟩ := s4
    have h1 : g = s.gens := m.gens
    have h2 : d = s.drawn := m.drawn
    have h3' : os = s.os := m.os
    subst h1
    subst h2
    subst h3'
    refine ⟨hp, tk, rfl, fun b o e => m.heap b o (fun hb => ?_) (k3 b o e)⟩
    have hlt := Heap.lt_size e
    rcases List.mem_cons.mp hb with z | z
    · have q : s2.heap.objs.size = s.heap.objs.size + 1 := by rw [e2]; exact Heap.size_push _ _
      rw [z, q] at hlt
      exact absurd hlt (Nat.not_lt.mpr (Nat.le_succ _))
    · rw [List.mem_singleton.mp z] at hlt
      exact absurd hlt (Nat.lt_irrefl _)
  · rintro i kx s3 s4 ⟨tk, e⟩ m
    exact ⟨tk, e⟩
  · rintro i v s3 o Q3 E3 hi hP ⟨h3, tk3, rfl, k3⟩ hst hS cont
    obtain ⟨t, ys, its2, tk, rfl, tp, h0⟩ := item i v hP
    have hr1 : Room (j + 1) X.A.in1 := hr.in1
    refine wpAny_call (codeAny_mono (fst_run L hr1.depth (lim.keeps k3) (k3 _ _ of_) ⟨c', oc, vs0, t0, rfl, k3 _ _ hoc, hdc, hvc⟩ (tp.keeps k3) h0) fun r s4 hq => ?_)
    obtain ⟨h4, tk4, rfl, rfl, t4, k4⟩ := hq
    refine cont _ _ ⟨h4, tk4, rfl, fun b o e => k4 _ _ (k3 b o e)⟩ ?_ (k4 _ _ hS) ⟨tk, rfl⟩ fun _ _ q => q
    exact W.frame _ _ h4 tk4 hst t4 fun b hb o e => k4 b o e
  · rintro i j ki kj s3 Q3 E3 hJ ⟨t1, rfl⟩ ⟨t2, rfl⟩ hq
    exact lt_int hq
  · exact ⟨s2.heap, s2.toks, by rw [e2], hk⟩
  · rintro v s3 hP ⟨h3, tk3, rfl, k3⟩
    have e' : its[argBest (fun i j => decide ((cs i : Int) < cs j)) (xs.length - 1)]? = some v := by
      have e : its.toArray[argBest (fun i j => decide ((cs i : Int) < cs j)) (its.toArray.size - 1)]? = some v := hP
      rw [List.size_toArray, ← hlen] at e
      simpa using e
    cases q : xs[argBest (fun i j => decide ((cs i : Int) < cs j)) (xs.length - 1)]? with
    | none => rw [rv.none_of q] at e'; cases e'
    | some x =>
      obtain ⟨u, eu, ru⟩ := rv.get q
      rw [e'] at eu
      cases eu
      exact ⟨x, H, I.kept (t' := tk3) k3, ru, k x q⟩
end
/-! ### a def that makes a lambda: its own code object is known -/
section
variable {P : Program} {w : World} {K : PySem.W.Frag} {mg : Str → Option Value} {base : Heap}
theorem kdef_ofC {x : Str} {st : Stmt} {N ps : List Str} {k : Nat} {sp : Sp} {kws : List (Str × V)} (D : FnD K x x st [] kws (He.fAd K (x, none))) (g : mg x = some (.ref (He.fAd K (x, none)))) (S : FnScope N ps (L2.defScope st))
    (len : ∀ vs H Q E, sp vs H Q E → vs.length = ps.length)
    (hbody : ∀ (A : Around) (outer : List Env) (s : Shared) (H : Hp) (vs : List V) (Q : VK) (E : XK), Room k (A.deeper (envOfC x (L2.defScope st) s.heap.objs.size (He.fAd K (x, none)) (.ref (He.codeOf K (x, none))))) → sp vs H Q E →
      ∃ t, PSs (cxOf CX0 P w K mg base N x (L2.defScope st) (He.fAd K (x, none)) (.ref (He.codeOf K (x, none))) A outer s H E).nox (L2.defBody st) t ∧ t { nx := fun _ H' => Q .non H', rt := Q } (start N vs) H) : KDef P w K mg base (k + 1) x sp ps st kws := by
  obtain ⟨fd, F⟩ := D
  refine ⟨_, fd, ?_, g, F⟩
  obtain ⟨oc, od, dV, kV, doc, pm, an, cdv, ct, osl, rfl, lk, hcd, _, _⟩ := F.ex
  obtain ⟨c, rfl⟩ := He.codeIn_ref hcd
  have ec : He.codeOf K (x, none) = c := He.codeOf_eq lk rfl
  rw [ec] at hbody
  refine ⟨len, fun A outer t H ar us vs Q E room env bnd rel hsp => ?_⟩
  have n := len vs H Q E hsp
  have kin : K.In t.heap := env.mod.kin.keeps fun b o e => (env.bs b o e).1
  have noLim : t.heap.NoLimit := env.mod.nolimit.keeps fun b o e => (env.bs b o e).1
  refine codeAny_call_function room.depth (kin _ _ lk) rfl S.co S.gen rfl (PySem.W.codeRec_of kin hcd) (bnd _ _ _ _ ?_)
  have kinds : ∀ y ∈ ps.zip us, (L2.defScope st).names.lookup y.1 = some .local ∨ ((L2.defScope st).names.lookup y.1 = some .cell ∧ ((cellsFrom (t.heap.objs.size + 1) (L2.defScope st).names []).lookup y.1).isSome = true) := by
    rintro ⟨z, v⟩ hz
    exact (S.par z (List.of_mem_zip hz).1).imp id fun q => ⟨q, PySem.W.cellsFrom_some _ _ _ (.inl q)⟩
  refine wpAny_newFunctionEnv_cells S.kind kinds fun env2 eenv t1 inC => ?_
  subst eenv
  refine ⟨noLim.keeps inC.toInCall.keep, codeAny_func ?_⟩
  obtain ⟨tr, h1, h2⟩ := hbody A outer t H vs Q E (room.deeper _) hsp
  have J0 : L2.Inv (cxOf CX0 P w K mg base N x (L2.defScope st) (He.fAd K (x, none)) (.ref c) A outer t H E) [] (start N vs) H t1 := inv_start S room.hd env n rel inC
  refine wpAny_mono (h1.nox.run [] t1 (start N vs) H _ J0 h2) (fun fl t2 hq => ?_) fun _ _ hq => hq
  have out : ∀ {σ : L2.St} {H' : Hp} {v : V} {u : Value}, L2.Inv (cxOf CX0 P w K mg base N x (L2.defScope st) (He.fAd K (x, none)) (.ref c) A outer t H E) [] σ H' t2 → RelV v u → Q v H' → CE outer P w H t Q u t2 := fun J r q => ⟨_, _, J.os, J.bare, J.base, J.hok, r, q⟩
  cases fl with
  | ret u => obtain ⟨v, σ, H', J, r, q⟩ := hq; exact out J r q
  | next => obtain ⟨σ, H', J, q⟩ := hq; exact out (v := V.non) (u := Value.none) J rfl q
  | brk => obtain ⟨_, _, _, q⟩ := hq; cases q
  | cont => obtain ⟨_, _, _, q⟩ := hq; cases q
end
end Pb

/-! PbTS -/
set_option Elab.async false
set_option linter.all false
set_option maxRecDepth 100000
set_option maxHeartbeats 4000000
/-! Pb: a set comprehension whose set takes one tuple of texts -/
namespace Pb
open PySem PySem.Spec PyProof.Rows L2
/-- a set that holds nothing yet, or one tuple -/
def FewSet (w : World) (D : Addr) (n : Nat) : HO := .ext fun h => ∃ (o : Obj) (es : Array (Int × Value)) (ep : Nat) (t : SetTable), h.get? D = some o ∧ o.ExactSet ∧ o.data = .set es ep t ∧ t.fits es.size = true ∧ es.size = n ∧
  (n = 0 → o = { cls := .type "set", dict := none, data := .set #[] 0 (.fresh 0 0 (!w.params.followText "set-order")) })
theorem few_new {P : Program} {w : World} {H : Hp} {h : Heap} {D n : Nat} (q : ∃ (o : Obj) (es : Array (Int × Value)) (ep : Nat) (t : SetTable), h.get? D = some o ∧ o.ExactSet ∧ o.data = .set es ep t ∧ t.fits es.size = true ∧ es.size = n ∧
  (n = 0 → o = { cls := .type "set", dict := none, data := .set #[] 0 (.fresh 0 0 (!w.params.followText "set-order")) })) : ObjOk P w H h D (FewSet w D n) := by
  have q' := q
  obtain ⟨o, es, ep, t, e, r⟩ := q'
  exact ⟨q, ⟨o, e⟩, fun h1 h2 ⟨o, es, ep, t, e, r⟩ st => ⟨o, es, ep, t, st _ e, r⟩⟩
section
variable {P : Program} {w : World} {A : Around} {E : Value → Shared → Prop} {s : Shared}
/-- the items' hashes are asked: some answer, nothing else -/
theorem by_value {ks : List Key} {b : Addr} {Q : Bool → Shared → Prop} (hk : IsTupleKey (mixKind P w) s.heap ks b) (h : ∀ c, Q c s) : wpAny (model P w) A (hashByValue 8 (.ref b)) Q E s := by
  have ty := hk.typeIs
  obtain ⟨o, its, n, eo, _, ed, hi⟩ := hk
  have all : ∀ v ∈ its.toList, ∃ c, hashByValue 7 v = pure c := by
    generalize its.toList = l at hi
    induction hi with
    | nil => exact fun v hv => nomatch hv
    | @cons k v ks vs h1 _ ih =>
      intro u hu
      rcases List.mem_cons.mp hu with z | z
      · rw [z]
        rcases keyIs_shape h1 with ⟨i, t, _, e⟩ | ⟨x, t, _, e⟩
        · rw [e]; exact ⟨true, rfl⟩
        · rw [e]; exact ⟨false, rfl⟩
      · exact ih u z
  unfold hashByValue
  refine wpAny_bind (wpAny_specialOf ty F.slot_tuple_hash.lookup (show wpAny _ _ (seqItems? (.ref b) >>= _) _ _ s from wpAny_bind (wpAny_seqItems eo ed (wpAny_bind ?_))))
  show wpAny _ _ (forIn its _ _) _ _ s
  rw [← Array.forIn_toList]
  refine wpAny_forIn_list _ (fun l r t => t = s ∧ r.1 = none ∧ ∀ v ∈ l, ∃ c, hashByValue 7 v = pure c) _ (fun v l r t z => ?_) (fun r t z => ?_) _ _ ⟨rfl, rfl, all⟩
  · obtain ⟨rfl, hr, hl⟩ := z
    obtain ⟨c, e⟩ := hl v (.head _)
    rw [e]
    refine wpAny_bind (wpAny_pure ?_)
    cases c
    · exact wpAny_pure (wpAny_pure (h false))
    · exact wpAny_pure ⟨rfl, rfl, fun u hu => hl u (.tail _ hu)⟩
  · obtain ⟨rfl, hr, _⟩ := z
    obtain ⟨r1, r2⟩ := r
    cases (show r1 = none from hr)
    exact wpAny_pure (h true)
variable {D : Addr}
/-- the search in the empty set -/
theorem search_none {x : Addr} {h : Int} (ho : s.heap.get? D = some { cls := .type "set", dict := none, data := .set #[] 0 (.fresh 0 0 (!w.params.followText "set-order")) }) {Q : SetFound → Shared → Prop}
    (q : Q (.free (way 7 h 0) false) s) : wpAny (model P w) A (setSearch D (.ref x) h true) Q E s := by
  have R := setTR_fresh (P := P) ho
  unfold setSearch
  rw [show (100000 : Nat) = 99999 + 1 from rfl, setSearchFrom_succ]
  refine wpAny_bind (wpAny_setState_of ho rfl R.fits ?_)
  dsimp only
  refine wp_if_neg R.gw ?_
  refine wpAny_bind (wpAny_pure ?_)
  exact wpAny_pure q
/-- the first that is added -/
theorem add_first {x : Addr} {ks : List Key} {h : Int} (hx : IsTupleKey (mixKind P w) s.heap ks x) (ho : s.heap.get? D = some { cls := .type "set", dict := none, data := .set #[] 0 (.fresh 0 0 (!w.params.followText "set-order")) }) {Q : Bool → Shared → Prop}
    (q : ∀ b (h' : Heap) (o : Obj) (es : Array (Int × Value)) (ep : Nat) (t : SetTable), Heap.SameBut D s.heap h' → h'.get? D = some o → o.ExactSet → o.data = .set es ep t → t.fits es.size = true → es.size = 1 → Q b { s with heap := h' }) : wpAny (model P w) A (setAddHashed D (.ref x) h) Q E s := by
  have R := setTR_fresh (P := P) ho
  unfold setAddHashed
  rw [show (100000 : Nat) = 99999 + 1 from rfl, setAddHashedIn_succ]
  refine wpAny_holding (wpAny_bind (wpAny_setState_of ho rfl R.fits ?_))
  refine wp_if_neg (by unfold byScan; simp [Value.scannable]) ?_
  try refine wpAny_bind (wpAny_pure ?_)
  refine wpAny_bind (search_none ho ?_)
  refine wpAny_bind (wpAny_setState_of ho rfl R.fits ?_)
  obtain ⟨q1, q2, q3, q4, q5, q6, q7, q8, q9⟩ := R.tab.put (h := h) (K := 0) (show way 7 h 0 ∉ ([] : List Nat) by simp) (fun k z => absurd z (Nat.not_lt_zero _))
  have pl : ((SetTable.fresh 0 0 (!w.params.followText "set-order")).put (way 7 h 0)).1.plain = true := q6
  have mk : ((SetTable.fresh 0 0 (!w.params.followText "set-order")).put (way 7 h 0)).1.mask = 7 := q4
  have sz : ((SetTable.fresh 0 0 (!w.params.followText "set-order")).put (way 7 h 0)).1.place.size = 1 := by
    have z : _ = (List.take _ ([] : List Int) ++ h :: List.drop _ ([] : List Int)).length := q3.sz
    rw [List.take_nil, List.drop_nil] at z
    exact z
  have dm : ((SetTable.fresh 0 0 (!w.params.followText "set-order")).put (way 7 h 0)).1.dummies = #[] := q3.dm
  have p0 : ((SetTable.fresh 0 0 (!w.params.followText "set-order")).put (way 7 h 0)).2 = 0 := Nat.le_zero.mp (Nat.le_trans (Nat.le_of_eq q1) q2)
  dsimp only
  generalize ((SetTable.fresh 0 0 (!w.params.followText "set-order")).put (way 7 h 0)) = pt at pl mk sz dm p0 ⊢
  obtain ⟨t1, n1⟩ := pt
  dsimp only at pl mk sz dm p0 ⊢
  subst p0
  rw [pl]
  have es1 : (SetTable.insertAt (#[] : Array (Int × Value)) 0 (h, Value.ref x)).size = 1 := by
    rw [← Array.length_toList, SetTable.toList_insertAt]
    rfl
  generalize SetTable.insertAt (#[] : Array (Int × Value)) 0 (h, Value.ref x) = es at es1 ⊢
  simp only [if_true]
  refine wpAny_bind (by_value hx fun c => ?_)
  have key : ∀ t2 : SetTable, t2.mask = 7 → t2.place.size = 1 → t2.dummies = #[] → wpAny (model P w) A (do
      storeSet D es t2
      if (!false && t2.tooFull) = true then do
        setRelay D (SetTable.grown ((#[] : Array (Int × Value)).size + 1))
        pure true
      else pure true) Q E s := fun t2 m2 z2 d2 => by
    have full : t2.tooFull = false := by
      unfold SetTable.tooFull SetTable.fill
      rw [z2, d2, m2]
      decide
    have fit : t2.fits es.size = true := by
      unfold SetTable.fits SetTable.fill
      rw [z2, d2, m2, es1]
      decide
    refine wpAny_bind (wpAny_storeSet_of ho rfl ?_ (by rw [es1, sizeLine_eq]; omega))
    rw [full]
    exact wpAny_pure (q true _ _ es 1 t2 (Heap.SameBut.update ..) (store_at ho rfl) ⟨rfl, rfl, rfl⟩ rfl fit es1)
  cases c with
  | true => exact key t1 mk sz dm
  | false => exact key _ mk sz dm
end
/-- one tuple comes into the empty set -/
def RTup1 (K : PySem.W.Frag) : Hp → Nat → V → Nat → Prop := fun H n y n' => n = 0 ∧ n' = 1 ∧ ∃ (t : Addr) (ks : List Key), y = .ref t ∧ SqT K H t (ks.map kV)
theorem bagTup1 {X : Cx} (hu : X.A.in1.units < cLine) : Bag X (FewSet X.w) 0 (RTup1 X.K) where
  new := fun H h => few_new ⟨_, #[], 0, _, Heap.get?_push_size _ rfl, ⟨rfl, rfl, rfl⟩, rfl, by rfl, rfl, fun _ => rfl⟩
  add := fun Y pins σ H s D n n' y u Q E hp hw hk hA I hD r hR hq => by
    obtain ⟨rfl, rfl, t, ks, rfl, ht⟩ := hR
    cases (show u = Value.ref t from r)
    obtain ⟨o, es, ep, tb, ho, hx, hd, hf, hn, hz⟩ := (I.hok D _ hD).1
    have e0 := hz rfl
    subst e0
    obtain ⟨its, rv, tp, _⟩ := I.tuple (by rw [hk]; exact ht)
    obtain ⟨o2, eo2, c2, n2, d2⟩ := tp
    have isT : IsTupleKey (mixKind X.prog X.w) s.heap ks t := ⟨o2, its.toArray, n2, eo2, c2, d2, by simpa using items_are rv⟩
    have setT : s.TypeIs (.ref D) "set" := ⟨_, ho, rfl⟩
    refine wpAny_call_entry F.slot_set_add setT F.entry_set_add ?_ (F.args_set_add_2 _ _)
    unfold Builtin.«set.add» Builtin.Frozenset.oneOther Builtin.Frozenset.addrOf setAdd
    simp only [List.isEmpty_nil, bind_assoc]
    refine wpAny_bind (wpAny_pure ?_)
    try dsimp only
    refine wpAny_bind (wpAny_pure ?_)
    try dsimp only
    refine wpAny_bind (wpAny_holding (wpAny_bind (wpAny_pyHash_tuple hu isT ?_)))
    refine add_first (s := { s with toks := s.toks + (ks.length + 1) }) isT ho fun b h' o3 es3 ep3 t3 sb e3 x3 d3 f3 z3 => ?_
    show wpAny _ _ (ret Value.none) _ _ _
    refine wpAny_pure ⟨_, rfl, hq _ (I.write (e := D) (t' := s.toks + (ks.length + 1)) (by rw [hD]; trivial) (.inl rfl) (fun c v hc e => (sb.2 c hc).trans e) ⟨_, e3⟩ ?_)⟩
    rw [hw]
    exact few_new ⟨o3, es3, ep3, t3, e3, x3, d3, f3, z3, fun z => nomatch z⟩
/-- len of it -/
def rLenFew (w : World) : List V → Hp → VK → Prop := fun xs H Q => ∃ (a : Addr) (n : Nat), xs = [.ref a] ∧ H a = some (FewSet w a n) ∧ n < 1000 ∧ Q (.int (n : Nat)) H
theorem call_lenFew {X : Cx} : CallR X (.builtin "len") (rLenFew X.w) := by
  intro pins s σ H xs us Q I r h
  obtain ⟨a, n, rfl, ha, hn, q⟩ := h
  obtain ⟨u, rfl, ru⟩ := vals1 r
  cases ru
  obtain ⟨o, es, ep, t, ho, hx, hd, hf, hz, _⟩ := (I.hok a _ ha).1
  refine call_len_set ho hx hd hf (by rw [hz]; omega) ?_
  rw [hz]
  exact ⟨.int (n : Nat), H, I.tok _, ⟨_, rfl⟩, q⟩
/-- over at most one tuple -/
theorem sc_few {w : World} {K : PySem.W.Frag} {J : It} {xs : List V} {G : Hp → Prop} (wk : Walk J xs.length G (YAt xs)) {g : TG} {te : TE} {vs : List Nat} {σ : L2.St} {H1 : Hp} {D : Addr} {Qd : Hp → Prop} (hD : H1 D = none) (h1 : xs.length ≤ 1) (hG : ∀ H, Same H1 H → G H)
    (step : ∀ x H (Q : VK), xs[0]? = some x → Same H1 H → (∀ H4 (t : Addr) (ks : List Key), Same H H4 → SqT K H4 t (ks.map kV) → Q (.ref t) H4) → g x (wipe σ vs) H fun σ2 H2 => wipe σ2 vs = wipe σ vs ∧ te σ2 H2 Q)
    (done : ∀ H', Same H1 H' → H' D = some (FewSet w D xs.length) → Qd H') : ScGoal (FewSet w) 0 (RTup1 K) g te vs σ J H1 D Qd := by
  refine ⟨fun i m H => m = xs.length - i ∧ i ≤ xs.length ∧ Same H1 H ∧ H D = some (FewSet w D i), ⟨xs.length, by simp, Nat.zero_le _, same_new hD, upd_same⟩, ?_⟩
  rintro i m H ⟨rfl, hi, s1, hK⟩
  by_cases hlt : i < xs.length
  · have e0 : i = 0 := by omega
    subst e0
    refine .inr ⟨wk.goes 0 H hlt (hG H s1), fun H' => Same H1 H' ∧ H' D = some (FewSet w D 1), fun H' q => ⟨xs.length - 1, by omega, rfl, hlt, q⟩, fun x H' y => ?_⟩
    obtain ⟨e0, ex⟩ := wk.yields 0 H x H' hlt (hG H s1) y
    subst e0
    refine step x _ _ ex s1 fun H4 t ks s4 ht => ⟨0, 1, s4 _ _ hK, ⟨rfl, rfl, t, ks, rfl, ht⟩, fun b o e => ?_, upd_same⟩
    rw [upd_ne (ne_of_none e hD)]
    exact s4 _ _ (s1 _ _ e)
  · have e : i = xs.length := by omega
    rw [e] at hK
    rw [e]
    exact .inl ⟨wk.stops H (hG H s1), done H s1 hK⟩
end Pb

/-! PbMK -/
set_option Elab.async false
set_option linter.all false
set_option maxRecDepth 100000
set_option maxHeartbeats 4000000
/-! Pb: methods with keyword-only parameters; try: e; return e2 / finally: .. where nothing raises -/
namespace Pb
open PySem PySem.Spec PyProof.Rows L2
structure KMet (P : Program) (w : World) (K : PySem.W.Frag) (mg : Str → Option Value) (base : Heap) (k : Nat) (C : Addr) (m : Str) (sp : Sp) (ps : List Str) (st : Stmt) (qual : Str) (kws : List (Str × V)) : Prop where
  ex : ∃ f fd, Cls K C ∧ Meth K C m f ∧ FnOk P w K mg base CX0 k f fd ps sp ∧ FunD K m qual (L2.defArgs st) (L2.defBody st) (L2.defScope st) [] kws f fd
section
variable {P : Program} {w : World} {K : PySem.W.Frag} {mg : Str → Option Value} {base : Heap}
theorem kmet_of {m qual : Str} {C : Addr} {st : Stmt} {f : Addr} {N ps : List Str} {k : Nat} {sp : Sp} {kws : List (Str × V)} (c : Cls K C) (me : Meth K C m f) (D : FnD K m qual st [] kws f) (S : FnScope N ps (L2.defScope st))
    (len : ∀ vs H Q E, sp vs H Q E → vs.length = ps.length)
    (hbody : ∀ (cdv : Value) (A : Around) (outer : List Env) (s : Shared) (H : Hp) (vs : List V) (Q : VK) (E : XK), Room k (A.deeper (envOfC qual (L2.defScope st) s.heap.objs.size f cdv)) → sp vs H Q E →
      ∃ t, PSs (cxOf CX0 P w K mg base N qual (L2.defScope st) f cdv A outer s H E).nox (L2.defBody st) t ∧ t { nx := fun _ H' => Q .non H', rt := Q } (start N vs) H) : KMet P w K mg base (k + 1) C m sp ps st qual kws := by
  obtain ⟨fd, F⟩ := D
  refine ⟨f, fd, c, me, F.ok S len fun cdv A outer s H vs Q E hr h => ?_, F⟩
  obtain ⟨t, h1, h2⟩ := hbody cdv A outer s H vs Q E hr h
  exact ⟨t, h1.nox, h2⟩
end
/-- o.m(k = v, ..) -/
def tMethK (C : Addr) (m : Str) (n : Nat) (sp : Sp) (gV : List V → List V → List V) (E : XK) (ta : TE) (tk : TA) : TE := fun σ H Q => ta σ H fun x H1 => ∃ a dx fs, x = .ref a ∧ H1 a = some (.ins C dx fs) ∧ fs.lookup m = none ∧
  tk σ H1 fun zs H2 => zs.length = n ∧ sp (gV [x] zs) H2 Q E
section
variable {X : Cx} {k j : Nat} {m qual : Str} {C : Addr} {sp : Sp} {ps : List Str} {st : Stmt} {kws : List (Str × V)} {apos pos : Pos} {o : Expr} {kwe : List Keyword} {ta : TE} {tk : TA}
theorem pe_mtK0 {pl : Sem Bool} (c : KMet X.prog X.w X.K X.mg X.base k C m sp ps st qual kws) (hr : Room j X.A) (hk : k ≤ j) (he : PE X o ta) (ks : List Str) (ms : List (Str × V)) (g : {α : Type} → List α → List α → List α → List α) (hkws : kws ≠ []) (hms : ∀ q ∈ ms, q ∈ kws)
    (hrel : ∀ {vs mz zs : List V} {us mv ws : List Value}, Vals vs us → Vals mz mv → Vals zs ws → Vals (g vs mz zs) (g us mv ws))
    (h : ∀ (D : Addr) (doc pm : Value) (an : Option Addr) (cdv ct : Value) (us mv ws : List Value), us.length = 1 → mv.length = ms.length → ws.length = ks.length →
      KwChain D ((ms.map (·.1)).zip mv) (bindArgs (PySem.W.fnOf m qual (L2.defArgs st) (L2.defBody st) (L2.defScope st) .none (.ref D) doc pm an cdv ct) ⟨us, ks.zip ws⟩) (ps.zip (g us mv ws)))
    (hkw : PK X kwe tk) (hall : (backToKw pos (keywordEach kwe X.env)).all (·.1.isSome) = true := by rfl) (hks : (backToKw pos (keywordEach kwe X.env)).filterMap (·.1) = ks := by rfl)
    (hpl : ((backTo pos (starEach [] X.env)).any (·.1) || (backToKw pos (keywordEach kwe X.env)).any (·.1.isNone)) = false := by rfl)
    (ht : eval (.Call (.Attribute o m apos) [] kwe pos) X.env = (do
      let ov ← eval o X.env
      standAt apos.atName
      let (f, first) ← holding [ov] (getMethod ov m pl)
      callWith pos f first (backTo pos (starEach [] X.env)) (backToKw pos (keywordEach kwe X.env))) := by rfl) :
    PE X (.Call (.Attribute o m apos) [] kwe pos) (tMethK C m ks.length sp (fun vs zs => g vs (ms.map (·.2)) zs) C8.E0 ta tk) := by
  obtain ⟨f, fd, hc, hm, F, D⟩ := c.ex
  obtain ⟨mv, hb⟩ := D.kbinds0 (ps := ps) 1 ks ms g hkws hms hrel h
  refine ⟨fun pins s σ H Q I z => PySem.W.methodCall_KW (pl := pl) (thn (he.run pins s σ H _ I z) fun u s1 ⟨x, H1, I1, rx, a, dx, fs, ex, ea, l, q⟩ => ?_) ht⟩
  subst ex
  cases (show u = Value.ref a from rx)
  refine getmeth_ok I1 ea hc hm l (PySem.W.callWith_KW0 (first := [.ref a]) (h₀ := X.base) I.ok.mod.kin hm.kp hall (thn (hkw.run pos pins s1 σ H1 _ I1 q) fun ws s2 ⟨zs, H2, I2, rz, l2, q2⟩ => ⟨I2.kIn, ?_⟩) hpl)
  rw [hks]
  have r0 : Vals [V.ref a] [Value.ref a] := .cons rfl .nil
  refine wpAny_call (codeAny_mono (F.run X.A X.stack s2 H2 ⟨[.ref a], ks.zip ws⟩ _ _ Q C8.E0 (hr.mono hk) I2.env0 (hb.to s2 [.ref a] ws I2.kIn rfl (rz.length.symm.trans l2)) (hb.rel r0 rz) q2) fun r s3 hq => ?_)
  match r, hq with
  | .error er, hq => exact C8.pass0 (E := C8.E0) pins σ H2 s2 er s3 I2 hq
  | .ok (.ret u), hq => exact I2.after hq
end
/-! ### try: e1; return e2 / finally: suite -/
def tXRetFin (t1 t2 : TE) (tf : TS) : TS := fun D σ H => t1 σ H fun _ H1 => t2 σ H1 fun v H2 => tf { D with nx := fun _ H3 => D.rt v H3 } σ H2
section
variable {X : Cx} {e1 e2 : Expr} {f0 : Stmt} {fs : List Stmt} {p1 p2 pos : Pos} {t1 t2 : TE} {tf : TS}
theorem ps_xRetFin (hs : swapsWith e1 none p1.line X.env = pure false) (h1 : PE X.nox e1 t1) (h2 : PE X.nox e2 t2) (hf : PSs X.nox (f0 :: fs) tf) : PS X (.Try [.Expr e1 p1, .Return (some e2) p2] [] [] (f0 :: fs) pos) (tXRetFin t1 t2 tf) := by
  refine ⟨fun pins s σ H D I h => wpAny_Try_finally (wpAny_execs_cons (wpAny_mono ((ps_expr (pos := p1) h1 hs).run pins s σ H { nx := fun σ1 H1 => σ1 = σ ∧ t2 σ H1 fun v H2 => tf { D with nx := fun _ H3 => D.rt v H3 } σ H2, rt := fun _ _ => False } (I.wish _) ?_) (fun fl s1 z => ?_) fun _ _ z => False.elim z))⟩
  · show t1 σ H fun _ H1 => _ ∧ _
    have e : (fun (_ : V) H1 => σ = σ ∧ t2 σ H1 fun v H2 => tf { D with nx := fun _ H3 => D.rt v H3 } σ H2) = fun (_ : V) H1 => t2 σ H1 fun v H2 => tf { D with nx := fun _ H3 => D.rt v H3 } σ H2 := by
      funext _ H1
      simp
    rw [e]
    exact h
  · match fl, z with
    | .next, ⟨_, H1, I1, e, q1⟩ =>
      rw [e] at I1
      refine wpAny_execs_cons (wpAny_Return_some (wpAny_mono (h2.run pins s1 σ H1 _ I1 q1) (fun u s2 z => ?_) fun _ _ z => False.elim z))
      obtain ⟨v2, H2, I2, r2, q2⟩ := z
      exact fin_ret hf I2.unwish r2 q2
    | .ret u, ⟨_, _, _, _, _, z⟩ => exact z.elim
    | .brk, ⟨_, _, _, z⟩ => exact z.elim
    | .cont, ⟨_, _, _, z⟩ => exact z.elim
end
end Pb

/-! PbLit -/
set_option Elab.async false
set_option linter.all false
set_option maxRecDepth 100000
set_option maxHeartbeats 4000000
/-! Pb: nested displays of constants and names as one step -/
namespace Pb
open PySem PySem.Spec PyProof.Rows L2
inductive Lit where
  | c (d : PyData) | v (i : Nat) | tup (ls : List Lit) | lst (ls : List Lit)
mutual
def Lit.d (r : Nat → PyData) : Lit → PyData
  | .c d => d
  | .v i => r i
  | .tup ls => .tuple (Lit.ds r ls)
  | .lst ls => .list (Lit.ds r ls)
def Lit.ds (r : Nat → PyData) : List Lit → List PyData
  | [] => []
  | l :: ls => l.d r :: Lit.ds r ls
end
mutual
def Lit.vars : Lit → List Nat
  | .c _ => []
  | .v i => [i]
  | .tup ls => Lit.varsAll ls
  | .lst ls => Lit.varsAll ls
def Lit.varsAll : List Lit → List Nat
  | [] => []
  | l :: ls => l.vars ++ Lit.varsAll ls
end
theorem Lit.ds_len {r : Nat → PyData} : ∀ {ls : List Lit}, (Lit.ds r ls).length = ls.length
  | [] => rfl
  | _ :: ls => by show (Lit.ds r ls).length + 1 = ls.length + 1; rw [Lit.ds_len]
def VarsAt (K : PySem.W.Frag) (H : Hp) (σ : L2.St) (r : Nat → PyData) (is : List Nat) : Prop := ∀ i ∈ is, ∃ v, σ[i]? = some (some v) ∧ Dp K H v (r i)
theorem VarsAt.nil {K : PySem.W.Frag} {H : Hp} {σ : L2.St} {r : Nat → PyData} : VarsAt K H σ r [] := fun _ h => nomatch h
theorem VarsAt.cons {K : PySem.W.Frag} {H : Hp} {σ : L2.St} {r : Nat → PyData} {i : Nat} {is : List Nat} {v : V} (h : σ[i]? = some (some v)) (d : Dp K H v (r i)) (a : VarsAt K H σ r is) : VarsAt K H σ r (i :: is) := fun j hj => by
  rcases List.mem_cons.mp hj with e | hj
  · rw [e]; exact ⟨v, h, d⟩
  · exact a j hj
def tLit (K : PySem.W.Frag) (l : Lit) : TE := fun σ H Q => ∃ ms r, Tk H ms ∧ VarsAt K (hide H ms) σ r l.vars ∧ ∀ H' v, Same H H' → Dp K (hide H' ms) v (l.d r) → Q v H'
def aLit (K : PySem.W.Frag) (ls : List Lit) : TA := fun σ H Q => ∃ ms r, Tk H ms ∧ VarsAt K (hide H ms) σ r (Lit.varsAll ls) ∧ ∀ H' vs, Same H H' → DpAll K (hide H' ms) vs (Lit.ds r ls) → Q vs H'
section
variable {X : Cx} {K : PySem.W.Frag} {e : Expr} {es : List Expr} {pos : Pos} {l : Lit} {ls : List Lit}
theorem pe_weak {t u : TE} (h : PE X e t) (w : ∀ σ H Q, u σ H Q → t σ H Q) : PE X e u := ⟨fun pins s σ H Q I q => h.run pins s σ H Q I (w σ H Q q)⟩
theorem pa_weak {t u : TA} (h : PA X es t) (w : ∀ σ H Q, u σ H Q → t σ H Q) : PA X es u := ⟨fun pos pins s σ H Q I q => h.run pos pins s σ H Q I (w σ H Q q)⟩
theorem pl_of {v : V} {d : PyData} (h : PE X e (tC v)) (hd : ∀ H, Dp K H v d) : PE X e (tLit K (.c d)) := pe_weak h fun σ H Q ⟨ms, r, _, _, q⟩ => q H v (Same.refl _) (hd _)
theorem pl_int {i : Int} {j : Nat} : PE X (.Constant (.int i) j pos) (tLit K (.c (.int i))) := pl_of pe_int fun _ => .int _
theorem pl_str {x : Str} {j : Nat} : PE X (.Constant (.str x) j pos) (tLit K (.c (.str x))) := pl_of pe_str fun _ => .str _
theorem pl_bl {b : Bool} {j : Nat} : PE X (.Constant (.bool b) j pos) (tLit K (.c (.bool b))) := pl_of pe_bl fun _ => .bl _
theorem pl_non {j : Nat} : PE X (.Constant .none j pos) (tLit K (.c .none)) := pl_of pe_non fun _ => .non
theorem pl_neg {i : Int} {a : Expr} (h : PE X a (tC (.int i))) : PE X (.UnaryOp .USub a pos) (tLit K (.c (.int (-i)))) := pe_weak (pe_un un_neg h) fun σ H Q ⟨ms, r, _, _, q⟩ => ⟨i, rfl, q H _ (Same.refl _) (.int _)⟩
theorem pl_var {i : Nat} (h : PE X e (tVar i)) : PE X e (tLit K (.v i)) := pe_weak h fun σ H Q ⟨ms, r, tk, hv, q⟩ => by
  obtain ⟨v, e1, d⟩ := hv i (List.mem_singleton.mpr rfl)
  exact ⟨v, e1, q H v (Same.refl _) d⟩
theorem pls_nil : PA X [] (aLit K []) := pa_weak pa_nil fun σ H Q ⟨ms, r, _, _, q⟩ => q H [] (Same.refl _) .nil
theorem pls_cons (h : PE X e (tLit K l)) (a : PA X es (aLit K ls)) (hs : starEach (e :: es) X.env = (false, eval e X.env) :: starEach es X.env := by rfl) : PA X (e :: es) (aLit K (l :: ls)) := pa_weak (pa_cons h a hs) fun σ H Q ⟨ms, r, tk, hv, q⟩ =>
  ⟨ms, r, tk, fun i hi => hv i (List.mem_append_left _ hi), fun H1 x s1 d1 => ⟨ms, r, tk.same s1, fun i hi => by
    obtain ⟨v, e1, d⟩ := hv i (List.mem_append_right _ hi)
    exact ⟨v, e1, Dp.mono (Same.hide s1 ms) d⟩, fun H2 xs s2 d2 => q H2 (x :: xs) (s1.trans s2) (.cons (Dp.mono (Same.hide s2 ms) d1) d2)⟩⟩
theorem pl_tup {k : Nat} (h : PA X es (aLit K ls)) (hz : ls.length ≤ 1000 := by decide) : PE X (.Tuple es k pos) (tLit K (.tup ls)) := pe_weak (pe_tup h) fun σ H Q ⟨ms, r, tk, hv, q⟩ =>
  ⟨ms, r, tk, hv, fun H1 vs s1 d1 => ⟨by rw [DpAll.length d1, Lit.ds_len, sizeLine_eq]; omega, fun p np => q _ (.ref p) (s1.trans (same_new np)) (.tup (.inl (.inl (new_at (tk.same s1) np))) (DpAll.mono (Same.hide (same_new np) ms) d1))⟩⟩
theorem pl_lst (h : PA X es (aLit K ls)) (hz : ls.length ≤ 1000 := by decide) : PE X (.List es pos) (tLit K (.lst ls)) := pe_weak (pe_lst h) fun σ H Q ⟨ms, r, tk, hv, q⟩ =>
  ⟨ms, r, tk, hv, fun H1 vs s1 d1 => ⟨by rw [DpAll.length d1, Lit.ds_len, sizeLine_eq]; omega, fun p np => q _ (.ref p) (s1.trans (same_new np)) (.lst (.inl (.inl (new_at (tk.same s1) np))) (DpAll.mono (Same.hide (same_new np) ms) d1))⟩⟩
/-- a list to be changed later: its place is new -/
def tLitN (K : PySem.W.Frag) (ls : List Lit) : TE := fun σ H Q => ∃ ms r, Tk H ms ∧ VarsAt K (hide H ms) σ r (Lit.varsAll ls) ∧ ∀ H1 p vs, Same H H1 → H1 p = none → H p = none → DpAll K (hide H1 ms) vs (Lit.ds r ls) → Q (.ref p) (upd H1 p (.lst vs))
theorem pl_lstN (h : PA X es (aLit K ls)) (hz : ls.length ≤ 1000 := by decide) : PE X (.List es pos) (tLitN K ls) := pe_weak (pe_lst h) fun σ H Q ⟨ms, r, tk, hv, q⟩ =>
  ⟨ms, r, tk, hv, fun H1 vs s1 d1 => ⟨by rw [DpAll.length d1, Lit.ds_len, sizeLine_eq]; omega, fun p np => q H1 p vs s1 np (s1.free np) d1⟩⟩
end
section
variable {K : PySem.W.Frag} {σ : L2.St} {H : Hp} {Q : VK} {l : Lit} {ls : List Lit}
/-- without names -/
theorem a_lit (hv : l.vars = []) (d : PyData) (hd : l.d (fun _ => .none) = d) (q : ∀ H' v, Same H H' → Dp K H' v d → Q v H') : tLit K l σ H Q := ⟨[], fun _ => .none, Tk.nil, by rw [hv]; exact VarsAt.nil, fun H' v s h => by
  rw [hide_nil, hd] at h
  exact q H' v s h⟩
theorem a_litN (hv : Lit.varsAll ls = []) (ds : List PyData) (hd : Lit.ds (fun _ => .none) ls = ds) (q : ∀ H1 p vs, Same H H1 → H1 p = none → H p = none → DpAll K H1 vs ds → Q (.ref p) (upd H1 p (.lst vs))) : tLitN K ls σ H Q := ⟨[], fun _ => .none, Tk.nil, by rw [hv]; exact VarsAt.nil, fun H1 p vs s n n0 h => by
  rw [hide_nil, hd] at h
  exact q H1 p vs s n n0 h⟩
end
end Pb

/-! PbEnd -/
set_option Elab.async false
set_option linter.all false
set_option maxRecDepth 100000
set_option maxHeartbeats 4000000
namespace Pb
open PySem PySem.Spec PyProof.Rows L2
open C8 (Cal Mak Met pe_c pe_mk pe_mt pe_mt0 pe_gc fnScope_by)
/-! short words -/
local macro_rules | `(tactic| walk_at "rd") => `(tactic| try simp only [tVar, tC, tAdd, tSub, t2I, tIsN, tNotN, tB, tAnd, tOr, tNot, tAndV, tOrV, tNotV, tIf, tSeq, tPar, tPar3, tNext, tBreak, tCont, tDrop, tRet, tRetN, tIfS, gName, gNil, gCons, gTup, gSub, tAsg, tAug, ipI, iList, iTup, iRng1, iRng2, iStr, iEnum, iZip,
  tOp, tUn, rI, rI0, rU, tTest, tChain, tFld, sFld, sFldAug, L2.rAdd, L2.rSub, tNil, tCons, tTup, tLst, tCall, tMeth, tMake, tCB, tNoPart, tPart, tSl, tBM0, tBM, tDGet, tDGet1, tDGet2, tDIn, tDNotIn, sDPut, tDNewK, rEq, rNe, scal_ii, scal_ss, scal_bb, scal_nn, scal_ni, scal_in, scal_ns, scal_sn, scal_is, scal_si, List.take_succ_cons, List.take_zero, List.drop_succ_cons, List.drop_zero, upd_same, upd_upd, and_assoc, tKGet, gStar, tDisp, tPairs, tYes,
  L2.start, List.map_cons, List.map_nil, List.length_cons, List.length_nil, List.cons_append, List.nil_append, List.append_nil, List.replicate, Nat.sub_self, Nat.add_sub_cancel, Nat.reduceAdd, Nat.reduceSub, List.set_cons_zero, List.set_cons_succ, List.getElem?_cons_zero, List.getElem?_cons_succ,
  Option.some.injEq, V.int.injEq, V.bl.injEq, V.str.injEq, V.ref.injEq, exists_eq_left', exists_eq_left, exists_eq', exists_eq, true_and, and_true, if_true, if_false, Bool.false_eq_true, List.cons.injEq, Bool.not_true, Bool.not_false, cxK, cxP, cxW, ite_true, ite_false, wipe, reduceCtorEq, and_self, decide_true, decide_false, exists_and_left, exists_const, decide_eq_true_eq])
local macro_rules | `(tactic| walk_at "len") => `(tactic| (intro vs H Q E h; repeat (first | (obtain ⟨e, _⟩ := h; subst e; rfl) | (obtain ⟨_, h⟩ := h))))
local macro_rules | `(tactic| walk_at "wd") => `(tactic| simp (config := {decide := true}) only [V.str.injEq, scal_ss, true_and, if_true, if_false])

/-! Pb: a law's promise, data equal to itself -/
theorem gfn_ofN {P : Program} {w : World} {K : PySem.W.Frag} {mg : Str → Option Value} {base : Heap} {x qual : Str} {st : Stmt} {f : Addr} {fd : FuncData} {dvs : List V} {kws : List (Str × V)} {N ps : List Str} {k : Nat} {sp : Sp} (D : FunD K x qual (L2.defArgs st) (L2.defBody st) (L2.defScope st) dvs kws f fd) (S : FnScope N ps (L2.defScope st)) (len : ∀ vs H Q E, sp vs H Q E → vs.length = ps.length)
    (hbody : ∀ (cdv : Value) (A : Around) (outer : List Env) (s : Shared) (H : Hp) (vs : List V) (Q : VK) (E : XK), Still (A.deeper (envOfC qual (L2.defScope st) s.heap.objs.size f cdv)) → Room k (A.deeper (envOfC qual (L2.defScope st) s.heap.objs.size f cdv)) → sp vs H Q E →
      ∃ t, PSs (cxOf CX0 P w K mg base N qual (L2.defScope st) f cdv A outer s H E).nox (L2.defBody st) t ∧ t { nx := fun _ H' => Q .non H', rt := Q } (start N vs) H) : GFn P w K mg base (k + 1) f fd ps sp :=
  gfn_of D S len fun cdv A outer s H vs Q E hs hr h => by
    obtain ⟨t, h1, h2⟩ := hbody cdv A outer s H vs Q E hs hr h
    exact ⟨t, h1.nox, h2⟩
mutual
theorem eqv_self : ∀ d : PyData, d.hasDict = false → PyData.eqv d d = true
  | .none, _ => by simp [PyData.eqv]
  | .bool b, _ => by simp [PyData.eqv]
  | .int i, _ => by simp [PyData.eqv]
  | .str x, _ => by simp [PyData.eqv]
  | .list xs, h => by
    rw [PyData.eqv]
    exact eqvAll_self xs (by simpa [PyData.hasDict] using h)
  | .tuple xs, h => by
    rw [PyData.eqv]
    exact eqvAll_self xs (by simpa [PyData.hasDict] using h)
  | .dict _, h => by simp [PyData.hasDict] at h
theorem eqvAll_self : ∀ ds : List PyData, PyData.hasDictAll ds = false → PyData.eqvAll ds ds = true
  | [], _ => by simp [PyData.eqvAll]
  | d :: ds, h => by
    have h2 : d.hasDict = false ∧ PyData.hasDictAll ds = false := by simpa [PyData.hasDictAll] using h
    rw [PyData.eqvAll, eqv_self d h2.1, eqvAll_self ds h2.2]
    rfl
end
theorem eqv_shaped {d : PyData} (h : SeqAt.shaped d = true) : PyData.eqv d d = true := by
  unfold SeqAt.shaped at h
  exact eqv_self d (PyData.hasDict_of_canLay d (Bool.and_eq_true_iff.mp h).1)
theorem iteF' {c : Prop} [Decidable c] {a b : Prop} (h : ¬ c) (q : b) : if c then a else b := by rw [if_neg h]; exact q
section
variable {K : PySem.W.Frag} {H : Hp} {x : V} {Q : VK}
theorem a_neSelf {y : V} {d : PyData} (h : Dp K H x d) (h2 : Dp K H y d) (sh : SeqAt.shaped d = true) (q : Q (.bl false) H) : rNeD K x y H Q := a_neD h h2 sh sh (by rw [eqv_shaped sh]; exact q)
theorem a_eqSelf {y : V} {d : PyData} (h : Dp K H x d) (h2 : Dp K H y d) (sh : SeqAt.shaped d = true) (q : Q (.bl true) H) : rEqD K x y H Q := a_eqD h h2 sh sh (by rw [eqv_shaped sh]; exact q)
theorem shaped_ints (ns : List Int) : SeqAt.shaped (.list (ns.map PyData.int)) = true := shaped_of (n := 1) (shp_list fun d hd => by
  obtain ⟨n, _, e⟩ := List.mem_map.mp hd
  rw [← e]
  exact shp_int) (by decide)
end
end Pb

/-! W1 -/
set_option Elab.async false
set_option linter.all false
set_option maxRecDepth 100000
set_option maxHeartbeats 4000000
namespace Pb
open PySem PySem.Spec PyProof.Rows L2
open C8 (Cal Mak Met pe_c pe_mk pe_mt pe_mt0 pe_gc fnScope_by)
/-! short words -/
local macro_rules | `(tactic| walk_at "rd") => `(tactic| try simp only [tVar, tC, tAdd, tSub, t2I, tIsN, tNotN, tB, tAnd, tOr, tNot, tAndV, tOrV, tNotV, tIf, tSeq, tPar, tPar3, tNext, tBreak, tCont, tDrop, tRet, tRetN, tIfS, gName, gNil, gCons, gTup, gSub, tAsg, tAug, ipI, iList, iTup, iRng1, iRng2, iStr, iEnum, iZip,
  tOp, tUn, rI, rI0, rU, tTest, tChain, tFld, sFld, sFldAug, L2.rAdd, L2.rSub, tNil, tCons, tTup, tLst, tCall, tMeth, tMake, tCB, tNoPart, tPart, tSl, tBM0, tBM, tDGet, tDGet1, tDGet2, tDIn, tDNotIn, sDPut, tDNewK, rEq, rNe, scal_ii, scal_ss, scal_bb, scal_nn, scal_ni, scal_in, scal_ns, scal_sn, scal_is, scal_si, List.take_succ_cons, List.take_zero, List.drop_succ_cons, List.drop_zero, upd_same, upd_upd, and_assoc, tKGet, gStar, tDisp, tPairs, tYes,
  L2.start, List.map_cons, List.map_nil, List.length_cons, List.length_nil, List.cons_append, List.nil_append, List.append_nil, List.replicate, Nat.sub_self, Nat.add_sub_cancel, Nat.reduceAdd, Nat.reduceSub, List.set_cons_zero, List.set_cons_succ, List.getElem?_cons_zero, List.getElem?_cons_succ,
  Option.some.injEq, V.int.injEq, V.bl.injEq, V.str.injEq, V.ref.injEq, exists_eq_left', exists_eq_left, exists_eq', exists_eq, true_and, and_true, if_true, if_false, Bool.false_eq_true, List.cons.injEq, Bool.not_true, Bool.not_false, cxK, cxP, cxW, ite_true, ite_false, wipe, reduceCtorEq, and_self, decide_true, decide_false, exists_and_left, exists_const, decide_eq_true_eq])
local macro_rules | `(tactic| walk_at "len") => `(tactic| (intro vs H Q E h; repeat (first | (obtain ⟨e, _⟩ := h; subst e; rfl) | (obtain ⟨_, h⟩ := h))))
local macro_rules | `(tactic| walk_at "wd") => `(tactic| simp (config := {decide := true}) only [V.str.injEq, scal_ss, true_and, if_true, if_false])

def lettersS : Str := "abcdefghijklmnopqrstuvwxyz"
def isWhole : PyData → Bool
  | .int _ => true
  | _ => false
def within (d : PyData) (lo hi : Int) : Bool := match d with
  | .int i => decide (lo ≤ i) && decide (i ≤ hi)
  | _ => false
/-- a text that is a name -/
def nameS (x : Str) : Bool := decide (1 ≤ x.length) && decide (x.length ≤ 8) && x.cps.toList.all fun c => decide (c ∈ lettersS.cps.toList)
def nameD : PyData → Bool
  | .str x => nameS x
  | _ => false
def tupleOf (d : PyData) (most : Int) : Bool := match d with
  | .tuple (x :: xs) => decide (((xs.length + 1 : Nat) : Int) ≤ most) && isStr x
  | _ => false
def short : PyData → Prop
  | .str x => x.length ≤ sizeLine
  | _ => True
def rowD : PyData → Bool
  | .tuple (.str w :: xs) => decide (xs.length ≤ 1) && (decide (w ∈ c_WORDS) && if w = "put" then (match xs with
    | [d] => within d (-32768) 32767
    | _ => false) else decide (xs.length = 0))
  | _ => false
def sp_is_whole (K : PySem.W.Frag) : Sp := fun vs H Q _ => ∃ ms v d, vs = [v] ∧ Tk H ms ∧ Dp K (hide H ms) v d ∧ ∀ H', Same H H' → Q (.bl (isWhole d)) H'
def sp_within (K : PySem.W.Frag) : Sp := fun vs H Q _ => ∃ ms v d lo hi, vs = [v, .int lo, .int hi] ∧ Tk H ms ∧ Dp K (hide H ms) v d ∧ ∀ H', Same H H' → Q (.bl (within d lo hi)) H'
def sp_is_worth (K : PySem.W.Frag) : Sp := fun vs H Q _ => ∃ ms v d, vs = [v] ∧ Tk H ms ∧ Dp K (hide H ms) v d ∧ ∀ H', Same H H' → Q (.bl (within d (-32768) 32767)) H'
def sp_is_name (K : PySem.W.Frag) : Sp := fun vs H Q _ => ∃ ms v d, vs = [v] ∧ Tk H ms ∧ Dp K (hide H ms) v d ∧ short d ∧ ∀ H', Same H H' → Q (.bl (nameD d)) H'
def sp_is_tuple_of (K : PySem.W.Frag) : Sp := fun vs H Q _ => ∃ ms v d n, vs = [v, .int n] ∧ Tk H ms ∧ Dp K (hide H ms) v d ∧ ∀ H', Same H H' → Q (.bl (tupleOf d n)) H'
def sp_is_row (K : PySem.W.Frag) : Sp := fun vs H Q _ => ∃ ms v d, vs = [v] ∧ Tk H ms ∧ Dp K (hide H ms) v d ∧ ∀ H', Same H H' → Q (.bl (rowD d)) H'
/-- how many worths a word touches, how many more there are behind it -/
def touchN (w : Str) : Int := if w ∈ c_SUMS then 2 else ((c_TOUCHES.find? fun q => decide (q.1 = w)).map (·.2)).getD 0
def changeN (w : Str) : Int := if w ∈ c_SUMS then -1 else ((c_CHANGES.find? fun q => decide (q.1 = w)).map (·.2)).getD 0
def sp_touches (K : PySem.W.Frag) : Sp := fun vs H Q _ => ∃ ms v w xs, vs = [v] ∧ Tk H ms ∧ Dp K (hide H ms) v (.tuple (.str w :: xs)) ∧ (w ∈ c_SUMS ∨ w ∈ c_TOUCHES.map (·.1)) ∧ Q (.int (touchN w)) H
def sp_change (K : PySem.W.Frag) : Sp := fun vs H Q _ => ∃ ms v w xs, vs = [v] ∧ Tk H ms ∧ Dp K (hide H ms) v (.tuple (.str w :: xs)) ∧ (w ∈ c_SUMS ∨ w ∈ c_TOUCHES.map (·.1)) ∧ Q (.int (changeN w)) H
def back (n : Int) : Int := (n + 32768) % 65536 - 32768
def sp_brought_back (K : PySem.W.Frag) : Sp := fun vs H Q _ => ∃ n, vs = [.int n] ∧ Q (.int (back n)) H
theorem tab_find {l : List (Str × Int)} (nd : (l.map (·.1)).Nodup) {x : Str} {n : Int} (h : (x, n) ∈ l) : ((l.find? fun q => decide (q.1 = x)).map (·.2)).getD 0 = n := by
  induction l with
  | nil => cases h
  | cons q l ih =>
    rw [List.map_cons, List.nodup_cons] at nd
    rw [List.find?_cons]
    rcases List.mem_cons.mp h with e | h2
    · subst e
      rw [decide_eq_true rfl]
      rfl
    · have ne : ¬ q.1 = x := fun e => nd.1 (List.mem_map.mpr ⟨_, h2, e.symm⟩)
      rw [decide_eq_false ne]
      exact ih nd.2 h2
theorem mem_touches {x : Str} {q : Str × Int} (h : q ∈ c_TOUCHES) (e : q.1 = x) : ∃ n, (x, n) ∈ c_TOUCHES := ⟨q.2, by rw [← e]; exact h⟩
theorem mem_change {x : Str} {q : Str × Int} (h : q ∈ c_TOUCHES) (e : q.1 = x) : ∃ n, (x, n) ∈ c_CHANGES := by
  have k0 : ∀ q ∈ c_TOUCHES, q.1 ∈ c_CHANGES.map (·.1) := by decide +kernel
  have k := k0 q h
  rw [e] at k
  obtain ⟨q2, h2, e2⟩ := List.mem_map.mp k
  exact ⟨q2.2, by rw [← e2]; exact h2⟩
theorem find_touches {x : Str} {n : Int} (h : (x, n) ∈ c_TOUCHES) : ((c_TOUCHES.find? fun q => decide (q.1 = x)).map (·.2)).getD 0 = n := tab_find (by decide +kernel) h
theorem find_change {x : Str} {n : Int} (h : (x, n) ∈ c_CHANGES) : ((c_CHANGES.find? fun q => decide (q.1 = x)).map (·.2)).getD 0 = n := tab_find (by decide +kernel) h
section
variable {P : Program} {w : World} {K : PySem.W.Frag} {mg : Str → Option Value} {base : Heap}
theorem ok_is_whole (T : Tx w K mg) : Cal P w K mg base 1 "is_whole" (sp_is_whole K) [] := by
  refine cal_of T.D_is_whole T.g_is_whole sc_is_whole (fun _ _ _ _ _ _ us hl => match us, hl with | [_], _ => rfl) (by walk_at "len") fun cdv A outer s H vs Q E hr h => ?_
  refine ⟨_, (pss_one (ps_ret (pe_and (pe_callB (r := rIsi K) call_isi (by rfl) T.b_isinstance (by decide +kernel) (pa_cons (pv 0) (pa_cons (pe_bltn (v := .ty "int") (by rfl) T.b_int (by decide +kernel) rfl) pa_nil))) (pe_one (pe_not (pe_callB (r := rIsi K) call_isi (by rfl) T.b_isinstance (by decide +kernel) (pa_cons (pv 0) (pa_cons (pe_bltn (v := .ty "bool") (by rfl) T.b_bool (by decide +kernel) rfl) pa_nil)))))))), ?_⟩
  obtain ⟨ms, v, d, rfl, tk, hd, k⟩ := h
  replace hd := Dp.mono same_show hd
  walk_at "rd"
  refine a_isi hd (kit_int _) ?_
  walk_at "rd"
  cases d <;> simp only [isInt, if_true, if_false, Bool.false_eq_true]
  case int =>
    refine a_isi hd (kit_bool _) ?_
    simp only [isBool]
    walk_at "rd"
    exact k _ (Same.refl _)
  case bool =>
    refine a_isi hd (kit_bool _) ?_
    simp only [isBool]
    walk_at "rd"
    exact k _ (Same.refl _)
  all_goals exact k _ (Same.refl _)
theorem ok_within (T : Tx w K mg) (F_is_whole : Cal P w K mg base 1 "is_whole" (sp_is_whole K) []) : Cal P w K mg base 2 "within" (sp_within K) [] := by
  refine cal_of T.D_within T.g_within sc_within (fun _ _ _ _ _ _ us hl => match us, hl with | [_, _, _], _ => rfl) (by walk_at "len") fun cdv A outer s H vs Q E hr h => ?_
  refine ⟨_, (pss_one (ps_ret (pe_and (pe_c F_is_whole hr (by decide) (by rfl) (pa_cons (pv 0) pa_nil)) (pe_one (pe_chain op_le op_le (pv 1) (pv 0) (pv 2)))))), ?_⟩
  obtain ⟨ms, v, d, lo, hi, rfl, tk, hd, k⟩ := h
  walk_at "rd"
  refine ⟨_, _, _, rfl, tk, hd, fun H' s1 => ?_⟩
  walk_at "rd"
  cases d <;> simp only [isWhole, if_true, if_false, Bool.false_eq_true]
  case int i =>
    cases hd
    walk_at "rd"
    have k2 := k H' s1
    simp only [within] at k2
    split
    next h1 => rw [decide_eq_true h1, Bool.true_and] at k2; exact k2
    next h1 => rw [decide_eq_false h1, Bool.false_and] at k2; exact k2
  all_goals exact k _ s1
theorem ok_is_worth (T : Tx w K mg) (F_within : Cal P w K mg base 2 "within" (sp_within K) []) : Cal P w K mg base 3 "is_worth" (sp_is_worth K) [] := by
  refine cal_of T.D_is_worth T.g_is_worth sc_is_worth (fun _ _ _ _ _ _ us hl => match us, hl with | [_], _ => rfl) (by walk_at "len") fun cdv A outer s H vs Q E hr h => ?_
  refine ⟨_, (pss_one (ps_ret (pe_c F_within hr (by decide) (by rfl) (pa_cons (pv 0) (pa_cons (pe_gc (by rfl) T.v_LEAST) (pa_cons (pe_gc (by rfl) T.v_MOST_WORTH) pa_nil)))))), ?_⟩
  obtain ⟨ms, v, d, rfl, tk, hd, k⟩ := h
  walk_at "rd"
  exact ⟨_, _, _, _, _, rfl, tk, hd, fun H' s1 => k H' s1⟩
theorem ok_is_tuple_of (T : Tx w K mg) : Cal P w K mg base 1 "is_tuple_of" (sp_is_tuple_of K) [] := by
  refine cal_of T.D_is_tuple_of T.g_is_tuple_of sc_is_tuple_of (fun _ _ _ _ _ _ us hl => match us, hl with | [_, _], _ => rfl) (by walk_at "len") fun cdv A outer s H vs Q E hr h => ?_
  refine ⟨_, (pss_one (ps_ret (pe_and (pe_callB (r := rIsi K) call_isi (by rfl) T.b_isinstance (by decide +kernel) (pa_cons (pv 0) (pa_cons (pe_bltn (v := .ty "tuple") (by rfl) T.b_tuple (by decide +kernel) rfl) pa_nil))) (pe_and (pe_chain op_le op_le pe_int (pe_callB (r := rLenQ K) call_lenQ (by rfl) T.b_len (by decide +kernel) (pa_cons (pv 0) pa_nil)) (pv 1)) (pe_one (pe_callB (r := rIsi K) call_isi (by rfl) T.b_isinstance (by decide +kernel) (pa_cons (pe_ix (r := rIx K) ix_seq (pv 0) pe_int (fun _ _ => rfl)) (pa_cons (pe_bltn (v := .ty "str") (by rfl) T.b_str (by decide +kernel) rfl) pa_nil)))))))), ?_⟩
  obtain ⟨ms, v, d, n, rfl, tk, hd, k⟩ := h
  replace hd := Dp.mono same_show hd
  walk_at "rd"
  refine a_isi hd (kit_tuple _) ?_
  walk_at "rd"
  cases d <;> simp only [isTuple, if_true, if_false, Bool.false_eq_true]
  case tuple ds =>
    refine a_lenT hd ?_
    walk_at "rd"
    cases ds with
    | nil => exact k _ (Same.refl _)
    | cons x xs =>
      have e1 : (1 : Int) ≤ (xs.length + 1 : Nat) := by omega
      simp only [List.length_cons]
      rw [if_pos e1]
      have k2 := k H (Same.refl _)
      simp only [tupleOf] at k2
      split
      next hn =>
        refine a_ixT hd atI_0 fun u hu => ?_
        refine a_isi hu (kit_str _) ?_
        rw [decide_eq_true hn, Bool.true_and] at k2
        exact k2
      next hn =>
        rw [decide_eq_false hn, Bool.false_and] at k2
        exact k2
  all_goals exact k _ (Same.refl _)
theorem ok_is_name (T : Tx w K mg) : Cal P w K mg base 1 "is_name" (sp_is_name K) [] := by
  refine cal_of T.D_is_name T.g_is_name sc_is_name (fun _ _ _ _ _ _ us hl => match us, hl with | [_], _ => rfl) (by walk_at "len") fun cdv A outer s H vs Q E hr h => ?_
  refine ⟨_, (pss_one (ps_ret (pe_and (pe_callB (r := rIsi K) call_isi (by rfl) T.b_isinstance (by decide +kernel) (pa_cons (pv 0) (pa_cons (pe_bltn (v := .ty "str") (by rfl) T.b_str (by decide +kernel) rfl) pa_nil))) (pe_and (pe_chain op_le op_le pe_int (pe_callB call_lenS (by rfl) T.b_len (by decide +kernel) (pa_cons (pv 0) pa_nil)) pe_int) (pe_one (pe_callB (r := rAll K) (cr_all rfl) (by rfl) T.b_all (by decide +kernel) (pa_cons (pe_lc rfl sc_is_name.nd (pi_str (pv 0)) (blkOk_by (own := [("sign", 1)]) (N := ["thing", "sign"]) (sc := L2.defScope s_is_name) (by decide +kernel)) (fun _ _ _ _ _ => (pg_m (pg_name (i := 1) sc_is_name.nd rfl (by first | exact Or.inl rfl | exact Or.inr rfl)))) (fun _ _ _ _ _ => pts_nilM) (fun _ _ _ _ _ => (pe_m (pe_cmpR op_in_sign (pv 1) (pe_gc (by rfl) T.v_LETTERS) (by rfl))))) pa_nil))))))), ?_⟩
  obtain ⟨ms, v, d, rfl, tk, hd, hsh, k⟩ := h
  replace hd := Dp.mono same_show hd
  walk_at "rd"
  refine a_isi hd (kit_str _) ?_
  walk_at "rd"
  cases d <;> simp only [isStr, if_true, if_false, Bool.false_eq_true]
  case str x =>
    cases hd
    refine ⟨x, rfl, hsh, ?_⟩
    walk_at "rd"
    have k2 := fun H' s1 => k H' s1
    simp only [nameD, nameS] at k2
    split
    next h1 =>
      split
      next h2 =>
        refine a_lc ?_
        walk_at "rd"
        intro D hD
        have hz : x.cps.size < sizeLine := by
          have q : (x.cps.size : Int) ≤ 8 := h2
          rw [sizeLine_eq]; omega
        refine lc_pure (K := K) (ms := []) walk_str hD Tk.nil hz (fun _ _ => trivial) (fun _ => true) (fun i => .bool (decide (x.cps.toList.getD i 0 ∈ lettersS.cps.toList))) (fun i y H1 H2 hi s1 hD1 hy => ?_) (fun H1 ys s1 e1 e2 => ?_)
        · obtain ⟨e0, c, ec, rfl⟩ := hy
          subst e0
          walk_at "rd"
          have ec2 : x.cps.toList.getD i 0 = c := by rw [List.getD_eq_getElem?_getD, Array.getElem?_toList, ec]; rfl
          rw [ec2]
          exact ⟨fun z => z.elim, fun _ => ⟨c, rfl, Same.refl _, .bl _⟩⟩
        · have e3 : ((List.range x.cps.size).filter fun _ => true).map (fun i => PyData.bool (decide (x.cps.toList.getD i 0 ∈ lettersS.cps.toList))) = (x.cps.toList.map fun c => decide (c ∈ lettersS.cps.toList)).map PyData.bool := by
            have q := range_m (0 : Nat) (fun c => PyData.bool (decide (c ∈ lettersS.cps.toList))) x.cps.toList
            rw [List.map_map]
            have q2 : x.cps.toList.length = x.cps.size := Array.length_toList
            rw [q2] at q
            exact q
          rw [e3] at e2
          refine a_all (.lst (SqL.of e1) (DpAll.mono same_show e2)) ?_
          have k3 := k2 H1 s1
          have a1 : 1 ≤ x.length := by omega
          have a2 : x.length ≤ 8 := by omega
          simp only [decide_eq_true a1, decide_eq_true a2, Bool.true_and] at k3
          rw [List.all_map]
          exact k3
      next h2 =>
        have k3 := k2 H (Same.refl _)
        have a2 : ¬ x.length ≤ 8 := by omega
        simp only [decide_eq_false a2, Bool.and_false, Bool.false_and] at k3
        exact k3
    next h1 =>
      have k3 := k2 H (Same.refl _)
      have a1 : ¬ 1 ≤ x.length := by omega
      simp only [decide_eq_false a1, Bool.false_and] at k3
      exact k3
  all_goals exact k _ (Same.refl _)
theorem ok_is_row (T : Tx w K mg) (F_is_tuple_of : Cal P w K mg base 1 "is_tuple_of" (sp_is_tuple_of K) []) (F_is_worth : Cal P w K mg base 3 "is_worth" (sp_is_worth K) []) : Cal P w K mg base 4 "is_row" (sp_is_row K) [] := by
  refine cal_of T.D_is_row T.g_is_row sc_is_row (fun _ _ _ _ _ _ us hl => match us, hl with | [_], _ => rfl) (by walk_at "len") fun cdv A outer s H vs Q E hr h => ?_
  refine ⟨_, (pss_cons (ps_if (PW.pt (pw_or (pt_not (pt_val (pe_c F_is_tuple_of hr (by decide) (by rfl) (pa_cons (pv 0) (pa_cons pe_int pa_nil))))) (pw_or1 (pt_cmpR (r := rIn K true) op_notIn_seq (pe_ix (r := rIx K) ix_seq (pv 0) pe_int (fun _ _ => rfl)) (pe_gc (by rfl) T.v_WORDS) (by rfl))))) (pss_one (ps_ret pe_bl)) pss_nil)
    (pss_one (ps_ret (pe_ifExp (pt_cmpR op_eq (pe_ix (r := rIx K) ix_seq (pv 0) pe_int (fun _ _ => rfl)) pe_str (nomark _)) (pe_and (pe_cmpR op_eq (pe_callB (r := rLenQ K) call_lenQ (by rfl) T.b_len (by decide +kernel) (pa_cons (pv 0) pa_nil)) pe_int (nomark _)) (pe_one (pe_c F_is_worth hr (by decide) (by rfl) (pa_cons (pe_ix (r := rIx K) ix_seq (pv 0) pe_int (fun _ _ => rfl)) pa_nil)))) (pe_cmpR op_eq (pe_callB (r := rLenQ K) call_lenQ (by rfl) T.b_len (by decide +kernel) (pa_cons (pv 0) pa_nil)) pe_int (nomark _)))))), ?_⟩
  obtain ⟨ms, v, d, rfl, tk, hd, k⟩ := h
  walk_at "rd"
  refine ⟨_, _, _, _, rfl, tk, hd, fun H1 s1 => ?_⟩
  walk_at "rd"
  replace hd := Dp.mono same_show (Dp.mono (Same.hide s1 ms) hd)
  cases d <;> simp only [tupleOf, if_true, Bool.not_false]
  case tuple ds =>
    cases ds with
    | nil => exact k H1 s1
    | cons x xs =>
      cases x <;> simp only [tupleOf, isStr, Bool.and_false, Bool.and_true, Bool.not_false, if_true]
      case str z =>
        have k2 := fun H' s1 => k H' s1
        simp only [rowD] at k2
        by_cases h1 : xs.length ≤ 1
        · have h2 : ((xs.length + 1 : Nat) : Int) ≤ 2 := by omega
          simp only [decide_eq_true h1, Bool.true_and] at k2
          simp only [decide_eq_true h2, Bool.not_true, Bool.false_eq_true, if_false]
          refine a_ixT hd atI_0 fun u hu => ?_
          cases hu
          refine a_in_strs (.inr (T.t_WORDS _)) ?_
          walk_at "rd"
          by_cases h3 : z ∈ c_WORDS
          · rw [decide_eq_true h3, Bool.true_and] at k2
            have h4 : (!decide (z ∈ c_WORDS)) = false := by rw [decide_eq_true h3]; rfl
            rw [if_neg (by rw [h4]; exact Bool.false_ne_true)]
            refine a_ixT hd atI_0 fun u hu => ?_
            cases hu
            walk_at "rd"
            by_cases h5 : z = Str.ofString "put"
            · rw [if_pos h5] at k2 ⊢
              refine a_lenT hd ?_
              walk_at "rd"
              match xs, hd, h1, k2 with
              | [], hd, _, k2 =>
                rw [if_neg (by decide)]
                exact k2 _ s1
              | [y], hd, _, k2 =>
                rw [if_pos (by rfl)]
                refine a_ixT hd atI_1 fun u hu => ?_
                exact ⟨[], u, y, rfl, Tk.nil, by rw [hide_nil]; exact hu, fun H' s2 => k2 H' (s1.trans s2)⟩
              | _ :: _ :: _, _, h1, _ => exact absurd h1 (by simp)
            · rw [if_neg h5] at k2 ⊢
              refine a_lenT hd ?_
              walk_at "rd"
              have k3 := k2 H1 s1
              have e : decide (((PyData.str z :: xs).length : Int) = 1) = decide (xs.length = 0) := by
                rw [List.length_cons]
                by_cases q : xs.length = 0
                · rw [decide_eq_true q, decide_eq_true (by omega)]
                · rw [decide_eq_false q, decide_eq_false (by omega)]
              rw [← e] at k3
              exact k3
          · rw [decide_eq_false h3, Bool.false_and] at k2
            have h4 : (!decide (z ∈ c_WORDS)) = true := by rw [decide_eq_false h3]; rfl
            rw [if_pos h4]
            exact k2 _ s1
        · have h2 : ¬ ((xs.length + 1 : Nat) : Int) ≤ 2 := by omega
          simp only [decide_eq_false h1, Bool.false_and] at k2
          simp only [decide_eq_false h2, Bool.not_false, if_true]
          exact k2 _ s1
      all_goals exact k H1 s1
  all_goals exact k H1 s1
theorem ok_touches (T : Tx w K mg) : Cal P w K mg base 1 "touches" (sp_touches K) [] := by
  refine cal_of T.D_touches T.g_touches sc_touches (fun _ _ _ _ _ _ us hl => match us, hl with | [_], _ => rfl) (by walk_at "len") fun cdv A outer s H vs Q E hr h => ?_
  refine ⟨_, (pss_one (ps_ret (pe_ifExp (pt_cmpR (r := rIn K false) op_in_seq (pe_ix (r := rIx K) ix_seq (pv 0) pe_int (fun _ _ => rfl)) (pe_gc (by rfl) T.v_SUMS) (by rfl)) pe_int (pe_kdget T.k_TOUCHES (pe_gc (by rfl) T.v_TOUCHES) (pe_ix (r := rIx K) ix_seq (pv 0) pe_int (fun _ _ => rfl)) (fun _ _ => rfl))))), ?_⟩
  obtain ⟨ms, v, x, xs, rfl, tk, hd, hw, k⟩ := h
  replace hd := Dp.mono same_show hd
  walk_at "rd"
  refine a_ixT hd atI_0 fun u hu => ?_
  cases hu
  refine a_in_strs (.inr (T.t_SUMS _)) ?_
  walk_at "rd"
  unfold touchN at k
  by_cases h1 : x ∈ c_SUMS
  · rw [if_pos h1] at k ⊢
    exact k
  · rw [if_neg h1] at k ⊢
    refine a_ixT hd atI_0 fun u hu => ?_
    cases hu
    obtain ⟨q, hq, e⟩ := List.mem_map.mp (hw.resolve_left h1)
    obtain ⟨n, en⟩ : ∃ n, (x, n) ∈ c_TOUCHES := mem_touches hq e
    obtain ⟨u, e1, e2⟩ := T.x_TOUCHES _ en
    refine ⟨x, rfl, u, e1, .int n, e2, ?_⟩
    have e3 : ((c_TOUCHES.find? fun q => decide (q.1 = x)).map (·.2)).getD 0 = n := find_touches en
    rw [e3] at k
    exact k
theorem ok_change (T : Tx w K mg) : Cal P w K mg base 1 "change" (sp_change K) [] := by
  refine cal_of T.D_change T.g_change sc_change (fun _ _ _ _ _ _ us hl => match us, hl with | [_], _ => rfl) (by walk_at "len") fun cdv A outer s H vs Q E hr h => ?_
  refine ⟨_, (pss_one (ps_ret (pe_ifExp (pt_cmpR (r := rIn K false) op_in_seq (pe_ix (r := rIx K) ix_seq (pv 0) pe_int (fun _ _ => rfl)) (pe_gc (by rfl) T.v_SUMS) (by rfl)) (pe_un un_neg pe_int) (pe_kdget T.k_CHANGES (pe_gc (by rfl) T.v_CHANGES) (pe_ix (r := rIx K) ix_seq (pv 0) pe_int (fun _ _ => rfl)) (fun _ _ => rfl))))), ?_⟩
  obtain ⟨ms, v, x, xs, rfl, tk, hd, hw, k⟩ := h
  replace hd := Dp.mono same_show hd
  walk_at "rd"
  refine a_ixT hd atI_0 fun u hu => ?_
  cases hu
  refine a_in_strs (.inr (T.t_SUMS _)) ?_
  walk_at "rd"
  unfold changeN at k
  by_cases h1 : x ∈ c_SUMS
  · rw [if_pos h1] at k ⊢
    exact k
  · rw [if_neg h1] at k ⊢
    refine a_ixT hd atI_0 fun u hu => ?_
    cases hu
    obtain ⟨q, hq, e⟩ := List.mem_map.mp (hw.resolve_left h1)
    obtain ⟨n, en⟩ : ∃ n, (x, n) ∈ c_CHANGES := mem_change hq e
    obtain ⟨u, e1, e2⟩ := T.x_CHANGES _ en
    refine ⟨x, rfl, u, e1, .int n, e2, ?_⟩
    have e3 : ((c_CHANGES.find? fun q => decide (q.1 = x)).map (·.2)).getD 0 = n := find_change en
    rw [e3] at k
    exact k
theorem ok_brought_back (T : Tx w K mg) : Cal P w K mg base 1 "brought_back" (sp_brought_back K) [] := by
  refine cal_of T.D_brought_back T.g_brought_back sc_brought_back (fun _ _ _ _ _ _ us hl => match us, hl with | [_], _ => rfl) (by walk_at "len") fun cdv A outer s H vs Q E hr h => ?_
  refine ⟨_, (pss_one (ps_ret (pe_op op_add (pe_op op_mod (pe_op op_sub (pv 0) (pe_gc (by rfl) T.v_LEAST)) (pe_gc (by rfl) T.v_ROUND)) (pe_gc (by rfl) T.v_LEAST)))), ?_⟩
  obtain ⟨n, rfl, k⟩ := h
  walk_at "rd"
  exact ⟨by decide, k⟩
end
end Pb

/-! W2 -/
set_option Elab.async false
set_option linter.all false
set_option maxRecDepth 100000
set_option maxHeartbeats 4000000
namespace Pb
open PySem PySem.Spec PyProof.Rows L2
open C8 (Cal Mak Met pe_c pe_mk pe_mt pe_mt0 pe_gc fnScope_by)
/-! short words -/
local macro_rules | `(tactic| walk_at "rd") => `(tactic| try simp only [tVar, tC, tAdd, tSub, t2I, tIsN, tNotN, tB, tAnd, tOr, tNot, tAndV, tOrV, tNotV, tIf, tSeq, tPar, tPar3, tNext, tBreak, tCont, tDrop, tRet, tRetN, tIfS, gName, gNil, gCons, gTup, gSub, tAsg, tAug, ipI, iList, iTup, iRng1, iRng2, iStr, iEnum, iZip,
  tOp, tUn, rI, rI0, rU, tTest, tChain, tFld, sFld, sFldAug, L2.rAdd, L2.rSub, tNil, tCons, tTup, tLst, tCall, tMeth, tMake, tCB, tNoPart, tPart, tSl, tBM0, tBM, tDGet, tDGet1, tDGet2, tDIn, tDNotIn, sDPut, tDNewK, rEq, rNe, scal_ii, scal_ss, scal_bb, scal_nn, scal_ni, scal_in, scal_ns, scal_sn, scal_is, scal_si, List.take_succ_cons, List.take_zero, List.drop_succ_cons, List.drop_zero, upd_same, upd_upd, and_assoc, tKGet, gStar, tDisp, tPairs, tYes,
  L2.start, List.map_cons, List.map_nil, List.length_cons, List.length_nil, List.cons_append, List.nil_append, List.append_nil, List.replicate, Nat.sub_self, Nat.add_sub_cancel, Nat.reduceAdd, Nat.reduceSub, List.set_cons_zero, List.set_cons_succ, List.getElem?_cons_zero, List.getElem?_cons_succ,
  Option.some.injEq, V.int.injEq, V.bl.injEq, V.str.injEq, V.ref.injEq, exists_eq_left', exists_eq_left, exists_eq', exists_eq, true_and, and_true, if_true, if_false, Bool.false_eq_true, List.cons.injEq, Bool.not_true, Bool.not_false, cxK, cxP, cxW, ite_true, ite_false, wipe, reduceCtorEq, and_self, decide_true, decide_false, exists_and_left, exists_const, decide_eq_true_eq])
local macro_rules | `(tactic| walk_at "len") => `(tactic| (intro vs H Q E h; repeat (first | (obtain ⟨e, _⟩ := h; subst e; rfl) | (obtain ⟨_, h⟩ := h))))
local macro_rules | `(tactic| walk_at "wd") => `(tactic| simp (config := {decide := true}) only [V.str.injEq, scal_ss, true_and, if_true, if_false])

def endN (w : Str) : Option Nat := if w = "go" then some 1 else if w = "if" then some 2 else if w = "stop" then some 0 else none
def endD : PyData → Bool
  | .tuple (.str w :: xs) => decide (xs.length ≤ 2) && ((match endN w with
    | some n => decide (xs.length = n)
    | none => false) && xs.all nameD)
  | _ => false
def shortT : PyData → Prop
  | .tuple xs => ∀ x ∈ xs, short x
  | _ => True
def sp_is_end (K : PySem.W.Frag) : Sp := fun vs H Q _ => ∃ ms v d, vs = [v] ∧ Tk H ms ∧ Dp K (hide H ms) v d ∧ shortT d ∧ ∀ H', Same H H' → Q (.bl (endD d)) H'
def summedI (w : Str) (a b : Int) : Int := if w = "plus" then back (a + b) else if w = "less" then back (a - b) else if w = "times" then back (a * b) else if a < b then 1 else 0
def small (a : Int) : Prop := -(2 ^ 64) < a ∧ a < 2 ^ 64
def sp_summed (K : PySem.W.Frag) : Sp := fun vs H Q _ => ∃ w a b, vs = [.str w, .int a, .int b] ∧ small a ∧ Q (.int (summedI w a b)) H
def endTab : List (Key × V) := [(Sum.inr (Str.ofString "go"), .int 1), (Sum.inr (Str.ofString "if"), .int 2), (Sum.inr (Str.ofString "stop"), .int 0)]
theorem inr_ne {a b : Str} (h : ¬ a = b) : ¬ (Sum.inr a : Key) = Sum.inr b := fun z => h (Sum.inr.inj z)
theorem endTab_at (z : Str) : valV endTab (Sum.inr z) = (endN z).map fun n => V.int (n : Nat) := by
  unfold valV endTab endN
  by_cases h1 : z = Str.ofString "go"
  · subst h1; decide +kernel
  rw [if_neg h1]
  by_cases h2 : z = Str.ofString "if"
  · subst h2; decide +kernel
  rw [if_neg h2]
  by_cases h3 : z = Str.ofString "stop"
  · subst h3; decide +kernel
  rw [if_neg h3]
  simp only [List.find?_cons, decide_eq_false (inr_ne (Ne.symm h1)), decide_eq_false (inr_ne (Ne.symm h2)), decide_eq_false (inr_ne (Ne.symm h3)), List.find?_nil]
  rfl
section
variable {P : Program} {w : World} {K : PySem.W.Frag} {mg : Str → Option Value} {base : Heap}
theorem ok_summed (T : Tx w K mg) (F_brought_back : Cal P w K mg base 1 "brought_back" (sp_brought_back K) []) : Cal P w K mg base 2 "summed" (sp_summed K) [] := by
  refine cal_of T.D_summed T.g_summed sc_summed (fun _ _ _ _ _ _ us hl => match us, hl with | [_, _, _], _ => rfl) (by walk_at "len") fun cdv A outer s H vs Q E hr h => ?_
  refine ⟨_, (pss_cons (ps_if (pt_cmpR op_eq (pv 0) pe_str (nomark _)) (pss_one (ps_ret (pe_c F_brought_back hr (by decide) (by rfl) (pa_cons (pe_op op_add (pv 1) (pv 2)) pa_nil)))) pss_nil)
    (pss_cons (ps_if (pt_cmpR op_eq (pv 0) pe_str (nomark _)) (pss_one (ps_ret (pe_c F_brought_back hr (by decide) (by rfl) (pa_cons (pe_op op_sub (pv 1) (pv 2)) pa_nil)))) pss_nil)
    (pss_cons (ps_if (pt_cmpR op_eq (pv 0) pe_str (nomark _)) (pss_one (ps_ret (pe_c F_brought_back hr (by decide) (by rfl) (pa_cons (pe_op op_mul (pv 1) (pv 2)) pa_nil)))) pss_nil)
    (pss_one (ps_ret (pe_ifExp (pt_cmpR op_lt (pv 1) (pv 2) (nomark _)) pe_int pe_int)))))), ?_⟩
  obtain ⟨x, a, b, rfl, hs, k⟩ := h
  walk_at "rd"
  unfold summedI at k
  by_cases h1 : x = Str.ofString "plus"
  · rw [if_pos h1] at k ⊢
    exact ⟨_, rfl, k⟩
  rw [if_neg h1] at k ⊢
  by_cases h2 : x = Str.ofString "less"
  · rw [if_pos h2] at k ⊢
    exact ⟨_, rfl, k⟩
  rw [if_neg h2] at k ⊢
  by_cases h3 : x = Str.ofString "times"
  · rw [if_pos h3] at k ⊢
    exact ⟨.inl hs, _, rfl, k⟩
  rw [if_neg h3] at k ⊢
  split
  next h4 => rw [if_pos h4] at k; exact k
  next h4 => rw [if_neg h4] at k; exact k
theorem ok_is_end (T : Tx w K mg) (F_is_tuple_of : Cal P w K mg base 1 "is_tuple_of" (sp_is_tuple_of K) []) (F_is_name : Cal P w K mg base 1 "is_name" (sp_is_name K) []) : Cal P w K mg base 2 "is_end" (sp_is_end K) [] := by
  refine cal_of T.D_is_end T.g_is_end sc_is_end (fun _ _ _ _ _ _ us hl => match us, hl with | [_], _ => rfl) (by walk_at "len") fun cdv A outer s H vs Q E hr h => ?_
  refine ⟨_, (pss_cons (ps_if (pt_not (pt_val (pe_c F_is_tuple_of hr (by decide) (by rfl) (pa_cons (pv 0) (pa_cons pe_int pa_nil))))) (pss_one (ps_ret pe_bl)) pss_nil)
    (pss_cons (ps_asg (pv 0) (pg_starK (K := K) (i := 1) rfl (pgs_cons (pg_name (i := 1) sc_is_end.nd rfl (by first | exact Or.inl rfl | exact Or.inr rfl)) (pgs_star (pg_name (i := 2) sc_is_end.nd rfl (by first | exact Or.inl rfl | exact Or.inr rfl)) pgs_nil))))
    (pss_cons (ps_set (i := 3) sc_is_end.nd rfl (by first | exact Or.inl rfl | exact Or.inr rfl) (pe_disp (pps_cons pe_str pe_int (pps_cons pe_str pe_int (pps_cons pe_str pe_int pps_nil))) (by rfl) (by rfl) (fun z => by cases z) (by decide)))
    (pss_one (ps_ret (pe_and (pe_cmp (pc_din (hu_of hr) (pv 1) (pv 3)) rfl) (pe_and (pe_cmpR op_eq (pe_callB (r := rLenQ K) call_lenQ (by rfl) T.b_len (by decide +kernel) (pa_cons (pv 2) pa_nil)) (pe_dget (hu_of hr) (pv 3) (pv 1) (fun _ _ => rfl)) (nomark _)) (pe_one (pe_callB (r := rAll K) (cr_all rfl) (by rfl) T.b_all (by decide +kernel) (pa_cons (pe_lc rfl sc_is_end.nd (pi_listK (K := K) (pv 2)) (blkOk_by (own := [("label", 4)]) (N := ["thing", "word", "labels", "counts", "label"]) (sc := L2.defScope s_is_end) (by decide +kernel)) (fun _ _ _ _ _ => (pg_m (pg_name (i := 4) sc_is_end.nd rfl (by first | exact Or.inl rfl | exact Or.inr rfl)))) (fun _ _ _ _ _ => pts_nilM) (fun _ _ _ _ _ => (pe_m (pe_c F_is_name hr (by decide) (by rfl) (pa_cons (pv 4) pa_nil))))) pa_nil)))))))))), ?_⟩
  obtain ⟨ms, v, d, rfl, tk, hd, hsh, k⟩ := h
  walk_at "rd"
  refine ⟨_, _, _, _, rfl, tk, hd, fun H1 s1 => ?_⟩
  walk_at "rd"
  replace hd := Dp.mono same_show (Dp.mono (Same.hide s1 ms) hd)
  cases d <;> simp only [tupleOf, if_true, Bool.not_false]
  case tuple ds =>
    cases ds with
    | nil => exact k H1 s1
    | cons x xs =>
      cases x <;> simp only [tupleOf, isStr, Bool.and_false, Bool.and_true, Bool.not_false, if_true]
      case str z =>
        have k2 := fun H' s1 => k H' s1
        simp only [endD] at k2
        by_cases h1 : xs.length ≤ 2
        · have h2 : ((xs.length + 1 : Nat) : Int) ≤ 3 := by omega
          simp only [decide_eq_true h2, Bool.not_true, Bool.false_eq_true, if_false]
          simp only [decide_eq_true h1, Bool.true_and] at k2
          obtain ⟨a, vs, rfl, hs, ha⟩ := dp_tuple hd
          cases ha with
          | cons hz hw =>
            rename_i v0 ws
            cases hz
            have hl := DpAll.length hw
            refine ⟨a, rfl, _, .inl hs, by rw [List.length_cons]; omega, by rw [List.length_cons]; omega, fun D hD => ?_⟩
            walk_at "rd"
            refine fun p hp => ⟨endTab, rfl, by decide, ?_⟩
            have hDp : D ≠ p := fun z => by rw [← z, upd_same] at hp; cases hp
            have hp1 : H1 p = none := by rw [upd_ne hDp.symm] at hp; exact hp
            have hm : mergeK [] endTab = endTab := by decide +kernel
            refine ⟨_, DGet.k (k := Sum.inr z) upd_same, ?_⟩
            rw [hm, endTab_at]
            cases hn : endN z with
            | none =>
              rw [hn] at k2
              walk_at "rd"
              exact k2 _ (s1.trans ((same_new hD).trans (same_new hp)))
            | some n =>
              rw [hn] at k2
              have hL : upd (upd H1 D (HO.lst ws)) p (HO.dK endTab) D = some (.lst ws) := by rw [upd_ne hDp, upd_same]
              have s2 : Same H1 (upd (upd H1 D (HO.lst ws)) p (HO.dK endTab)) := (same_new hD).trans (same_new hp)
              simp only [Option.map_some, Option.isSome_some, if_true]
              refine ⟨D, ws, rfl, .inl (SqL.of hL), .int (n : Nat), ?_, ?_⟩
              · have q := DGet.k (k := Sum.inr z) (upd_same (H := upd H1 D (HO.lst ws)) (a := p) (o := HO.dK endTab))
                rw [endTab_at, hn] at q
                exact q
              walk_at "rd"
              by_cases h5 : xs.length = n
              · rw [if_pos (by omega)]
                simp only [decide_eq_true h5, Bool.true_and] at k2
                refine a_lc ?_
                walk_at "rd"
                refine ⟨⟨ws, SqL.of hL⟩, fun D2 hD2 => ?_⟩
                refine lc_data (K := K) (ds := xs) (ms := []) walk_list hD2 Tk.nil (by rw [sizeLine_eq]; omega) (by rw [hide_nil]; exact DpAll.mono s2 hw) (fun H3 s3 => SqL.of (s3 _ _ hL)) (fun _ => true) (fun d => .bool (nameD d)) (fun y d H3 hd3 s3 hD3 hy => ?_) (fun H3 ys s3 e1 e2 => ?_)
                · walk_at "rd"
                  refine ⟨fun z => z.elim, fun _ => ⟨[], y, d, rfl, Tk.nil, by rw [hide_nil]; exact Dp.mono same_show hy, hsh d (List.mem_cons_of_mem _ hd3), fun H4 s4 => ⟨s4, .bl _⟩⟩⟩
                · rw [List.filter_eq_self.mpr fun _ _ => rfl] at e2
                  refine a_all (bs := xs.map nameD) (.lst (SqL.of e1) (DpAll.mono same_show (by rw [List.map_map]; exact e2))) ?_
                  rw [List.all_map]
                  exact k2 _ (s1.trans (s2.trans s3))
              · rw [if_neg (by omega)]
                simp only [decide_eq_false h5, Bool.false_and] at k2
                exact k2 _ (s1.trans s2)
        · have h2 : ¬ ((xs.length + 1 : Nat) : Int) ≤ 3 := by omega
          simp only [decide_eq_false h2, Bool.not_false, if_true]
          simp only [decide_eq_false h1, Bool.false_and] at k2
          exact k2 _ s1
      all_goals exact k H1 s1
  all_goals exact k H1 s1
end
end Pb

/-! W3 -/
set_option Elab.async false
set_option linter.all false
set_option maxRecDepth 100000
set_option maxHeartbeats 4000000
namespace Pb
open PySem PySem.Spec PyProof.Rows L2
open C8 (Cal Mak Met pe_c pe_mk pe_mt pe_mt0 pe_gc fnScope_by)
/-! short words -/
local macro_rules | `(tactic| walk_at "rd") => `(tactic| try simp only [tVar, tC, tAdd, tSub, t2I, tIsN, tNotN, tB, tAnd, tOr, tNot, tAndV, tOrV, tNotV, tIf, tSeq, tPar, tPar3, tNext, tBreak, tCont, tDrop, tRet, tRetN, tIfS, gName, gNil, gCons, gTup, gSub, tAsg, tAug, ipI, iList, iTup, iRng1, iRng2, iStr, iEnum, iZip,
  tOp, tUn, rI, rI0, rU, tTest, tChain, tFld, sFld, sFldAug, L2.rAdd, L2.rSub, tNil, tCons, tTup, tLst, tCall, tMeth, tMake, tCB, tNoPart, tPart, tSl, tBM0, tBM, tDGet, tDGet1, tDGet2, tDIn, tDNotIn, sDPut, tDNewK, rEq, rNe, scal_ii, scal_ss, scal_bb, scal_nn, scal_ni, scal_in, scal_ns, scal_sn, scal_is, scal_si, List.take_succ_cons, List.take_zero, List.drop_succ_cons, List.drop_zero, upd_same, upd_upd, and_assoc, tKGet, gStar, tDisp, tPairs, tYes,
  L2.start, List.map_cons, List.map_nil, List.length_cons, List.length_nil, List.cons_append, List.nil_append, List.append_nil, List.replicate, Nat.sub_self, Nat.add_sub_cancel, Nat.reduceAdd, Nat.reduceSub, List.set_cons_zero, List.set_cons_succ, List.getElem?_cons_zero, List.getElem?_cons_succ,
  Option.some.injEq, V.int.injEq, V.bl.injEq, V.str.injEq, V.ref.injEq, exists_eq_left', exists_eq_left, exists_eq', exists_eq, true_and, and_true, if_true, if_false, Bool.false_eq_true, List.cons.injEq, Bool.not_true, Bool.not_false, cxK, cxP, cxW, ite_true, ite_false, wipe, reduceCtorEq, and_self, decide_true, decide_false, exists_and_left, exists_const, decide_eq_true_eq])
local macro_rules | `(tactic| walk_at "len") => `(tactic| (intro vs H Q E h; repeat (first | (obtain ⟨e, _⟩ := h; subst e; rfl) | (obtain ⟨_, h⟩ := h))))
local macro_rules | `(tactic| walk_at "wd") => `(tactic| simp (config := {decide := true}) only [V.str.injEq, scal_ss, true_and, if_true, if_false])

/-! ### rows, ends, blocks as data of their own -/
inductive Row where
  | put (n : Int) | plus | less | times | under | same | over | swap | drop | tell | hear
  deriving DecidableEq
def Row.word : Row → Str
  | .put _ => "put"
  | .plus => "plus"
  | .less => "less"
  | .times => "times"
  | .under => "under"
  | .same => "same"
  | .over => "over"
  | .swap => "swap"
  | .drop => "drop"
  | .tell => "tell"
  | .hear => "hear"
def Row.args : Row → List PyData
  | .put n => [.int n]
  | _ => []
def Row.d (r : Row) : PyData := .tuple (.str r.word :: r.args)
inductive Fin where
  | go (l : Str) | iff (a b : Str) | stop
  deriving DecidableEq
def Fin.word : Fin → Str
  | .go _ => "go"
  | .iff _ _ => "if"
  | .stop => "stop"
def Fin.labels : Fin → List Str
  | .go l => [l]
  | .iff a b => [a, b]
  | .stop => []
def Fin.d (e : Fin) : PyData := .tuple (.str e.word :: e.labels.map PyData.str)
structure Blk where
  label : Str
  rows : List Row
  fin : Fin
  deriving DecidableEq
def rowsD (rs : List Row) : PyData := .list (rs.map Row.d)
def Blk.d (b : Blk) : PyData := .tuple [.str b.label, rowsD b.rows, b.fin.d]
def blocksD (bs : List Blk) : PyData := .list (bs.map Blk.d)
/-- how many of the top worths are touched, how many more there are behind -/
def Row.touch : Row → Nat
  | .put _ | .hear => 0
  | .same | .drop | .tell => 1
  | _ => 2
def Row.more : Row → Int
  | .put _ | .hear | .same | .over => 1
  | .swap => 0
  | _ => -1
def Fin.touch : Fin → Nat
  | .iff _ _ => 1
  | _ => 0
def Fin.more : Fin → Int
  | .iff _ _ => -1
  | _ => 0
theorem Row.touch_eq (r : Row) : touchN r.word = r.touch := by cases r <;> rfl
theorem Row.more_eq (r : Row) : changeN r.word = r.more := by cases r <;> rfl
theorem Fin.touch_eq (r : Fin) : touchN r.word = r.touch := by cases r <;> rfl
theorem Fin.more_eq (r : Fin) : changeN r.word = r.more := by cases r <;> rfl
theorem Row.known (r : Row) : r.word ∈ c_SUMS ∨ r.word ∈ c_TOUCHES.map (·.1) := by
  cases r <;> simp only [Row.word] <;> decide +kernel
theorem Fin.known (r : Fin) : r.word ∈ c_SUMS ∨ r.word ∈ c_TOUCHES.map (·.1) := by
  cases r <;> simp only [Fin.word] <;> decide +kernel
/-- the i-th worth from the top -/
def topN (ns : List Int) (i : Nat) : Int := ns.getD (ns.length - 1 - i) 0
def two (ns : List Int) (f : Int → Int → Int) : List Int := ns.take (ns.length - 2) ++ [f (topN ns 1) (topN ns 0)]
def doneOn (ns : List Int) : Row → List Int
  | .put n => ns ++ [n]
  | .same => ns ++ [topN ns 0]
  | .over => ns ++ [topN ns 1]
  | .swap => ns.take (ns.length - 2) ++ [topN ns 0, topN ns 1]
  | .drop => ns.take (ns.length - 1)
  | .plus => two ns fun a b => back (a + b)
  | .less => two ns fun a b => back (a - b)
  | .times => two ns fun a b => back (a * b)
  | .under => two ns fun a b => if a < b then 1 else 0
  | _ => ns
def Row.plain : Row → Bool
  | .tell | .hear => false
  | _ => true
theorem cut_from {xs : List V} {k : Nat} (h : k ≤ xs.length) (h0 : 0 < k) : cutV xs (some (-(k : Int))) none = xs.drop (xs.length - k) := by
  unfold cutV HT.sIx
  have e : (-(k : Int) + (xs.length : Int)).toNat = xs.length - k := by omega
  simp only [show -(k : Int) < 0 by omega, if_true, e]
  rw [List.take_of_length_le (by rw [List.length_drop]; omega)]
theorem cut_to {xs : List V} {k : Nat} (h : k ≤ xs.length) (h0 : 0 < k) : cutV xs none (some (-(k : Int))) = xs.take (xs.length - k) := by
  unfold cutV HT.sIx
  have e : (-(k : Int) + (xs.length : Int)).toNat = xs.length - k := by omega
  simp only [show -(k : Int) < 0 by omega, if_true, e, List.drop_zero, Nat.sub_zero]
theorem cut_mid {xs : List V} (h : 2 ≤ xs.length) : cutV xs (some (-2)) (some (-1)) = (xs.drop (xs.length - 2)).take 1 := by
  unfold cutV HT.sIx
  have e1 : ((-2 : Int) + (xs.length : Int)).toNat = xs.length - 2 := by omega
  have e2 : ((-1 : Int) + (xs.length : Int)).toNat = xs.length - 1 := by omega
  simp only [show (-2 : Int) < 0 by omega, show (-1 : Int) < 0 by omega, if_true, e1, e2]
  congr 1
  omega
theorem top_drop {ns : List Int} {i : Nat} (h : i < ns.length) : (ns.drop (ns.length - 1 - i)).take 1 = [topN ns i] := by
  have h2 : ns.length - 1 - i < ns.length := by omega
  rw [List.drop_eq_getElem_cons h2, List.take_succ_cons, List.take_zero]
  unfold topN
  rw [List.getD_eq_getElem?_getD, List.getElem?_eq_getElem h2]
  rfl
theorem atI_neg {ns : List Int} {i : Nat} (h : i < ns.length) : atI (ns.map V.int) (-((i + 1 : Nat) : Int)) = some (V.int (topN ns i)) := by
  unfold atI ixN
  rw [if_neg (by omega), if_pos (by rw [List.length_map]; omega), List.length_map]
  have e : (-((i + 1 : Nat) : Int) + (ns.length : Int)).toNat = ns.length - 1 - i := by omega
  have h2 : ns.length - 1 - i < ns.length := by omega
  show (ns.map V.int)[(-((i + 1 : Nat) : Int) + (ns.length : Int)).toNat]? = _
  rw [e, List.getElem?_map, List.getElem?_eq_getElem h2]
  unfold topN
  rw [List.getD_eq_getElem?_getD, List.getElem?_eq_getElem h2]
  rfl
theorem topN_mem {ns : List Int} {i : Nat} (h : i < ns.length) : topN ns i ∈ ns := by
  have h2 : ns.length - 1 - i < ns.length := by omega
  unfold topN
  rw [List.getD_eq_getElem?_getD, List.getElem?_eq_getElem h2]
  exact List.getElem_mem h2
def sp_done_on (K : PySem.W.Frag) : Sp := fun vs H Q _ => ∃ ms p ns v r, vs = [.ref p, v] ∧ H p = some (.lst (ns.map V.int)) ∧ Tk H ms ∧ Dp K (hide H ms) v (Row.d r) ∧ r.plain = true ∧ r.touch ≤ ns.length ∧ ns.length ≤ 1000 ∧ (∀ n ∈ ns, small n) ∧
  ∀ H' q, Same H H' → H q = none → H' q = some (.lst ((doneOn ns r).map V.int)) → Q (.ref q) H'
section
variable {P : Program} {w : World} {K : PySem.W.Frag} {mg : Str → Option Value} {base : Heap}
theorem ok_done_on (T : Tx w K mg) (F_summed : Cal P w K mg base 2 "summed" (sp_summed K) []) : Cal P w K mg base 3 "done_on" (sp_done_on K) [] := by
  refine cal_of T.D_done_on T.g_done_on sc_done_on (fun _ _ _ _ _ _ us hl => match us, hl with | [_, _], _ => rfl) (by walk_at "len") fun cdv A outer s H vs Q E hr h => ?_
  refine ⟨_, (pss_cons (ps_set (i := 2) sc_done_on.nd rfl (by first | exact Or.inl rfl | exact Or.inr rfl) (pe_ix (r := rIx K) ix_seq (pv 1) pe_int (fun _ _ => rfl)))
    (pss_cons (ps_if (pt_cmpR op_eq (pv 2) pe_str (nomark _)) (pss_one (ps_ret (pe_op op_cat (pv 0) (pe_lst (pa_cons (pe_ix (r := rIx K) ix_seq (pv 1) pe_int (fun _ _ => rfl)) pa_nil))))) pss_nil)
    (pss_cons (ps_if (pt_cmpR op_eq (pv 2) pe_str (nomark _)) (pss_one (ps_ret (pe_op op_cat (pv 0) (pe_slice (r := rSlL K) sl_list (pv 0) (po_some (pe_un un_neg pe_int)) po_none)))) pss_nil)
    (pss_cons (ps_if (pt_cmpR op_eq (pv 2) pe_str (nomark _)) (pss_one (ps_ret (pe_op op_cat (pv 0) (pe_slice (r := rSlL K) sl_list (pv 0) (po_some (pe_un un_neg pe_int)) (po_some (pe_un un_neg pe_int)))))) pss_nil)
    (pss_cons (ps_if (pt_cmpR op_eq (pv 2) pe_str (nomark _)) (pss_one (ps_ret (pe_op op_cat (pe_slice (r := rSlL K) sl_list (pv 0) po_none (po_some (pe_un un_neg pe_int))) (pe_lst (pa_cons (pe_ix (r := rIx K) ix_seq (pv 0) (pe_un un_neg pe_int) (fun _ _ => rfl)) (pa_cons (pe_ix (r := rIx K) ix_seq (pv 0) (pe_un un_neg pe_int) (fun _ _ => rfl)) pa_nil)))))) pss_nil)
    (pss_one (ps_ret (pe_ifExp (pt_cmpR op_eq (pv 2) pe_str (nomark _)) (pe_slice (r := rSlL K) sl_list (pv 0) po_none (po_some (pe_un un_neg pe_int))) (pe_op op_cat (pe_slice (r := rSlL K) sl_list (pv 0) po_none (po_some (pe_un un_neg pe_int))) (pe_lst (pa_cons (pe_c F_summed hr (by decide) (by rfl) (pa_cons (pv 2) (pa_cons (pe_ix (r := rIx K) ix_seq (pv 0) (pe_un un_neg pe_int) (fun _ _ => rfl)) (pa_cons (pe_ix (r := rIx K) ix_seq (pv 0) (pe_un un_neg pe_int) (fun _ _ => rfl)) pa_nil)))) pa_nil))))))))))), ?_⟩
  obtain ⟨ms, p, ns, v, r, rfl, hp, tk, hd, hpl, ht, hl, hs, k⟩ := h
  replace hd := Dp.mono same_show hd
  walk_at "rd"
  have hln : (ns.map V.int).length = ns.length := List.length_map _
  cases r <;> simp only [Row.d, Row.word, Row.args, Row.plain, Row.touch, doneOn, Bool.false_eq_true] at hd hpl ht k <;> refine a_ixT hd atI_0 fun u hu => ?_ <;> cases hu <;> walk_at "wd"
  case put n =>
    refine a_ixT hd atI_1 fun u hu => ?_
    cases hu
    refine fun q hq => ⟨p, q, _, _, rfl, rfl, keep_at hp hq, upd_same, by rw [hln, List.length_singleton, sizeLine_eq]; omega, fun q2 hq2 => ?_⟩
    refine k _ q2 ((same_new hq).trans (same_new hq2)) ((same_new hq).free hq2) ?_
    rw [upd_same, List.map_append]
    rfl
  case same =>
    refine ⟨p, _, rfl, SqL.of hp, fun q hq => ⟨p, q, _, _, rfl, rfl, keep_at hp hq, upd_same, ?_, fun q2 hq2 => ?_⟩⟩
    · rw [show (-1 : Int) = -((1 : Nat) : Int) from rfl, cut_from (by rw [hln]; exact ht) (by decide), List.length_drop, hln, sizeLine_eq]; omega
    refine k _ q2 ((same_new hq).trans (same_new hq2)) ((same_new hq).free hq2) ?_
    rw [upd_same, show (-1 : Int) = -((1 : Nat) : Int) from rfl, cut_from (by rw [hln]; exact ht) (by decide), hln, List.map_append, ← List.map_drop]
    have e := top_drop (ns := ns) (i := 0) ht
    rw [Nat.sub_zero, List.take_of_length_le (by rw [List.length_drop]; omega)] at e
    rw [e]
  case over =>
    refine ⟨p, _, rfl, SqL.of hp, fun q hq => ⟨p, q, _, _, rfl, rfl, keep_at hp hq, upd_same, ?_, fun q2 hq2 => ?_⟩⟩
    · rw [cut_mid (by rw [hln]; exact ht), List.length_take, hln, sizeLine_eq]; omega
    refine k _ q2 ((same_new hq).trans (same_new hq2)) ((same_new hq).free hq2) ?_
    rw [upd_same, cut_mid (by rw [hln]; exact ht), hln, List.map_append, ← List.map_drop, ← List.map_take]
    have e := top_drop (ns := ns) (i := 1) ht
    rw [show ns.length - 1 - 1 = ns.length - 2 by omega] at e
    rw [e]
  case swap =>
    refine ⟨p, _, rfl, SqL.of hp, fun q hq => ?_⟩
    have s1 := same_new (o := HO.lst (cutV (ns.map V.int) none (some (-2)))) hq
    refine .inl ⟨p, _, _, _, rfl, rfl, SqL.of (s1 _ _ hp), atI_neg (i := 0) (by omega), ?_⟩
    refine .inl ⟨p, _, _, _, rfl, rfl, SqL.of (s1 _ _ hp), atI_neg (i := 1) (by omega), ?_⟩
    refine fun q1 hq1 => ⟨q, q1, _, _, rfl, rfl, keep_at upd_same hq1, upd_same, ?_, fun q2 hq2 => ?_⟩
    · rw [show (-2 : Int) = -((2 : Nat) : Int) from rfl, cut_to (by rw [hln]; exact ht) (by decide), List.length_take, hln, sizeLine_eq]; simp only [List.length_cons, List.length_nil]; omega
    refine k _ q2 ((s1.trans (same_new hq1)).trans (same_new hq2)) ((s1.trans (same_new hq1)).free hq2) ?_
    rw [upd_same, show (-2 : Int) = -((2 : Nat) : Int) from rfl, cut_to (by rw [hln]; exact ht) (by decide), hln, List.map_append, ← List.map_take]
    rfl
  case drop =>
    refine ⟨p, _, rfl, SqL.of hp, fun q hq => ?_⟩
    refine k _ q (same_new hq) hq ?_
    rw [upd_same, show (-1 : Int) = -((1 : Nat) : Int) from rfl, cut_to (by rw [hln]; exact ht) (by decide), hln, ← List.map_take]
  all_goals
    refine ⟨p, _, rfl, SqL.of hp, fun q hq => ?_⟩
    have s1 := same_new (o := HO.lst (cutV (ns.map V.int) none (some (-2)))) hq
    refine .inl ⟨p, _, _, _, rfl, rfl, SqL.of (s1 _ _ hp), atI_neg (i := 1) (by omega), ?_⟩
    refine .inl ⟨p, _, _, _, rfl, rfl, SqL.of (s1 _ _ hp), atI_neg (i := 0) (by omega), ?_⟩
    refine ⟨_, _, _, rfl, hs _ (topN_mem (by omega)), fun q1 hq1 => ⟨q, q1, _, _, rfl, rfl, keep_at upd_same hq1, upd_same, ?_, fun q2 hq2 => ?_⟩⟩
    · rw [show (-2 : Int) = -((2 : Nat) : Int) from rfl, cut_to (by rw [hln]; exact ht) (by decide), List.length_take, hln, sizeLine_eq]; simp only [List.length_cons, List.length_nil]; omega
    refine k _ q2 ((s1.trans (same_new hq1)).trans (same_new hq2)) ((s1.trans (same_new hq1)).free hq2) ?_
    rw [upd_same, show (-2 : Int) = -((2 : Nat) : Int) from rfl, cut_to (by rw [hln]; exact ht) (by decide), hln]
    unfold two
    rw [List.map_append, ← List.map_take]
    rfl
end
end Pb

/-! W4 -/
set_option Elab.async false
set_option linter.all false
set_option maxRecDepth 100000
set_option maxHeartbeats 4000000
namespace Pb
open PySem PySem.Spec PyProof.Rows L2
open C8 (Cal Mak Met pe_c pe_mk pe_mt pe_mt0 pe_gc fnScope_by)
/-! short words -/
local macro_rules | `(tactic| walk_at "rd") => `(tactic| try simp only [tVar, tC, tAdd, tSub, t2I, tIsN, tNotN, tB, tAnd, tOr, tNot, tAndV, tOrV, tNotV, tIf, tSeq, tPar, tPar3, tNext, tBreak, tCont, tDrop, tRet, tRetN, tIfS, gName, gNil, gCons, gTup, gSub, tAsg, tAug, ipI, iList, iTup, iRng1, iRng2, iStr, iEnum, iZip,
  tOp, tUn, rI, rI0, rU, tTest, tChain, tFld, sFld, sFldAug, L2.rAdd, L2.rSub, tNil, tCons, tTup, tLst, tCall, tMeth, tMake, tCB, tNoPart, tPart, tSl, tBM0, tBM, tDGet, tDGet1, tDGet2, tDIn, tDNotIn, sDPut, tDNewK, rEq, rNe, scal_ii, scal_ss, scal_bb, scal_nn, scal_ni, scal_in, scal_ns, scal_sn, scal_is, scal_si, List.take_succ_cons, List.take_zero, List.drop_succ_cons, List.drop_zero, upd_same, upd_upd, and_assoc, tKGet, gStar, tDisp, tPairs, tYes,
  L2.start, List.map_cons, List.map_nil, List.length_cons, List.length_nil, List.cons_append, List.nil_append, List.append_nil, List.replicate, Nat.sub_self, Nat.add_sub_cancel, Nat.reduceAdd, Nat.reduceSub, List.set_cons_zero, List.set_cons_succ, List.getElem?_cons_zero, List.getElem?_cons_succ,
  Option.some.injEq, V.int.injEq, V.bl.injEq, V.str.injEq, V.ref.injEq, exists_eq_left', exists_eq_left, exists_eq', exists_eq, true_and, and_true, if_true, if_false, Bool.false_eq_true, List.cons.injEq, Bool.not_true, Bool.not_false, cxK, cxP, cxW, ite_true, ite_false, wipe, reduceCtorEq, and_self, decide_true, decide_false, exists_and_left, exists_const, decide_eq_true_eq])
local macro_rules | `(tactic| walk_at "len") => `(tactic| (intro vs H Q E h; repeat (first | (obtain ⟨e, _⟩ := h; subst e; rfl) | (obtain ⟨_, h⟩ := h))))
local macro_rules | `(tactic| walk_at "wd") => `(tactic| simp (config := {decide := true}) only [V.str.injEq, scal_ss, true_and, if_true, if_false])

def rowsOk : PyData → Bool
  | .list rs => decide (rs.length ≤ 12) && rs.all rowD
  | _ => false
def blockD : PyData → Bool
  | .tuple [a, b, c] => nameD a && (rowsOk b && endD c)
  | _ => false
def labelK : PyData → Key
  | .tuple (.str x :: _) => .inr x
  | _ => .inl 0
def areBlocksD : PyData → Bool
  | .list bs => decide (1 ≤ bs.length) && (decide (bs.length ≤ 6) && (bs.all blockD && decide (((bs.map labelK).foldl addKey []).length = bs.length)))
  | _ => false
/-- texts that are not too long to be looked at -/
def shB : PyData → Prop
  | .tuple [a, _, c] => short a ∧ shortT c
  | _ => True
def shBs : PyData → Prop
  | .list bs => ∀ b ∈ bs, shB b
  | _ => True
def sp_are_blocks (K : PySem.W.Frag) : Sp := fun vs H Q _ => ∃ ms v d, vs = [v] ∧ Tk H ms ∧ Dp K (hide H ms) v d ∧ shBs d ∧ ∀ H', Same H H' → Q (.bl (areBlocksD d)) H'
theorem atI_2 {α : Type} {x y z : α} {xs : List α} : atI (x :: y :: z :: xs) 2 = some z := by
  unfold atI ixN
  rw [if_pos (by omega), if_pos (by rw [List.length_cons, List.length_cons, List.length_cons]; omega)]
  rfl
theorem blockD_form {d : PyData} (h : blockD d = true) : ∃ x c2 c3, d = .tuple [.str x, c2, c3] := by
  unfold blockD at h
  split at h
  next a b c =>
    cases a <;> simp only [nameD, Bool.false_and, Bool.false_eq_true] at h
    exact ⟨_, _, _, rfl⟩
  next => cases h
section
variable {P : Program} {w : World} {K : PySem.W.Frag} {mg : Str → Option Value} {base : Heap}
theorem ok_are_blocks (T : Tx w K mg) (F_is_name : Cal P w K mg base 1 "is_name" (sp_is_name K) []) (F_is_row : Cal P w K mg base 4 "is_row" (sp_is_row K) []) (F_is_end : Cal P w K mg base 2 "is_end" (sp_is_end K) []) : Cal P w K mg base 5 "are_blocks" (sp_are_blocks K) [] := by
  refine cal_of T.D_are_blocks T.g_are_blocks sc_are_blocks (fun _ _ _ _ _ _ us hl => match us, hl with | [_], _ => rfl) (by walk_at "len") fun cdv A outer s H vs Q E hr h => ?_
  refine ⟨_, (pss_cons (ps_if (PW.pt (pw_or (pt_not (pt_val (pe_callB (r := rIsi K) call_isi (by rfl) T.b_isinstance (by decide +kernel) (pa_cons (pv 0) (pa_cons (pe_bltn (v := .ty "list") (by rfl) T.b_list (by decide +kernel) rfl) pa_nil))))) (pw_or1 (pt_not (pt_chain op_le op_le pe_int (pe_callB (r := rLenQ K) call_lenQ (by rfl) T.b_len (by decide +kernel) (pa_cons (pv 0) pa_nil)) (pe_gc (by rfl) T.v_MOST_BLOCKS)))))) (pss_one (ps_ret pe_bl)) pss_nil)
    (pss_cons (ps_for PassesOwn.never rfl (pi_listK (K := K) (pv 0)) (pg_name (i := 1) sc_are_blocks.nd rfl (by first | exact Or.inl rfl | exact Or.inr rfl)) (pss_cons (ps_if (PW.pt (pw_or (pt_not (pt_val (pe_callB (r := rIsi K) call_isi (by rfl) T.b_isinstance (by decide +kernel) (pa_cons (pv 1) (pa_cons (pe_bltn (v := .ty "tuple") (by rfl) T.b_tuple (by decide +kernel) rfl) pa_nil))))) (pw_or (pt_cmpR op_ne (pe_callB (r := rLenQ K) call_lenQ (by rfl) T.b_len (by decide +kernel) (pa_cons (pv 1) pa_nil)) pe_int (nomark _)) (pw_or (pt_not (pt_val (pe_c F_is_name hr (by decide) (by rfl) (pa_cons (pe_ix (r := rIx K) ix_seq (pv 1) pe_int (fun _ _ => rfl)) pa_nil)))) (pw_or1 (pt_not (pt_val (pe_callB (r := rIsi K) call_isi (by rfl) T.b_isinstance (by decide +kernel) (pa_cons (pe_ix (r := rIx K) ix_seq (pv 1) pe_int (fun _ _ => rfl)) (pa_cons (pe_bltn (v := .ty "list") (by rfl) T.b_list (by decide +kernel) rfl) pa_nil)))))))))) (pss_one (ps_ret pe_bl)) pss_nil)
    (pss_one (ps_if (PW.pt (pw_or (pt_cmpR op_gt (pe_callB (r := rLenQ K) call_lenQ (by rfl) T.b_len (by decide +kernel) (pa_cons (pe_ix (r := rIx K) ix_seq (pv 1) pe_int (fun _ _ => rfl)) pa_nil)) (pe_gc (by rfl) T.v_MOST_ROWS) (nomark _)) (pw_or (pt_not (pt_val (pe_callB (r := rAll K) (cr_all rfl) (by rfl) T.b_all (by decide +kernel) (pa_cons (pe_lc rfl sc_are_blocks.nd (pi_listK (K := K) (pe_ix (r := rIx K) ix_seq (pv 1) pe_int (fun _ _ => rfl))) (blkOk_by (own := [("row", 2)]) (N := ["thing", "block", "row"]) (sc := L2.defScope s_are_blocks) (by decide +kernel)) (fun _ _ _ _ _ => (pg_m (pg_name (i := 2) sc_are_blocks.nd rfl (by first | exact Or.inl rfl | exact Or.inr rfl)))) (fun _ _ _ _ _ => pts_nilM) (fun _ _ _ _ _ => (pe_m (pe_c F_is_row hr (by decide) (by rfl) (pa_cons (pv 2) pa_nil))))) pa_nil)))) (pw_or1 (pt_not (pt_val (pe_c F_is_end hr (by decide) (by rfl) (pa_cons (pe_ix (r := rIx K) ix_seq (pv 1) pe_int (fun _ _ => rfl)) pa_nil)))))))) (pss_one (ps_ret pe_bl)) pss_nil))))
    (pss_one (ps_ret (pe_cmpR op_eq (pe_callB (r := rLenK P w) call_lenK (by rfl) T.b_len (by decide +kernel) (pa_cons (pe_scB bagKey rfl sc_are_blocks.nd (pi_listK (K := K) (pv 0)) (blkOk_by (own := [("block", 1)]) (N := ["thing", "block", "row"]) (sc := L2.defScope s_are_blocks) (by decide +kernel)) (fun _ _ _ _ _ => (pg_name (i := 1) sc_are_blocks.nd rfl (by first | exact Or.inl rfl | exact Or.inr rfl))) (fun _ _ _ _ _ => (pe_ix (r := rIx K) ix_seq (pv 1) pe_int (fun _ _ => rfl)))) pa_nil)) (pe_callB (r := rLenQ K) call_lenQ (by rfl) T.b_len (by decide +kernel) (pa_cons (pv 0) pa_nil)) (nomark _)))))), ?_⟩
  obtain ⟨ms, v, d, rfl, tk, hd, hsh, k⟩ := h
  replace hd := Dp.mono same_show hd
  walk_at "rd"
  refine a_isi hd (kit_list _) ?_
  walk_at "rd"
  cases d <;> simp only [isList, Bool.not_true, Bool.not_false, if_true, if_false, Bool.false_eq_true]
  case list ds =>
    refine a_lenL hd ?_
    walk_at "rd"
    have k2 := fun H' s1 => k H' s1
    simp only [areBlocksD] at k2
    by_cases h1 : 1 ≤ ds.length
    · rw [if_pos (by omega)]
      by_cases h2 : ds.length ≤ 6
      · have e2 : (!decide ((ds.length : Int) ≤ 6)) = false := by rw [decide_eq_true (by omega)]; rfl
        simp only [e2, Bool.false_eq_true, if_false]
        simp only [decide_eq_true h1, decide_eq_true h2, Bool.true_and] at k2
        have no : ∀ e ∈ ds, blockD e = false → ∀ H', Same H H' → Q (.bl false) H' := fun e he hb H' s1 => by
          have q : ds.all blockD = false := by
            cases q : ds.all blockD with
            | false => rfl
            | true => rw [List.all_eq_true.mp q e he] at hb; cases hb
          have k3 := k2 H' s1
          rw [q, Bool.false_and] at k3
          exact k3
        obtain ⟨a, vs, rfl, hs, ha⟩ := dp_list hd
        have hl := DpAll.length ha
        refine a_for ?_
        walk_at "rd"
        refine ⟨⟨vs, hs⟩, ?_⟩
        refine for_go (walk_list (xs := vs)) (fun i σ H1 => Same H H1 ∧ (∃ o, σ = [some (.ref a), o, none]) ∧ (ds.take i).all blockD = true) ⟨Same.refl _, ⟨_, rfl⟩, by rw [List.take_zero]; rfl⟩ (fun i σ H1 _ q => sqL_same q.1 hs) ?_ ?_
        · rintro i x σ H1 H1' hi ⟨s1, ⟨o, rfl⟩, hall⟩ ⟨e0, ex⟩
          subst e0
          obtain ⟨e, ee, he⟩ := DpAll.at ha ex
          have hmem := List.mem_of_getElem? ee
          replace he := Dp.mono s1 he
          have yes : blockD e = true → (ds.take (i + 1)).all blockD = true := fun hb => by
            rw [List.take_succ, List.all_append, hall, ee]
            simp [hb]
          walk_at "rd"
          refine a_isi he (kit_tuple _) ?_
          walk_at "rd"
          cases e <;> simp only [isTuple, Bool.not_true, Bool.not_false, if_true, if_false, Bool.false_eq_true]
          case tuple es =>
            refine a_lenT he ?_
            walk_at "rd"
            by_cases h3 : es.length = 3
            · rw [if_neg (by rw [decide_eq_true (by omega)]; decide)]
              obtain ⟨c1, c2, c3, rfl⟩ : ∃ c1 c2 c3, es = [c1, c2, c3] := by
                match es, h3 with
                | [c1, c2, c3], _ => exact ⟨_, _, _, rfl⟩
              have hsh2 : shB (.tuple [c1, c2, c3]) := hsh _ hmem
              refine a_ixT he atI_0 fun u hu => ?_
              refine ⟨[], u, c1, rfl, Tk.nil, by rw [hide_nil]; exact hu, hsh2.1, fun H2 s2 => ?_⟩
              walk_at "rd"
              cases hn : nameD c1 with
              | false =>
                rw [if_pos (by decide)]
                exact no _ hmem (by simp [blockD, hn]) _ (s1.trans s2)
              | true =>
                rw [if_neg (by decide)]
                replace he := Dp.mono s2 he
                refine a_ixT he atI_1 fun u1 hu1 => ?_
                refine a_isi hu1 (kit_list _) ?_
                walk_at "rd"
                cases c2 <;> simp only [isList, Bool.not_true, Bool.not_false, if_true, if_false, Bool.false_eq_true]
                case list rs =>
                  refine a_ixT he atI_1 fun u2 hu2 => ?_
                  refine a_lenL hu2 ?_
                  walk_at "rd"
                  by_cases h4 : rs.length ≤ 12
                  · rw [if_neg (by omega)]
                    refine a_lc ?_
                    walk_at "rd"
                    refine a_ixT he atI_1 fun u3 hu3 => ?_
                    obtain ⟨ra, rvs, rfl, hrs, hra⟩ := dp_list hu3
                    refine ⟨ra, rfl, ⟨rvs, hrs⟩, fun D hD => ?_⟩
                    refine lc_data (K := K) (ds := rs) (ms := []) walk_list hD Tk.nil (by rw [sizeLine_eq]; omega) (by rw [hide_nil]; exact hra) (fun H3 s3 => sqL_same s3 hrs) (fun _ => true) (fun d => .bool (rowD d)) (fun y d H3 hd3 s3 hD3 hy => ?_) (fun H3 ys s3 e1 e2 => ?_)
                    · walk_at "rd"
                      exact ⟨fun z => z.elim, fun _ => ⟨[], y, d, rfl, Tk.nil, by rw [hide_nil]; exact Dp.mono same_show hy, fun H4 s4 => ⟨s4, .bl _⟩⟩⟩
                    · rw [List.filter_eq_self.mpr fun _ _ => rfl] at e2
                      refine a_all (bs := rs.map rowD) (.lst (SqL.of e1) (DpAll.mono same_show (by rw [List.map_map]; exact e2))) ?_
                      rw [List.all_map]
                      walk_at "rd"
                      have e5 : (rs.all (id ∘ rowD)) = rs.all rowD := rfl
                      rw [e5]
                      cases hr5 : rs.all rowD with
                      | false =>
                        rw [if_pos (by decide)]
                        exact no _ hmem (by simp [blockD, rowsOk, hr5]) _ (s1.trans (s2.trans s3))
                      | true =>
                        rw [if_neg (by decide)]
                        refine a_ixT (Dp.mono s3 he) atI_2 fun u4 hu4 => ?_
                        refine ⟨[], u4, c3, rfl, Tk.nil, by rw [hide_nil]; exact hu4, hsh2.2, fun H4 s4 => ?_⟩
                        walk_at "rd"
                        cases hf5 : endD c3 with
                        | false =>
                          rw [if_pos (by decide)]
                          exact no _ hmem (by simp [blockD, hf5]) _ (s1.trans (s2.trans (s3.trans s4)))
                        | true =>
                          rw [if_neg (by decide)]
                          exact ⟨s1.trans (s2.trans (s3.trans s4)), yes (by simp [blockD, rowsOk, hn, hr5, hf5, h4])⟩
                  · rw [if_pos (by omega)]
                    exact no _ hmem (by simp [blockD, rowsOk, h4]) _ (s1.trans s2)
                all_goals exact no _ hmem (by simp [blockD, rowsOk]) _ (s1.trans s2)
            · rw [if_pos (by rw [decide_eq_false (by omega)]; rfl)]
              refine no _ hmem ?_ _ s1
              unfold blockD
              split
              next z => cases z; exact absurd rfl h3
              next => rfl
          all_goals exact no _ hmem rfl _ s1
        · rintro σ H1 ⟨s1, ⟨o, rfl⟩, hall⟩
          rw [hl, List.take_length] at hall
          simp only [hall, Bool.true_and] at k2
          walk_at "rd"
          refine a_sc ?_
          walk_at "rd"
          refine ⟨⟨vs, sqL_same s1 hs⟩, fun D hD => ?_⟩
          refine sc_keys (P := P) (w := w) (K := K) (ds := ds) (ms := []) walk_list hD (by omega) (by rw [hide_nil]; exact DpAll.mono s1 ha) (fun H2 s2 => sqL_same (s1.trans s2) hs) labelK (fun x e H2 Q2 he s2 hx hq => ?_) (fun H2 s2 hK => ?_)
          · walk_at "rd"
            rw [hide_nil] at hx
            have hb := List.all_eq_true.mp hall e he
            obtain ⟨x1, c2, c3, rfl⟩ := blockD_form hb
            refine a_ixT hx atI_0 fun u hu => ?_
            cases hu
            exact hq _ (Same.refl _)
          · refine ⟨D, _, rfl, hK, ?_⟩
            refine a_lenL (Dp.mono (s1.trans s2) hd) ?_
            walk_at "rd"
            have k3 := k2 H2 (s1.trans s2)
            have e6 : decide ((((ds.map labelK).foldl addKey []).length : Int) = (ds.length : Int)) = decide (((ds.map labelK).foldl addKey []).length = ds.length) := by
              by_cases q : ((ds.map labelK).foldl addKey []).length = ds.length
              · rw [decide_eq_true q, decide_eq_true (by omega)]
              · rw [decide_eq_false q, decide_eq_false (by omega)]
            rw [e6]
            exact k3
      · have e2 : (!decide ((ds.length : Int) ≤ 6)) = true := by rw [decide_eq_false (by omega)]; rfl
        simp only [e2, if_true]
        simp only [decide_eq_false h2, Bool.false_and, Bool.and_false] at k2
        exact k2 _ (Same.refl _)
    · rw [if_neg (by omega)]
      simp only [decide_eq_false h1, Bool.false_and] at k2
      exact k2 _ (Same.refl _)
  all_goals exact k _ (Same.refl _)
end
end Pb

/-! W5a -/
set_option Elab.async false
set_option linter.all false
set_option maxRecDepth 100000
set_option maxHeartbeats 4000000
namespace Pb
open PySem PySem.Spec PyProof.Rows L2
open C8 (Cal Mak Met pe_c pe_mk pe_mt pe_mt0 pe_gc fnScope_by)
/-! short words -/
local macro_rules | `(tactic| walk_at "rd") => `(tactic| try simp only [tVar, tC, tAdd, tSub, t2I, tIsN, tNotN, tB, tAnd, tOr, tNot, tAndV, tOrV, tNotV, tIf, tSeq, tPar, tPar3, tNext, tBreak, tCont, tDrop, tRet, tRetN, tIfS, gName, gNil, gCons, gTup, gSub, tAsg, tAug, ipI, iList, iTup, iRng1, iRng2, iStr, iEnum, iZip,
  tOp, tUn, rI, rI0, rU, tTest, tChain, tFld, sFld, sFldAug, L2.rAdd, L2.rSub, tNil, tCons, tTup, tLst, tCall, tMeth, tMake, tCB, tNoPart, tPart, tSl, tBM0, tBM, tDGet, tDGet1, tDGet2, tDIn, tDNotIn, sDPut, tDNewK, rEq, rNe, scal_ii, scal_ss, scal_bb, scal_nn, scal_ni, scal_in, scal_ns, scal_sn, scal_is, scal_si, List.take_succ_cons, List.take_zero, List.drop_succ_cons, List.drop_zero, upd_same, upd_upd, and_assoc, tKGet, gStar, tDisp, tPairs, tYes,
  L2.start, List.map_cons, List.map_nil, List.length_cons, List.length_nil, List.cons_append, List.nil_append, List.append_nil, List.replicate, Nat.sub_self, Nat.add_sub_cancel, Nat.reduceAdd, Nat.reduceSub, List.set_cons_zero, List.set_cons_succ, List.getElem?_cons_zero, List.getElem?_cons_succ,
  Option.some.injEq, V.int.injEq, V.bl.injEq, V.str.injEq, V.ref.injEq, exists_eq_left', exists_eq_left, exists_eq', exists_eq, true_and, and_true, if_true, if_false, Bool.false_eq_true, List.cons.injEq, Bool.not_true, Bool.not_false, cxK, cxP, cxW, ite_true, ite_false, wipe, reduceCtorEq, and_self, decide_true, decide_false, exists_and_left, exists_const, decide_eq_true_eq])
local macro_rules | `(tactic| walk_at "len") => `(tactic| (intro vs H Q E h; repeat (first | (obtain ⟨e, _⟩ := h; subst e; rfl) | (obtain ⟨_, h⟩ := h))))
local macro_rules | `(tactic| walk_at "wd") => `(tactic| simp (config := {decide := true}) only [V.str.injEq, scal_ss, true_and, if_true, if_false])

/-! ### code: what holds of blocks that are code -/
def Blk.words (b : Blk) : List Str := b.rows.map Row.word ++ [b.fin.word]
def Blk.stepD (b : Blk) : List PyData := b.rows.map Row.d ++ [b.fin.d]
def after (h : Int) (ws : List Str) : Int := h + (ws.map changeN).sum
def wok : Int → List Str → Prop
  | _, [] => True
  | h, w :: ws => ((touchN w : Int) ≤ h ∧ h + changeN w ≤ 12) ∧ wok (h + changeN w) ws
theorem after_cons {h : Int} {w : Str} {ws : List Str} : after h (w :: ws) = after (h + changeN w) ws := by
  unfold after
  rw [List.map_cons, List.sum_cons]
  omega
theorem after_snoc {h : Int} {w : Str} {ws : List Str} : after h (ws ++ [w]) = after h ws + changeN w := by
  unfold after
  rw [List.map_append, List.sum_append]
  simp
  omega
theorem after_nil {h : Int} : after h [] = h := by
  unfold after
  simp
theorem wok_at : ∀ {ws : List Str} {h : Int} {i : Nat} {w : Str}, wok h ws → ws[i]? = some w → (touchN w : Int) ≤ after h (ws.take i) ∧ after h (ws.take i) + changeN w ≤ 12
  | [], _, _, _, _, e => by simp at e
  | w :: ws, h, 0, x, k, e => by
    simp at e
    subst e
    rw [List.take_zero, after_nil]
    exact k.1
  | w :: ws, h, i + 1, x, k, e => by
    rw [List.take_succ_cons, after_cons]
    exact wok_at (i := i) k.2 (by simpa using e)
def out (h : Str → Int) (b : Blk) : Int := after (h b.label) b.words
inductive Reach (bs : List Blk) : Str → Prop where
  | first {b : Blk} (e : bs.head? = some b) : Reach bs b.label
  | step {b : Blk} {l : Str} (hb : b ∈ bs) (r : Reach bs b.label) (hl : l ∈ b.fin.labels) : Reach bs l
structure Good (bs : List Blk) (h : Str → Int) : Prop where
  one : 1 ≤ bs.length
  six : bs.length ≤ 6
  names : ∀ b ∈ bs, nameS b.label = true
  many : ∀ b ∈ bs, b.rows.length ≤ 12
  puts : ∀ b ∈ bs, ∀ r ∈ b.rows, ∀ n, r = .put n → -32768 ≤ n ∧ n ≤ 32767
  nodup : (bs.map Blk.label).Nodup
  zero : ∀ b, bs.head? = some b → h b.label = 0
  rows : ∀ b ∈ bs, wok (h b.label) b.words
  ends : ∀ b ∈ bs, ∀ l ∈ b.fin.labels, l ∈ bs.map Blk.label ∧ h l = out h b
  all : ∀ b ∈ bs, Reach bs b.label
theorem nameS_ok {x : Str} (h : nameS x = true) : PyData.strOk x = true := by
  unfold nameS at h
  have q := (Bool.and_eq_true_iff.mp h).2
  unfold PyData.strOk
  rw [← Array.all_toList, List.all_eq_true]
  intro c hc
  have m := of_decide_eq_true (List.all_eq_true.mp q c hc)
  have big : lettersS.cps.toList.all (fun c => decide (c < 0x110000)) = true := by decide +kernel
  exact List.all_eq_true.mp big c m
theorem Good.label_ok {bs : List Blk} {h : Str → Int} (G : Good bs h) {l : Str} (m : l ∈ bs.map Blk.label) : PyData.strOk l = true := by
  obtain ⟨b, hb, e⟩ := List.mem_map.mp m
  rw [← e]
  exact nameS_ok (G.names b hb)
theorem addKey_new {l : List Key} {k : Key} (h : k ∉ l) : addKey l k = l ++ [k] := by
  unfold addKey
  rw [if_neg]
  intro z
  exact h (by
    unfold kMem at z
    simpa using z)
theorem addKeys_nodup : ∀ (l acc : List Key), (acc ++ l).Nodup → l.foldl addKey acc = acc ++ l
  | [], acc, _ => by rw [List.foldl_nil, List.append_nil]
  | k :: l, acc, h => by
    rw [List.foldl_cons, addKey_new (fun z => (List.nodup_append.mp h).2.2 k z k (List.mem_cons_self ..) rfl), addKeys_nodup l (acc ++ [k]) (by rw [List.append_assoc]; exact h), List.append_assoc]
    rfl
theorem Row.row_ok {r : Row} (h : ∀ n, r = .put n → -32768 ≤ n ∧ n ≤ 32767) : rowD r.d = true := by
  cases r with
  | put n =>
    have q := h n rfl
    show (decide (([PyData.int n] : List PyData).length ≤ 1) && (decide (Str.ofString "put" ∈ c_WORDS) && if Str.ofString "put" = "put" then within (.int n) (-32768) 32767 else decide (([PyData.int n] : List PyData).length = 0))) = true
    have e : within (.int n) (-32768) 32767 = true := by
      show (decide (-32768 ≤ n) && decide (n ≤ 32767)) = true
      rw [decide_eq_true q.1, decide_eq_true q.2]; rfl
    rw [e]
    have e2 : decide (Str.ofString "put" ∈ c_WORDS) = true := by decide +kernel
    rw [e2, if_pos rfl]
    rfl
  | _ => decide +kernel
theorem Fin.end_ok {e : Fin} (h : ∀ l ∈ e.labels, nameS l = true) : endD e.d = true := by
  cases e with
  | go l =>
    have q := h l (List.mem_singleton.mpr rfl)
    have e1 : endN "go" = some 1 := by decide +kernel
    show (decide (([PyData.str l] : List PyData).length ≤ 2) && ((match endN "go" with
      | some n => decide (([PyData.str l] : List PyData).length = n)
      | none => false) && (nameS l && true))) = true
    rw [e1, q]
    rfl
  | iff a b =>
    have q := h a (List.mem_cons_self ..)
    have q2 := h b (List.mem_cons_of_mem _ (List.mem_singleton.mpr rfl))
    have e1 : endN "if" = some 2 := by decide +kernel
    show (decide (([PyData.str a, PyData.str b] : List PyData).length ≤ 2) && ((match endN "if" with
      | some n => decide (([PyData.str a, PyData.str b] : List PyData).length = n)
      | none => false) && (nameS a && (nameS b && true)))) = true
    rw [e1, q, q2]
    rfl
  | stop => decide +kernel
theorem Good.blocks_ok {bs : List Blk} {h : Str → Int} (G : Good bs h) : areBlocksD (blocksD bs) = true := by
  unfold blocksD areBlocksD
  have e1 : ((bs.map Blk.d).map labelK) = bs.map fun b => Sum.inr b.label := by rw [List.map_map]; rfl
  have e2 : (bs.map fun b => (Sum.inr b.label : Key)).Nodup := by
    have q := G.nodup
    have q2 : bs.map (fun b => (Sum.inr b.label : Key)) = (bs.map Blk.label).map Sum.inr := by rw [List.map_map]; rfl
    rw [q2]
    exact List.Pairwise.map _ (fun a b z y => z (Sum.inr.inj y)) q
  have e3 : ((bs.map Blk.d).map labelK).foldl addKey [] = bs.map fun b => Sum.inr b.label := by
    rw [e1, addKeys_nodup _ _ (by rw [List.nil_append]; exact e2), List.nil_append]
  have e4 : (bs.map Blk.d).all blockD = true := by
    rw [List.all_map, List.all_eq_true]
    intro b hb
    have r1 : nameD (.str b.label) = true := G.names b hb
    have r2 : rowsOk (rowsD b.rows) = true := by
      show (decide ((b.rows.map Row.d).length ≤ 12) && (b.rows.map Row.d).all rowD) = true
      have q1 : (b.rows.map Row.d).length ≤ 12 := by rw [List.length_map]; exact G.many b hb
      rw [decide_eq_true q1, Bool.true_and, List.all_map, List.all_eq_true]
      exact fun r hr => Row.row_ok (G.puts b hb r hr)
    have r3 : endD b.fin.d = true := Fin.end_ok fun l hl => by
      obtain ⟨b2, hb2, e⟩ := List.mem_map.mp (G.ends b hb l hl).1
      rw [← e]
      exact G.names b2 hb2
    show blockD (.tuple [.str b.label, rowsD b.rows, b.fin.d]) = true
    show (nameD (.str b.label) && (rowsOk (rowsD b.rows) && endD b.fin.d)) = true
    rw [r1, r2, r3]; rfl
  have e5 : (List.foldl addKey [] (List.map labelK (List.map Blk.d bs))).length = bs.length := by rw [e3, List.length_map]
  simp only [List.length_map, e4, e5, decide_eq_true G.one, decide_eq_true G.six, decide_eq_true rfl, Bool.and_true, decide_true, Bool.true_and]
/-- a closed list of labels holds all -/
theorem Good.closed {bs : List Blk} {h : Str → Int} (G : Good bs h) {KL : List Str} (h1 : ∀ b, bs.head? = some b → b.label ∈ KL) (h2 : ∀ b ∈ bs, b.label ∈ KL → ∀ l ∈ b.fin.labels, l ∈ KL) : ∀ b ∈ bs, b.label ∈ KL := by
  have q : ∀ l, Reach bs l → l ∈ KL := fun l r => by
    induction r with
    | first e => exact h1 _ e
    | step hb _ hl ih => exact h2 _ hb ih _ hl
  exact fun b hb => q _ (G.all b hb)
theorem nodup_sub_length {α : Type} [DecidableEq α] : ∀ {xs ys : List α}, xs.Nodup → (∀ x ∈ xs, x ∈ ys) → xs.length ≤ ys.length
  | [], _, _, _ => Nat.zero_le _
  | x :: xs, ys, h, s => by
    have hx := List.nodup_cons.mp h
    have m := s x (List.mem_cons_self ..)
    have q := nodup_sub_length (ys := ys.erase x) hx.2 fun y hy => (List.mem_erase_of_ne fun z => hx.1 (by rw [← z]; exact hy)).mpr (s y (List.mem_cons_of_mem _ hy))
    rw [List.length_erase_of_mem m] at q
    have := List.length_pos_of_mem m
    rw [List.length_cons]
    omega
def tableD (bs : List Blk) : List (Key × PyData) := bs.map fun b => (Sum.inr b.label, PyData.tuple [rowsD b.rows, b.fin.d])
theorem look_table : ∀ {bs : List Blk} {b : Blk}, (bs.map Blk.label).Nodup → b ∈ bs → look (tableD bs) (Sum.inr b.label) = some (.tuple [rowsD b.rows, b.fin.d])
  | c :: bs, b, nd, hb => by
    rcases List.mem_cons.mp hb with e | hb
    · subst e
      unfold look tableD
      rw [List.map_cons, List.find?_cons_of_pos (by exact decide_eq_true rfl)]
      rfl
    · have nd2 := List.nodup_cons.mp nd
      have ne : ¬ ((Sum.inr c.label : Key) = Sum.inr b.label) := fun z => nd2.1 (by rw [Sum.inr.inj z]; exact List.mem_map.mpr ⟨b, hb, rfl⟩)
      have ih := look_table nd2.2 hb
      unfold look tableD at ih ⊢
      rw [List.map_cons, List.find?_cons_of_neg (by show ¬ decide ((Sum.inr c.label : Key) = Sum.inr b.label) = true; rw [decide_eq_false ne]; exact Bool.false_ne_true)]
      exact ih
def highs (ls : List Str) (h : Str → Int) : List (Key × V) := ls.map fun l => (Sum.inr l, V.int (h l))
theorem highs_at {h : Str → Int} : ∀ {ls : List Str} {l : Str}, l ∈ ls → valV (highs ls h) (Sum.inr l) = some (.int (h l))
  | c :: ls, l, hb => by
    by_cases e : c = l
    · subst e
      exact valV_pos rfl
    · have ih := highs_at (h := h) ((List.mem_cons.mp hb).resolve_left fun z => e z.symm)
      exact (valV_neg fun z => e (Sum.inr.inj z)).trans ih
theorem highs_off {h : Str → Int} : ∀ {ls : List Str} {l : Str}, l ∉ ls → valV (highs ls h) (Sum.inr l) = none
  | [], l, _ => rfl
  | c :: ls, l, hb => by
    have e : ¬ c = l := fun z => hb (by rw [z]; exact List.mem_cons_self ..)
    have ih := highs_off (h := h) (fun z => hb (List.mem_cons_of_mem _ z))
    exact (valV_neg fun z => e (Sum.inr.inj z)).trans ih
theorem highs_put {h : Str → Int} {ls : List Str} {l : Str} (hb : l ∉ ls) : putK (highs ls h) (Sum.inr l) (.int (h l)) = highs (ls ++ [l]) h := by
  rw [putK_new _ (highs_off hb)]
  unfold highs
  rw [List.map_append]
  rfl
theorem KvD.ints_inv {K : PySem.W.Frag} {H : Hp} : ∀ {ps : List (Key × Int)} {vs : List (Key × V)}, KvD K H vs (ps.map fun q => (q.1, PyData.int q.2)) → vs = ps.map fun q => (q.1, V.int q.2)
  | [], _, h => by cases h; rfl
  | (k, i) :: ps, _, h => by
    cases h with
    | cons h1 h2 =>
      cases h1
      rw [KvD.ints_inv h2]
      rfl
end Pb

/-! W5 -/
set_option Elab.async false
set_option linter.all false
set_option maxRecDepth 100000
set_option maxHeartbeats 4000000
namespace Pb
open PySem PySem.Spec PyProof.Rows L2
open C8 (Cal Mak Met pe_c pe_mk pe_mt pe_mt0 pe_gc fnScope_by)
/-! short words -/
local macro_rules | `(tactic| walk_at "rd") => `(tactic| try simp only [tVar, tC, tAdd, tSub, t2I, tIsN, tNotN, tB, tAnd, tOr, tNot, tAndV, tOrV, tNotV, tIf, tSeq, tPar, tPar3, tNext, tBreak, tCont, tDrop, tRet, tRetN, tIfS, gName, gNil, gCons, gTup, gSub, tAsg, tAug, ipI, iList, iTup, iRng1, iRng2, iStr, iEnum, iZip,
  tOp, tUn, rI, rI0, rU, tTest, tChain, tFld, sFld, sFldAug, L2.rAdd, L2.rSub, tNil, tCons, tTup, tLst, tCall, tMeth, tMake, tCB, tNoPart, tPart, tSl, tBM0, tBM, tDGet, tDGet1, tDGet2, tDIn, tDNotIn, sDPut, tDNewK, rEq, rNe, scal_ii, scal_ss, scal_bb, scal_nn, scal_ni, scal_in, scal_ns, scal_sn, scal_is, scal_si, List.take_succ_cons, List.take_zero, List.drop_succ_cons, List.drop_zero, upd_same, upd_upd, and_assoc, tKGet, gStar, tDisp, tPairs, tYes,
  L2.start, List.map_cons, List.map_nil, List.length_cons, List.length_nil, List.cons_append, List.nil_append, List.append_nil, List.replicate, Nat.sub_self, Nat.add_sub_cancel, Nat.reduceAdd, Nat.reduceSub, List.set_cons_zero, List.set_cons_succ, List.getElem?_cons_zero, List.getElem?_cons_succ,
  Option.some.injEq, V.int.injEq, V.bl.injEq, V.str.injEq, V.ref.injEq, exists_eq_left', exists_eq_left, exists_eq', exists_eq, true_and, and_true, if_true, if_false, Bool.false_eq_true, List.cons.injEq, Bool.not_true, Bool.not_false, cxK, cxP, cxW, ite_true, ite_false, wipe, reduceCtorEq, and_self, decide_true, decide_false, exists_and_left, exists_const, decide_eq_true_eq])
local macro_rules | `(tactic| walk_at "len") => `(tactic| (intro vs H Q E h; repeat (first | (obtain ⟨e, _⟩ := h; subst e; rfl) | (obtain ⟨_, h⟩ := h))))
local macro_rules | `(tactic| walk_at "wd") => `(tactic| simp (config := {decide := true}) only [V.str.injEq, scal_ss, true_and, if_true, if_false])

def codeF (pa ta : Addr) (x : V) : List (Str × V) := [("parts", .ref pa), ("table", .ref ta), ("high", x)]
def IsCode (K : PySem.W.Frag) (H : Hp) (p : Addr) (bs : List Blk) (h : Str → Int) : Prop := ∃ dx pa ta ha kvs, H p = some (.ins (He.ga K "Code") dx (codeF pa ta (.ref ha))) ∧ Dp K H (.ref pa) (blocksD bs) ∧
  H ta = some (.dK kvs) ∧ KvD K H kvs (tableD bs) ∧ H ha = some (.dK (highs (bs.map Blk.label) h))
def sp_Code_find_heights (K : PySem.W.Frag) : Sp := fun vs H Q _ => ∃ ms p dx pa ta x kvs bs h, vs = [.ref p] ∧ H p = some (.ins (He.ga K "Code") dx (codeF pa ta x)) ∧ Tk H ms ∧ p ∈ ms ∧ Dp K (hide H ms) (.ref pa) (blocksD bs) ∧
  hide H ms ta = some (.dK kvs) ∧ KvD K (hide H ms) kvs (tableD bs) ∧ Good bs h ∧ ∀ H' ha, Sx [p] H H' → H' p = some (.ins (He.ga K "Code") dx (codeF pa ta (.ref ha))) → hide H' ms ha = some (.dK (highs (bs.map Blk.label) h)) → Q .non H'
theorem get_label {bs : List Blk} {l : Str} (h : l ∈ bs.map Blk.label) : ∃ b ∈ bs, b.label = l := by
  obtain ⟨b, hb, e⟩ := List.mem_map.mp h
  exact ⟨b, hb, e⟩
theorem nodup_label : ∀ {bs : List Blk} {c b : Blk}, (bs.map Blk.label).Nodup → c ∈ bs → b ∈ bs → c.label = b.label → c = b
  | x :: bs, c, b, nd, hc, hb, e => by
    have q := List.nodup_cons.mp nd
    rcases List.mem_cons.mp hc with h1 | h1
    · rcases List.mem_cons.mp hb with h2 | h2
      · rw [h1, h2]
      · subst h1
        exact absurd (List.mem_map.mpr ⟨b, h2, e.symm⟩) q.1
    · rcases List.mem_cons.mp hb with h2 | h2
      · subst h2
        exact absurd (List.mem_map.mpr ⟨c, h1, e⟩) q.1
      · exact nodup_label q.2 h1 h2 e
theorem known_word {b : Blk} {w : Str} (h : w ∈ b.words) : w ∈ c_SUMS ∨ w ∈ c_TOUCHES.map (·.1) := by
  unfold Blk.words at h
  rcases List.mem_append.mp h with h | h
  · obtain ⟨r, _, e⟩ := List.mem_map.mp h
    rw [← e]; exact r.known
  · rw [List.mem_singleton.mp h]; exact b.fin.known
theorem stepD_at {b : Blk} {i : Nat} {d : PyData} (h : b.stepD[i]? = some d) : ∃ w xs, d = .tuple (.str w :: xs) ∧ b.words[i]? = some w := by
  unfold Blk.stepD at h
  unfold Blk.words
  have hl : (b.rows.map Row.d).length = (b.rows.map Row.word).length := by rw [List.length_map, List.length_map]
  by_cases hi : i < (b.rows.map Row.d).length
  · rw [List.getElem?_append_left hi] at h
    rw [List.getElem?_append_left (by omega)]
    rw [List.getElem?_map] at h ⊢
    cases e : b.rows[i]? with
    | none => rw [e] at h; cases h
    | some r => rw [e] at h; cases h; exact ⟨_, _, rfl, rfl⟩
  · rw [List.getElem?_append_right (by omega)] at h
    rw [List.getElem?_append_right (by omega)]
    rw [hl] at h
    cases e : i - (b.rows.map Row.word).length with
    | zero => rw [e] at h; cases h; exact ⟨_, _, rfl, rfl⟩
    | succ n => rw [e] at h; cases h
def FhInv (H : Hp) (p kd : Addr) (l0 : Str) (bs : List Blk) (h : Str → Int) (m : Nat) (σ : L2.St) (H2 : Hp) : Prop := ∃ DL TL t o4 o5 o6 o7 o8 o9 o10, m = bs.length - DL.length ∧ σ = [some (.ref p), some (.str l0), some (.ref t), some (.ref kd), o4, o5, o6, o7, o8, o9, o10] ∧ Same H H2 ∧ H2 t = some (.lst (TL.map V.str)) ∧
    H2 kd = some (.dK (highs (DL ++ TL) h)) ∧ (DL ++ TL).Nodup ∧ (∀ l ∈ DL ++ TL, l ∈ bs.map Blk.label) ∧ l0 ∈ DL ++ TL ∧ ∀ b ∈ bs, b.label ∈ DL → ∀ l ∈ b.fin.labels, l ∈ DL ++ TL
section
variable {P : Program} {w : World} {K : PySem.W.Frag} {mg : Str → Option Value} {base : Heap}
theorem ok_find_heights (T : Tx w K mg) (F_touches : Cal P w K mg base 1 "touches" (sp_touches K) []) (F_change : Cal P w K mg base 1 "change" (sp_change K) []) : Met P w K mg base 3 (He.ga K "Code") "find_heights" (sp_Code_find_heights K) [] := by
  refine met_of T.c_Code T.me_Code_find_heights T.D_Code_find_heights sc_Code_find_heights (fun _ _ _ _ _ _ us hl => match us, hl with | [_], _ => rfl) (by walk_at "len") fun cdv A outer s H vs Q E hr h => ?_
  refine ⟨_, (pss_cons (ps_set (i := 1) sc_Code_find_heights.nd rfl (by first | exact Or.inl rfl | exact Or.inr rfl) (pe_ix (r := rIx K) ix_seq (pe_ix (r := rIx K) ix_seq (pe_fldK (K := K) (pv 0) rfl) pe_int (fun _ _ => rfl)) pe_int (fun _ _ => rfl)))
    (pss_cons (ps_asg (pe_tup (pa_cons (pe_lst (pa_cons (pv 1) pa_nil)) (pa_cons (pe_disp (pps_cons (pv 1) pe_int pps_nil) (by rfl) (by rfl) (fun z => by cases z) (by decide)) pa_nil))) (pg_tupK (K := K) (n := 2) rfl (pgs_cons (pg_name (i := 2) sc_Code_find_heights.nd rfl (by first | exact Or.inl rfl | exact Or.inr rfl)) (pgs_cons (pg_name (i := 3) sc_Code_find_heights.nd rfl (by first | exact Or.inl rfl | exact Or.inr rfl)) pgs_nil))))
    (pss_cons (ps_while PassesOwn.never (pt_cmpR (r := rNeD K) (op_neD hr.units) (pv 2) (pe_lst pa_nil) (nomark _)) (pss_cons (ps_asg (pv 2) (pg_starK (K := K) (i := 1) rfl (pgs_cons (pg_name (i := 4) sc_Code_find_heights.nd rfl (by first | exact Or.inl rfl | exact Or.inr rfl)) (pgs_star (pg_name (i := 2) sc_Code_find_heights.nd rfl (by first | exact Or.inl rfl | exact Or.inr rfl)) pgs_nil))))
    (pss_cons (ps_asg (pe_dget (hu_of hr) (pe_fldK (K := K) (pv 0) rfl) (pv 4) (fun _ _ => rfl)) (pg_tupK (K := K) (n := 2) rfl (pgs_cons (pg_name (i := 5) sc_Code_find_heights.nd rfl (by first | exact Or.inl rfl | exact Or.inr rfl)) (pgs_cons (pg_name (i := 6) sc_Code_find_heights.nd rfl (by first | exact Or.inl rfl | exact Or.inr rfl)) pgs_nil))))
    (pss_cons (ps_set (i := 7) sc_Code_find_heights.nd rfl (by first | exact Or.inl rfl | exact Or.inr rfl) (pe_dget (hu_of hr) (pv 3) (pv 4) (fun _ _ => rfl)))
    (pss_cons (ps_for PassesOwn.never rfl (pi_enum (by rfl) T.b_enumerate (pa_cons (pe_op (r := rCatS K) op_catS (pv 5) (pe_lst (pa_cons (pv 6) pa_nil))) pa_nil)) (pg_tupK (K := K) (n := 2) rfl (pgs_cons (pg_name (i := 8) sc_Code_find_heights.nd rfl (by first | exact Or.inl rfl | exact Or.inr rfl)) (pgs_cons (pg_name (i := 9) sc_Code_find_heights.nd rfl (by first | exact Or.inl rfl | exact Or.inr rfl)) pgs_nil))) (pss_cons (ps_if (PW.pt (pw_or (pt_cmpR op_gt (pe_c F_touches hr (by decide) (by rfl) (pa_cons (pv 9) pa_nil)) (pv 7) (nomark _)) (pw_or1 (pt_cmpR op_gt (pe_op op_add (pv 7) (pe_c F_change hr (by decide) (by rfl) (pa_cons (pv 9) pa_nil))) (pe_gc (by rfl) T.v_DEEPEST) (nomark _))))) (pss_one ps_never) pss_nil)
    (pss_one (ps_aug (i := 7) sc_Code_find_heights.nd rfl (by first | exact Or.inl rfl | exact Or.inr rfl) (pe_c F_change hr (by decide) (by rfl) (pa_cons (pv 9) pa_nil)) ip_add))))
    (pss_one (ps_for PassesOwn.never rfl (pi_tup (pe_slice (r := rSlT K) sl_tup (pv 6) (po_some pe_int) po_none)) (pg_name (i := 10) sc_Code_find_heights.nd rfl (by first | exact Or.inl rfl | exact Or.inr rfl)) (pss_cons (ps_if (PW.pt (pw_or (pt_cmp (pc_dnotin (hu_of hr) (pv 10) (pe_fldK (K := K) (pv 0) rfl)) rfl) (pw_or1 (pt_cmpR op_ne (pe_dget2 (hu_of hr) (pv 3) (pv 10) (pv 7) ⟨rfl, rfl, rfl, rfl⟩) (pv 7) (nomark _))))) (pss_one ps_never) pss_nil)
    (pss_one (ps_if (pt_cmp (pc_dnotin (hu_of hr) (pv 10) (pv 3)) rfl) (pss_cons (ps_dput (hu_of hr) (pv 3) (pv 10) (pv 7) rfl)
    (pss_one (ps_set (i := 2) sc_Code_find_heights.nd rfl (by first | exact Or.inl rfl | exact Or.inr rfl) (pe_op (r := rCatS K) op_catS (pv 2) (pe_lst (pa_cons (pv 10) pa_nil)))))) pss_nil))))))))))
    (pss_cons (ps_if (pt_cmpR op_lt (pe_callB call_lenDK (by rfl) T.b_len (by decide +kernel) (pa_cons (pv 3) pa_nil)) (pe_callB (r := rLenQ K) call_lenQ (by rfl) T.b_len (by decide +kernel) (pa_cons (pe_fldK (K := K) (pv 0) rfl) pa_nil)) (nomark _)) (pss_one ps_never) pss_nil)
    (pss_one (ps_fld (pv 0) (pe_dc rfl sc_Code_find_heights.nd (pi_listK (K := K) (pe_fldK (K := K) (pv 0) rfl)) (blkOk_by (own := [("label", 4), ("rows", 5), ("end", 6)]) (N := ["self", "first", "turn", "known", "label", "rows", "end", "high", "at", "row", "there"]) (sc := L2.defScope s_Code_find_heights) (by decide +kernel)) (fun _ _ _ _ _ => (pg_m (pg_tupK (K := K) (n := 3) rfl (pgs_cons (pg_name (i := 4) sc_Code_find_heights.nd rfl (by first | exact Or.inl rfl | exact Or.inr rfl)) (pgs_cons (pg_name (i := 5) sc_Code_find_heights.nd rfl (by first | exact Or.inl rfl | exact Or.inr rfl)) (pgs_cons (pg_name (i := 6) sc_Code_find_heights.nd rfl (by first | exact Or.inl rfl | exact Or.inr rfl)) pgs_nil)))))) (fun _ _ _ _ _ => pts_nilM) (fun _ _ _ _ _ => (pe_m (pv 4))) (fun _ _ _ _ _ => (pe_m (pe_dget (hu_of hr) (pv 3) (pv 4) (fun _ _ => rfl))))) rfl)))))), ?_⟩
  obtain ⟨ms, p, dx, pa, ta, x, kvs, bs, h, rfl, hp, tk, hpm, hd, hta, hkv, G, k⟩ := h
  have hd0 := Dp.mono same_show hd
  have hta0 : H ta = some (.dK kvs) := same_show _ _ hta
  have hkv0 := KvD.mono same_show hkv
  obtain ⟨b0, tl, rfl⟩ : ∃ b0 tl, bs = b0 :: tl := by
    cases bs with
    | nil => exact absurd G.one (by simp)
    | cons b tl => exact ⟨b, tl, rfl⟩
  generalize hbs : b0 :: tl = bs at *
  have hlab0 : b0.label ∈ bs.map Blk.label := by rw [← hbs]; exact List.mem_cons_self ..
  have hz : h b0.label = 0 := G.zero b0 (by rw [← hbs]; rfl)
  walk_at "rd"
  refine ⟨_, _, _, hp, T.c_Code, T.n_Code_parts, _, rfl, ?_⟩
  refine a_ixL hd0 (by rw [← hbs]; exact atI_0) fun u hu => ?_
  refine a_ixT hu atI_0 fun v hv => ?_
  cases hv
  refine ⟨by rw [sizeLine_eq]; omega, fun t0 ht0 kd hkd => ⟨[(Sum.inr b0.label, .int 0)], rfl, by exact (by decide : 1 ≤ 15), by rw [sizeLine_eq]; omega, fun pr hpr => ?_⟩⟩
  have hm : mergeK [] [((Sum.inr b0.label : Key), V.int 0)] = highs [b0.label] h := by
    unfold highs
    rw [List.map_cons, List.map_nil, hz]
    rfl
  rw [hm] at hpr ⊢
  have s1 : Same H (upd (upd (upd H t0 (.lst [.str b0.label])) kd (.dK (highs [b0.label] h))) pr (.tup [.ref t0, .ref kd])) := ((same_new ht0).trans (same_new hkd)).trans (same_new hpr)
  have e1 : upd (upd (upd H t0 (.lst [.str b0.label])) kd (.dK (highs [b0.label] h))) pr (.tup [.ref t0, .ref kd]) t0 = some (.lst [.str b0.label]) := keep_at (keep_at upd_same hkd) hpr
  have e2 : upd (upd (upd H t0 (.lst [.str b0.label])) kd (.dK (highs [b0.label] h))) pr (.tup [.ref t0, .ref kd]) kd = some (.dK (highs [b0.label] h)) := keep_at upd_same hpr
  have hkd0 : H kd = none := (same_new ht0).free hkd
  refine a_t2V (.inl (.inl upd_same)) ?_
  walk_at "rd"
  generalize upd (upd (upd H t0 (.lst [.str b0.label])) kd (.dK (highs [b0.label] h))) pr (.tup [.ref t0, .ref kd]) = H1 at *
  refine ⟨FhInv H p kd b0.label bs h,
    ⟨_, [], [b0.label], t0, _, _, _, _, _, _, _, rfl, rfl, s1, e1, e2, by simp, by simpa using hlab0, by simp, by simp⟩, ?_⟩
  rintro m σ H2 ⟨DL, TL, t, o4, o5, o6, o7, o8, o9, o10, rfl, rfl, s2, ht, hk, nd, sub, h0, cl⟩
  walk_at "rd"
  refine ⟨by rw [sizeLine_eq]; omega, fun q hq => ?_⟩
  have s3 := s2.trans (same_new (o := HO.lst []) hq)
  have ht3 := keep_at (u := HO.lst []) ht hq
  have hk3 := keep_at (u := HO.lst []) hk hq
  refine a_neD (d := .list (TL.map PyData.str)) (e := .list []) (.lst (SqL.of ht3) (DpAll.strs TL)) (.lst (SqL.of upd_same) .nil) (shaped_strs fun l hl => G.label_ok (sub l (List.mem_append_right _ hl))) rfl ?_
  rw [eqv_nil_strs]
  generalize upd H2 q (HO.lst []) = H3 at *
  cases TL with
  | nil =>
    refine ⟨_, rfl, ?_⟩
    rw [if_neg (by decide)]
    rw [List.append_nil] at hk3 nd sub h0 cl
    have cov := G.closed (KL := DL) (fun b e => by
      rw [← hbs] at e
      cases e
      exact h0) cl
    have hlen : bs.length ≤ DL.length := by
      have q := nodup_sub_length G.nodup fun l hl => by
        obtain ⟨b, hb, e⟩ := get_label hl
        rw [← e]
        exact cov b hb
      rw [List.length_map] at q
      exact q
    refine ⟨kd, _, rfl, hk3, ?_⟩
    refine ⟨_, _, _, s3 _ _ hp, T.c_Code, T.n_Code_parts, _, rfl, ?_⟩
    refine a_lenL (Dp.mono s3 hd0) ?_
    walk_at "rd"
    have hhl : (highs DL h).length = DL.length := List.length_map _
    rw [if_neg (by rw [hhl, List.length_map]; omega)]
    refine a_dc ?_
    walk_at "rd"
    refine ⟨_, _, _, s3 _ _ hp, T.c_Code, T.n_Code_parts, _, rfl, ?_⟩
    obtain ⟨aa, xs, e3, hxs, hda⟩ := dp_list hd
    cases e3
    have hxs3 : SqL K H3 pa xs := sqL_same s3 (sqL_same same_show hxs)
    refine ⟨pa, rfl, ⟨xs, hxs3⟩, fun D hD => ?_⟩
    refine dc_data (K := K) (ms := ms) walk_list hD (by rw [List.length_map, sizeLine_eq]; have := G.six; omega) (DpAll.mono (Same.hide s3 ms) hda) (fun H4 s4 => sqL_same s4 hxs3) labelK (fun d => .int (match d with
      | .tuple (.str z :: _) => h z
      | _ => 0)) (by
        have e1 : ((bs.map Blk.d).map labelK) = (bs.map Blk.label).map Sum.inr := by rw [List.map_map, List.map_map]; rfl
        rw [e1]
        exact List.Pairwise.map _ (fun a b z y => z (Sum.inr.inj y)) G.nodup) (fun y d H4 hd4 s4 hD4 hy => ?_) (fun H4 kvs4 s4 e4 hkv4 => ?_)
    · obtain ⟨b, hb, rfl⟩ := List.mem_map.mp hd4
      have hy2 : Dp K H4 y b.d := Dp.mono same_show hy
      walk_at "rd"
      refine a_t3 hy2 fun u v x hl _ _ => ?_
      cases hl
      walk_at "rd"
      refine ⟨rfl, _, ?_, Same.refl _, .int _⟩
      have q := DGet.k (k := Sum.inr b.label) (s4 _ _ hk3)
      rw [highs_at (cov b hb)] at q
      exact q
    · walk_at "rd"
      have s5 := s3.trans s4
      have eD : kvs4 = highs (bs.map Blk.label) h := by
        have q : (bs.map Blk.d).map (fun d => (labelK d, PyData.int (match d with
            | .tuple (.str z :: _) => h z
            | _ => 0))) = ((bs.map Blk.label).map fun l => ((Sum.inr l : Key), h l)).map fun q => (q.1, PyData.int q.2) := by
          rw [List.map_map, List.map_map, List.map_map]
          rfl
        rw [q] at hkv4
        rw [KvD.ints_inv hkv4]
        unfold highs
        rw [List.map_map]
        rfl
      have hDp : D ≠ p := ne_of e4 (s5 _ _ hp) (by intro z; cases z)
      refine ⟨_, _, _, s5 _ _ hp, T.c_Code, T.n_Code_high, by show 3 < 1000; decide, ?_⟩
      refine k _ D (fun c o hc e => ?_) (upd_same.trans ?_) ?_
      · rw [upd_ne fun z => hc (List.mem_singleton.mpr z)]
        exact s5 _ _ e
      · rfl
      · rw [hide_at ((tk.same s3).out hD), upd_ne hDp, e4, eD]
  | cons l TL =>
    refine ⟨_, rfl, ?_⟩
    rw [if_pos (by simp)]
    refine ⟨_, fun σ' H' q => q, ?_⟩
    walk_at "rd"
    have few : (DL ++ l :: TL).length ≤ 6 := by
      have q := nodup_sub_length nd sub
      rw [List.length_map] at q
      have := G.six
      omega
    rw [List.length_append, List.length_cons] at few
    refine ⟨_, .inr (SqL.of ht3), by rw [List.length_map, List.length_cons]; omega, by rw [List.length_map, List.length_cons]; omega, fun D hD => ⟨_, _, rfl, _, _, rfl, rfl, ?_⟩⟩
    have s4 : Same H _ := s3.trans (same_new (o := HO.lst (TL.map V.str)) hD)
    have ht4 : upd H3 D (HO.lst (TL.map V.str)) D = some (.lst (TL.map V.str)) := upd_same
    have hk4 := keep_at (u := HO.lst (TL.map V.str)) hk3 hD
    show ∃ _, _
    generalize hH4 : upd H3 D (HO.lst (TL.map V.str)) = H4 at s4 ht4 hk4
    have hH4' : upd H3 D (HO.lst (List.drop 1 ((l :: TL).map V.str))) = H4 := hH4
    rw [hH4']
    obtain ⟨b, hb, hbl⟩ := get_label (sub l (List.mem_append_right _ (List.mem_cons_self ..)))
    subst hbl
    refine ⟨_, _, _, s4 _ _ hp, T.c_Code, T.n_Code_table, _, rfl, ta, rfl, ?_⟩
    obtain ⟨tv, htv, hdv⟩ := KvD.get hkv0 (look_table G.nodup hb)
    have q := DGet.k (k := Sum.inr b.label) (s4 _ _ hta0)
    rw [htv] at q
    refine ⟨tv, q, ?_⟩
    refine a_t2 (Dp.mono s4 hdv) fun ur ue hur hue => ?_
    walk_at "rd"
    have q := DGet.k (k := Sum.inr b.label) hk4
    rw [highs_at (List.mem_append_right _ (List.mem_cons_self ..))] at q
    refine ⟨_, q, ?_⟩
    refine a_for ?_
    walk_at "rd"
    refine ⟨by rw [sizeLine_eq]; omega, fun p1 hp1 => ?_⟩
    have s5 := s4.trans (same_new (o := HO.lst [ue]) hp1)
    have ht5 := keep_at (u := HO.lst [ue]) ht4 hp1
    have hk5 := keep_at (u := HO.lst [ue]) hk4 hp1
    have hr5 := Dp.mono (same_new (o := HO.lst [ue]) hp1) hur
    have he5 := Dp.mono (same_new (o := HO.lst [ue]) hp1) hue
    have hl5 : Dp K (upd H4 p1 (.lst [ue])) (.ref p1) (.list [b.fin.d]) := .lst (SqL.of upd_same) (.cons he5 .nil)
    generalize upd H4 p1 (HO.lst [ue]) = H5 at *
    refine a_cat hr5 hl5 (by have := G.many b hb; rw [List.length_map, sizeLine_eq]; simp only [List.length_cons, List.length_nil]; omega) fun p2 ws hp2 hws => ?_
    have s6 := s5.trans (same_new (o := HO.lst ws) hp2)
    have ht6 := keep_at (u := HO.lst ws) ht5 hp2
    have hk6 := keep_at (u := HO.lst ws) hk5 hp2
    have hw6 := DpAll.mono (same_new (o := HO.lst ws) hp2) hws
    have he6 := Dp.mono (same_new (o := HO.lst ws) hp2) he5
    have hp6 : upd H5 p2 (HO.lst ws) p2 = some (.lst ws) := upd_same
    walk_at "rd"
    refine ⟨_, SqL.of upd_same, ?_⟩
    generalize upd H5 p2 (HO.lst ws) = H6 at *
    change DpAll K H6 ws b.stepD at hw6
    have hlw := DpAll.length hw6
    have hlsw : b.stepD.length = b.words.length := by unfold Blk.stepD Blk.words; simp
    refine for_go (walk_enum (xs := ws)) (fun i σ H7 => Same H6 H7 ∧ ∃ o8 o9, σ = [some (V.ref p), some (V.str b0.label), some (V.ref D), some (V.ref kd), some (V.str b.label), some ur, some ue, some (V.int (after (h b.label) (b.words.take i))), o8, o9, o10]) ⟨Same.refl _, _, _, by rw [List.take_zero, after_nil]⟩ (fun i σ H7 _ q => SqL.of (q.1 _ _ hp6)) ?_ ?_
    · rintro i y σ H7 H8 hi ⟨s7, o8, o9, rfl⟩ yy
      obtain ⟨p3, y1, y2, rfl, hp3, rfl, ey1, ey2⟩ := yy
      cases ey1
      obtain ⟨d, ed, hdd⟩ := DpAll.at hw6 ey2
      obtain ⟨wd, wx, rfl, ew⟩ := stepD_at ed
      have hkn := known_word (List.mem_of_getElem? ew)
      have hok := wok_at (G.rows b hb) ew
      have hdd8 := Dp.mono (s7.trans (same_new (o := HO.tup [V.int (i : Nat), y2]) hp3)) hdd
      refine a_t2V (.inl (.inl upd_same)) ?_
      have s8 := s7.trans (same_new (o := HO.tup [V.int (i : Nat), y2]) hp3)
      generalize upd H7 p3 (HO.tup [V.int (i : Nat), y2]) = H8 at *
      walk_at "rd"
      have nx : after (h b.label) (b.words.take (i + 1)) = after (h b.label) (b.words.take i) + changeN wd := by
        rw [List.take_succ, ew]
        exact after_snoc
      refine ⟨[], y2, wd, wx, rfl, Tk.nil, by rw [hide_nil]; exact hdd8, hkn, ?_⟩
      walk_at "rd"
      rw [if_neg (by have := hok.1; omega)]
      refine ⟨[], y2, wd, wx, rfl, Tk.nil, by rw [hide_nil]; exact hdd8, hkn, _, rfl, ?_⟩
      rw [if_neg (by have := hok.2; omega)]
      refine ⟨[], y2, wd, wx, rfl, Tk.nil, by rw [hide_nil]; exact hdd8, hkn, ?_⟩
      walk_at "rd"
      exact ⟨s8, nx.symm⟩
    · rintro σ H7 ⟨s7, o8, o9, rfl⟩
      rw [hlw, hlsw, List.take_length]
      walk_at "rd"
      refine a_for ?_
      walk_at "rd"
      obtain ⟨ea, es, rfl, hes, hea⟩ := dp_tuple (Dp.mono s7 he6)
      cases hea with
      | cons hwd hel =>
        cases hwd
        cases DpAll.strs_inv hel
        refine ⟨ea, _, rfl, hes, cut1_not, fun p4 hp4 => ?_⟩
        · rw [cut1]
          walk_at "rd"
          refine ⟨⟨_, SqT.of upd_same⟩, ?_⟩
          have s8 := (s6.trans s7).trans (same_new (o := HO.tup (b.fin.labels.map V.str)) hp4)
          have ht8 := keep_at (u := HO.tup (b.fin.labels.map V.str)) (s7 _ _ ht6) hp4
          have hk8 := keep_at (u := HO.tup (b.fin.labels.map V.str)) (s7 _ _ hk6) hp4
          have hp8 : upd H7 p4 (HO.tup (b.fin.labels.map V.str)) p4 = some (.tup (b.fin.labels.map V.str)) := upd_same
          generalize upd H7 p4 (HO.tup (b.fin.labels.map V.str)) = H8 at *
          refine for_go2 (walk_tup (xs := b.fin.labels.map V.str)) (fun i σ H9 => ∃ AL t o10, σ = [some (V.ref p), some (V.str b0.label), some (V.ref t), some (V.ref kd), some (V.str b.label), some ur, some (.ref ea), some (V.int (after (h b.label) b.words)), o8, o9, o10] ∧ Same H H9 ∧ H9 p4 = some (.tup (b.fin.labels.map V.str)) ∧
            H9 t = some (.lst ((TL ++ AL).map V.str)) ∧ H9 kd = some (.dK (highs (DL ++ b.label :: (TL ++ AL)) h)) ∧ (DL ++ b.label :: (TL ++ AL)).Nodup ∧ (∀ l ∈ DL ++ b.label :: (TL ++ AL), l ∈ bs.map Blk.label) ∧ ∀ l ∈ b.fin.labels.take i, l ∈ DL ++ b.label :: (TL ++ AL))
            ⟨[], D, o10, rfl, s8, hp8, by rw [List.append_nil]; exact ht8, by rw [List.append_nil]; exact hk8, by rw [List.append_nil]; exact nd, by rw [List.append_nil]; exact sub, by simp⟩ (fun i σ H9 _ q => by
              obtain ⟨_, _, _, _, _, q, _⟩ := q
              exact SqT.of q) ?_ ?_
          · rintro Pw yes i y σ H9 H10 hi ⟨AL, t2, o10, rfl, s9, hp9, ht9, hk9, nd9, sub9, in9⟩ ⟨e0, ey⟩
            subst e0
            rw [List.getElem?_map] at ey
            cases ethere : b.fin.labels[i]? with
            | none => rw [ethere] at ey; cases ey
            | some there =>
              rw [ethere] at ey
              cases ey
              have hth := G.ends b hb there (List.mem_of_getElem? ethere)
              obtain ⟨b2, hb2, hb2l⟩ := get_label hth.1
              have hout : after (h b.label) b.words = h there := hth.2.symm
              have in10 : ∀ X : List Str, there ∈ X → (∀ l ∈ b.fin.labels.take i, l ∈ X) → ∀ l ∈ b.fin.labels.take (i + 1), l ∈ X := fun X h1 h2 l hl => by
                rw [List.take_succ, ethere] at hl
                rcases List.mem_append.mp hl with hl | hl
                · exact h2 l hl
                · rw [List.mem_singleton.mp hl]; exact h1
              rw [hout]
              walk_at "rd"
              refine ⟨_, _, _, s9 _ _ hp, T.c_Code, T.n_Code_table, _, rfl, ta, rfl, ?_⟩
              obtain ⟨tv2, htv2, _⟩ := KvD.get hkv0 (look_table G.nodup hb2)
              have q2 := DGet.k (k := Sum.inr there) (s9 _ _ hta0)
              rw [← hb2l, htv2] at q2
              rw [hb2l] at q2
              refine ⟨_, q2, ?_⟩
              rw [if_neg (by exact Bool.false_ne_true)]
              have isd : IsD H10 kd := .inl ⟨_, .inl hk9⟩
              have gk := DGet.k (k := Sum.inr there) hk9
              by_cases hin : there ∈ DL ++ b.label :: (TL ++ AL)
              · rw [highs_at hin] at gk
                refine ⟨isd, _, gk, rfl, ?_⟩
                simp only [Option.getD_some, decide_true, Bool.not_true, Bool.false_eq_true, if_false]
                refine ⟨_, gk, ?_⟩
                simp only [Option.isSome_some, Bool.not_true, Bool.false_eq_true, if_false]
                exact yes _ _ _ ⟨AL, t2, _, by rw [hout], s9, hp9, ht9, hk9, nd9, sub9, in10 _ hin in9⟩
              · rw [highs_off hin] at gk
                refine ⟨isd, _, gk, rfl, ?_⟩
                simp only [Option.getD_none, decide_true, Bool.not_true, Bool.false_eq_true, if_false]
                refine ⟨_, gk, ?_⟩
                simp only [Option.isSome_none, Bool.not_false, if_true]
                have hlen9 : (highs (DL ++ b.label :: (TL ++ AL)) h).length ≤ 6 := by
                  have q := nodup_sub_length nd9 sub9
                  rw [List.length_map] at q
                  have := G.six
                  unfold highs
                  rw [List.length_map]
                  omega
                have dp := DPut.k (k := Sum.inr there) (v := V.int (h there)) hk9 (by rw [sizeLine_eq]; omega)
                refine ⟨_, dp, ?_⟩
                rw [highs_put hin]
                have nkp : p4 ≠ kd := ne_of hp9 hk9 (by intro z; cases z)
                have nkt : t2 ≠ kd := ne_of ht9 hk9 (by intro z; cases z)
                have s10 : Same H (upd H10 kd (.dK (highs (DL ++ b.label :: (TL ++ AL) ++ [there]) h))) := fun c o e => by
                  rw [upd_ne (ne_of_none e hkd0)]
                  exact s9 _ _ e
                have hp10 : upd H10 kd (.dK (highs (DL ++ b.label :: (TL ++ AL) ++ [there]) h)) p4 = some (.tup (b.fin.labels.map V.str)) := by rw [upd_ne nkp]; exact hp9
                have ht10 : upd H10 kd (.dK (highs (DL ++ b.label :: (TL ++ AL) ++ [there]) h)) t2 = some (.lst ((TL ++ AL).map V.str)) := by rw [upd_ne nkt]; exact ht9
                have hk10 : upd H10 kd (.dK (highs (DL ++ b.label :: (TL ++ AL) ++ [there]) h)) kd = some (.dK (highs (DL ++ b.label :: (TL ++ AL) ++ [there]) h)) := upd_same
                generalize upd H10 kd (.dK (highs (DL ++ b.label :: (TL ++ AL) ++ [there]) h)) = H11 at *
                walk_at "rd"
                refine ⟨by rw [sizeLine_eq]; omega, fun p6 hp6 => ?_⟩
                have s12 := s10.trans (same_new (o := HO.lst [V.str there]) hp6)
                have hp12 := keep_at (u := HO.lst [V.str there]) hp10 hp6
                have ht12 := keep_at (u := HO.lst [V.str there]) ht10 hp6
                have hk12 := keep_at (u := HO.lst [V.str there]) hk10 hp6
                have e12 : upd H11 p6 (HO.lst [V.str there]) p6 = some (.lst [V.str there]) := upd_same
                generalize upd H11 p6 (HO.lst [V.str there]) = H12 at *
                have few9 : (TL ++ AL).length ≤ 6 := by
                  unfold highs at hlen9
                  rw [List.length_map, List.length_append, List.length_cons] at hlen9
                  omega
                refine ⟨t2, p6, _, _, rfl, rfl, SqL.of ht12, SqL.of e12, by rw [List.length_map, sizeLine_eq, List.length_singleton]; omega, fun p7 hp7 => ?_⟩
                refine yes _ _ _ ⟨AL ++ [there], p7, _, by rw [hout], s12.trans (same_new hp7), keep_at hp12 hp7, ?_, ?_, ?_, ?_, ?_⟩
                · rw [upd_same, ← List.append_assoc, List.map_append (l₁ := TL ++ AL)]; rfl
                · rw [← List.append_assoc TL AL, ← List.cons_append, ← List.append_assoc]
                  exact keep_at hk12 hp7
                · rw [← List.append_assoc TL AL, ← List.cons_append, ← List.append_assoc]
                  exact List.nodup_append.mpr ⟨nd9, by simp, fun a ha c hc z => hin (by rw [← List.mem_singleton.mp hc, ← z]; exact ha)⟩
                · rw [← List.append_assoc TL AL, ← List.cons_append, ← List.append_assoc]
                  intro l hl
                  rcases List.mem_append.mp hl with hl | hl
                  · exact sub9 l hl
                  · rw [List.mem_singleton.mp hl]; exact hth.1
                · rw [← List.append_assoc TL AL, ← List.cons_append, ← List.append_assoc]
                  exact in10 _ (List.mem_append_right _ (List.mem_singleton.mpr rfl)) fun l hl => List.mem_append_left _ (in9 l hl)
          · rintro σ H9 ⟨AL, t2, o10, rfl, s9, hp9, ht9, hk9, nd9, sub9, in9⟩
            rw [List.length_map, List.take_length] at in9
            walk_at "rd"
            have e9 : DL ++ b.label :: (TL ++ AL) = (DL ++ [b.label]) ++ (TL ++ AL) := by simp
            rw [e9] at hk9 nd9 sub9 in9
            refine ⟨bs.length - (DL ++ [b.label]).length, ?_, DL ++ [b.label], TL ++ AL, t2, _, _, _, _, _, _, _, rfl, rfl, s9, ht9, hk9, nd9, sub9, ?_, ?_⟩
            · have q := nodup_sub_length nd9 sub9
              rw [List.length_map] at q
              simp only [List.length_append, List.length_singleton] at q ⊢
              omega
            · rcases List.mem_append.mp h0 with m0 | m0
              · exact List.mem_append_left _ (List.mem_append_left _ m0)
              · rcases List.mem_cons.mp m0 with m0 | m0
                · exact List.mem_append_left _ (List.mem_append_right _ (List.mem_singleton.mpr m0))
                · exact List.mem_append_right _ (List.mem_append_left _ m0)
            · intro c hc hcl l hl
              rcases List.mem_append.mp hcl with hcl | hcl
              · rcases List.mem_append.mp (cl c hc hcl l hl) with m0 | m0
                · exact List.mem_append_left _ (List.mem_append_left _ m0)
                · rcases List.mem_cons.mp m0 with m0 | m0
                  · exact List.mem_append_left _ (List.mem_append_right _ (List.mem_singleton.mpr m0))
                  · exact List.mem_append_right _ (List.mem_append_left _ m0)
              · have ecb : c = b := nodup_label G.nodup hc hb (List.mem_singleton.mp hcl)
                subst ecb
                exact in9 l hl
end
end Pb

/-! W6 -/
set_option Elab.async false
set_option linter.all false
set_option maxRecDepth 100000
set_option maxHeartbeats 4000000
namespace Pb
open PySem PySem.Spec PyProof.Rows L2
open C8 (Cal Mak Met pe_c pe_mk pe_mt pe_mt0 pe_gc fnScope_by)
/-! short words -/
local macro_rules | `(tactic| walk_at "rd") => `(tactic| try simp only [tVar, tC, tAdd, tSub, t2I, tIsN, tNotN, tB, tAnd, tOr, tNot, tAndV, tOrV, tNotV, tIf, tSeq, tPar, tPar3, tNext, tBreak, tCont, tDrop, tRet, tRetN, tIfS, gName, gNil, gCons, gTup, gSub, tAsg, tAug, ipI, iList, iTup, iRng1, iRng2, iStr, iEnum, iZip,
  tOp, tUn, rI, rI0, rU, tTest, tChain, tFld, sFld, sFldAug, L2.rAdd, L2.rSub, tNil, tCons, tTup, tLst, tCall, tMeth, tMake, tCB, tNoPart, tPart, tSl, tBM0, tBM, tDGet, tDGet1, tDGet2, tDIn, tDNotIn, sDPut, tDNewK, rEq, rNe, scal_ii, scal_ss, scal_bb, scal_nn, scal_ni, scal_in, scal_ns, scal_sn, scal_is, scal_si, List.take_succ_cons, List.take_zero, List.drop_succ_cons, List.drop_zero, upd_same, upd_upd, and_assoc, tKGet, gStar, tDisp, tPairs, tYes,
  L2.start, List.map_cons, List.map_nil, List.length_cons, List.length_nil, List.cons_append, List.nil_append, List.append_nil, List.replicate, Nat.sub_self, Nat.add_sub_cancel, Nat.reduceAdd, Nat.reduceSub, List.set_cons_zero, List.set_cons_succ, List.getElem?_cons_zero, List.getElem?_cons_succ,
  Option.some.injEq, V.int.injEq, V.bl.injEq, V.str.injEq, V.ref.injEq, exists_eq_left', exists_eq_left, exists_eq', exists_eq, true_and, and_true, if_true, if_false, Bool.false_eq_true, List.cons.injEq, Bool.not_true, Bool.not_false, cxK, cxP, cxW, ite_true, ite_false, wipe, reduceCtorEq, and_self, decide_true, decide_false, exists_and_left, exists_const, decide_eq_true_eq])
local macro_rules | `(tactic| walk_at "len") => `(tactic| (intro vs H Q E h; repeat (first | (obtain ⟨e, _⟩ := h; subst e; rfl) | (obtain ⟨_, h⟩ := h))))
local macro_rules | `(tactic| walk_at "wd") => `(tactic| simp (config := {decide := true}) only [V.str.injEq, scal_ss, true_and, if_true, if_false])

def sp_Code___init__ (K : PySem.W.Frag) : Sp := fun vs H Q _ => ∃ ms p dx H0 v bs h, vs = [.ref p, v] ∧ H = upd (upd H0 dx (.own p)) p (.ins (He.ga K "Code") dx []) ∧ H0 p = none ∧ H0 dx = none ∧ dx ≠ p ∧ Tk H0 ms ∧ Dp K (hide H0 ms) v (blocksD bs) ∧ Good bs h ∧
  ∀ H', Same H0 H' → IsCode K (hide H' ms) p bs h → Q .non H'
/-- the part of code that needs no dict -/
def CodeP (K : PySem.W.Frag) (H : Hp) (p : Addr) (bs : List Blk) : Prop := ∃ dx pa ta x, H p = some (.ins (He.ga K "Code") dx (codeF pa ta x)) ∧ Dp K H (.ref pa) (blocksD bs)
theorem CodeP.mono {K : PySem.W.Frag} {H H' : Hp} {p : Addr} {bs : List Blk} (s : Same H H') (c : CodeP K H p bs) : CodeP K H' p bs := by
  obtain ⟨dx, pa, ta, x, h1, h2⟩ := c
  exact ⟨dx, pa, ta, x, s _ _ h1, Dp.mono s h2⟩
theorem IsCode.parts {K : PySem.W.Frag} {H : Hp} {p : Addr} {bs : List Blk} {h : Str → Int} (c : IsCode K H p bs h) : CodeP K H p bs := by
  obtain ⟨dx, pa, ta, ha, kvs, h1, h2, _⟩ := c
  exact ⟨dx, pa, ta, _, h1, h2⟩
def sp_Code_first (K : PySem.W.Frag) : Sp := fun vs H Q _ => ∃ ms p b bs, vs = [.ref p] ∧ Tk H ms ∧ CodeP K (hide H ms) p (b :: bs) ∧ Q (.str b.label) H
def sp_Code_blocks (K : PySem.W.Frag) : Sp := fun vs H Q _ => ∃ ms p bs h, vs = [.ref p] ∧ Tk H ms ∧ IsCode K (hide H ms) p bs h ∧ Good bs h ∧ ∀ H' v, Same H H' → Dp K (hide H' ms) v (blocksD bs) → Q v H'
def sp_Code_heights (K : PySem.W.Frag) : Sp := fun vs H Q _ => ∃ ms p bs h, vs = [.ref p] ∧ Tk H ms ∧ IsCode K (hide H ms) p bs h ∧ Good bs h ∧ ∀ q, H q = none → Q (.ref q) (upd H q (.dK (highs (bs.map Blk.label) h)))
def sp_Code___len__ (K : PySem.W.Frag) : Sp := fun vs H Q _ => ∃ ms p bs h, vs = [.ref p] ∧ Tk H ms ∧ IsCode K (hide H ms) p bs h ∧ Good bs h ∧ ∀ H', Same H H' → Q (.int ((bs.map fun b => b.rows.length + 1).sum : Nat)) H'
theorem IsCode.mono {K : PySem.W.Frag} {H H' : Hp} {p : Addr} {bs : List Blk} {h : Str → Int} (s : Same H H') (c : IsCode K H p bs h) : IsCode K H' p bs h := by
  obtain ⟨dx, pa, ta, ha, kvs, h1, h2, h3, h4, h5⟩ := c
  exact ⟨dx, pa, ta, ha, kvs, s _ _ h1, Dp.mono s h2, s _ _ h3, KvD.mono s h4, s _ _ h5⟩
theorem short_name {x : Str} (h : nameS x = true) : short (.str x) := by
  unfold nameS at h
  have q := of_decide_eq_true (Bool.and_eq_true_iff.mp (Bool.and_eq_true_iff.mp h).1).2
  show x.length ≤ sizeLine
  rw [sizeLine_eq]
  omega
theorem Good.short {bs : List Blk} {h : Str → Int} (G : Good bs h) : shBs (blocksD bs) := by
  intro d hd
  obtain ⟨b, hb, rfl⟩ := List.mem_map.mp hd
  refine ⟨short_name (G.names b hb), fun x hx => ?_⟩
  rcases List.mem_cons.mp hx with e | hx
  · rw [e]
    show b.fin.word.length ≤ sizeLine
    have q : b.fin.word.length ≤ 8 := by cases b.fin <;> (simp only [Fin.word]; decide +kernel)
    rw [sizeLine_eq]
    omega
  · obtain ⟨l, hl, rfl⟩ := List.mem_map.mp hx
    obtain ⟨b2, hb2, rfl⟩ := get_label (G.ends b hb l hl).1
    exact short_name (G.names b2 hb2)
section
variable {P : Program} {w : World} {K : PySem.W.Frag} {mg : Str → Option Value} {base : Heap}
theorem ok_Code_init (T : Tx w K mg) (F_are_blocks : Cal P w K mg base 5 "are_blocks" (sp_are_blocks K) []) (F_Code_find_heights : Met P w K mg base 3 (He.ga K "Code") "find_heights" (sp_Code_find_heights K) []) : Mak P w K mg base 6 "Code" (He.ga K "Code") (sp_Code___init__ K) [] := by
  refine mak_of T.mk_Code T.g_Code T.D_Code___init__ sc_Code___init__ (fun _ _ _ _ _ _ us hl => match us, hl with | [_, _], _ => rfl) (by walk_at "len") fun cdv A outer s H vs Q E hr h => ?_
  refine ⟨_, (pss_cons (ps_if (pt_not (pt_val (pe_c F_are_blocks hr (by decide) (by rfl) (pa_cons (pv 1) pa_nil)))) (pss_one ps_never) pss_nil)
    (pss_cons (ps_fld (pv 0) (pe_lc rfl sc_Code___init__.nd (pi_listK (K := K) (pv 1)) (blkOk_by (own := [("label", 2), ("rows", 3), ("end", 4)]) (N := ["self", "blocks", "label", "rows", "end"]) (sc := L2.defScope s_Code___init__) (by decide +kernel)) (fun _ _ _ _ _ => (pg_m (pg_tupK (K := K) (n := 3) rfl (pgs_cons (pg_name (i := 2) sc_Code___init__.nd rfl (by first | exact Or.inl rfl | exact Or.inr rfl)) (pgs_cons (pg_name (i := 3) sc_Code___init__.nd rfl (by first | exact Or.inl rfl | exact Or.inr rfl)) (pgs_cons (pg_name (i := 4) sc_Code___init__.nd rfl (by first | exact Or.inl rfl | exact Or.inr rfl)) pgs_nil)))))) (fun _ _ _ _ _ => pts_nilM) (fun _ _ _ _ _ => (pe_m (pe_tup (pa_cons (pv 2) (pa_cons (pe_callTy (r := rListOf K) call_listOf (by rfl) T.b_list (by decide +kernel) (pa_cons (pv 3) pa_nil)) (pa_cons (pv 4) pa_nil))))))) rfl)
    (pss_cons (ps_fld (pv 0) (pe_dc rfl sc_Code___init__.nd (pi_listK (K := K) (pe_fldK (K := K) (pv 0) rfl)) (blkOk_by (own := [("label", 2), ("rows", 3), ("end", 4)]) (N := ["self", "blocks", "label", "rows", "end"]) (sc := L2.defScope s_Code___init__) (by decide +kernel)) (fun _ _ _ _ _ => (pg_m (pg_tupK (K := K) (n := 3) rfl (pgs_cons (pg_name (i := 2) sc_Code___init__.nd rfl (by first | exact Or.inl rfl | exact Or.inr rfl)) (pgs_cons (pg_name (i := 3) sc_Code___init__.nd rfl (by first | exact Or.inl rfl | exact Or.inr rfl)) (pgs_cons (pg_name (i := 4) sc_Code___init__.nd rfl (by first | exact Or.inl rfl | exact Or.inr rfl)) pgs_nil)))))) (fun _ _ _ _ _ => pts_nilM) (fun _ _ _ _ _ => (pe_m (pv 2))) (fun _ _ _ _ _ => (pe_m (pe_tup (pa_cons (pv 3) (pa_cons (pv 4) pa_nil)))))) rfl)
    (pss_cons (ps_fld (pv 0) pe_dnewK rfl)
    (pss_one (ps_expr (pe_mt0 F_Code_find_heights hr (by decide) (pv 0)))))))), ?_⟩
  obtain ⟨ms, p, dx, H0, v, bs, h, rfl, rfl, hp0, hdx0, hne, tk, hd, G, k⟩ := h
  have s0 : Same H0 (upd (upd H0 dx (.own p)) p (.ins (He.ga K "Code") dx [])) := (same_new hdx0).trans (same_new (by rw [upd_ne (Ne.symm hne)]; exact hp0))
  have hp1 : upd (upd H0 dx (.own p)) p (.ins (He.ga K "Code") dx []) p = some (.ins (He.ga K "Code") dx []) := upd_same
  generalize upd (upd H0 dx (.own p)) p (.ins (He.ga K "Code") dx []) = H1 at *
  have tk1 : Tk H1 ms := tk.same s0
  have hpm : p ∉ ms := tk.out hp0
  have tkp : Tk H1 (p :: ms) := Tk.cons hp1 tk1
  have hd1 : Dp K (hide H1 (p :: ms)) v (blocksD bs) := Dp.mono (fun b o e => by
    obtain ⟨q1, q2⟩ := hide_of e
    rw [hide_at (fun z => (List.mem_cons.mp z).elim (fun k => by rw [k, hp0] at q1; cases q1) q2)]
    exact s0 _ _ q1) hd
  walk_at "rd"
  refine ⟨p :: ms, v, _, rfl, tkp, hd1, G.short, fun H2 s2 => ?_⟩
  walk_at "rd"
  rw [G.blocks_ok, if_neg (by decide)]
  have hp2 := s2 _ _ hp1
  have hd2 := Dp.mono (Same.hide s2 _) hd1
  have s02 := s0.trans s2
  refine a_lc ?_
  walk_at "rd"
  obtain ⟨va, vs, rfl, hvs, hva⟩ := dp_list hd2
  have hvs2 : SqL K H2 va vs := sqL_same same_show hvs
  refine ⟨va, rfl, ⟨vs, hvs2⟩, fun D hD => ?_⟩
  refine lc_data (K := K) (ds := bs.map Blk.d) (ms := p :: ms) walk_list hD (tkp.same s2) (by rw [List.length_map, sizeLine_eq]; have := G.six; omega) hva (fun H4 s4 => sqL_same s4 hvs2) (fun _ => true) id (fun y d H4 hd4 s4 hD4 hy => ?_) (fun H4 ys s4 e4 hys => ?_)
  · obtain ⟨b, hb, rfl⟩ := List.mem_map.mp hd4
    refine a_t3h hy fun x1 x2 x3 h1 h2 h3 => ?_
    walk_at "rd"
    refine ⟨fun z => z.elim, fun _ => ?_⟩
    obtain ⟨la, ls, rfl, hls, hla⟩ := dp_list h2
    refine ⟨la, ls, rfl, .inl (sqL_same same_show hls), fun l hl => ⟨by rw [sizeLine_eq]; omega, fun q hq => ?_⟩⟩
    have s5 := (same_new (o := HO.lst ls) hl).trans (same_new (o := HO.tup [x1, .ref l, x3]) hq)
    have tkD : Tk H4 (D :: p :: ms) := fun m hm => (List.mem_cons.mp hm).elim (fun z => by rw [z]; exact hD4) (tkp.same (s2.trans s4) m)
    refine ⟨s5, .tup (.inl (.inl (new_at (tkD.same (same_new hl)) hq))) (.cons (Dp.mono (Same.hide s5 _) h1) (.cons (.lst (.inl (.inl ?_)) (DpAll.mono (Same.hide s5 _) hla)) (.cons (Dp.mono (Same.hide s5 _) h3) .nil)))⟩
    exact Same.hide (same_new hq) _ _ _ (new_at tkD hl)
  · rw [List.filter_eq_self.mpr fun _ _ => rfl, List.map_id] at hys
    walk_at "rd"
    have hp4 := s4 _ _ hp2
    refine ⟨_, _, _, hp4, T.c_Code, T.n_Code_parts, by show 0 < 1000; decide, ?_⟩
    have eF : putF (Str.ofString "parts") (V.ref D) [] = [(Str.ofString "parts", V.ref D)] := rfl
    rw [eF]
    have nDp : D ≠ p := ne_of e4 hp4 (by intro z; cases z)
    have nDm : D ∉ p :: ms := (tkp.same s2).out hD
    have e5 : upd H4 p (HO.ins (He.ga K "Code") dx [(Str.ofString "parts", V.ref D)]) D = some (.lst ys) := by rw [upd_ne nDp]; exact e4
    have hys5 : DpAll K (hide (upd H4 p (HO.ins (He.ga K "Code") dx [(Str.ofString "parts", V.ref D)])) (p :: ms)) ys (bs.map Blk.d) := by
      rw [hide_upd (List.mem_cons_self ..)]
      exact DpAll.mono (same_less fun a ha => List.mem_cons_of_mem _ ha) hys
    have hp5 : upd H4 p (HO.ins (He.ga K "Code") dx [(Str.ofString "parts", V.ref D)]) p = some (HO.ins (He.ga K "Code") dx [(Str.ofString "parts", V.ref D)]) := upd_same
    have s05 : Same H0 (upd H4 p (HO.ins (He.ga K "Code") dx [(Str.ofString "parts", V.ref D)])) := fun b o e => by
      rw [upd_ne (ne_of_none e hp0)]
      exact s4 _ _ (s02 _ _ e)
    have tk5 : Tk (upd H4 p (HO.ins (He.ga K "Code") dx [(Str.ofString "parts", V.ref D)])) (p :: ms) := ((tkp.same s2).same s4).upd
    generalize upd H4 p (HO.ins (He.ga K "Code") dx [(Str.ofString "parts", V.ref D)]) = H5 at *
    refine a_dc ?_
    walk_at "rd"
    refine ⟨_, _, _, hp5, T.c_Code, T.n_Code_parts, _, rfl, D, rfl, ⟨_, SqL.of e5⟩, fun D2 hD2 => ?_⟩
    refine dc_data (K := K) (ds := bs.map Blk.d) (ms := p :: ms) walk_list hD2 (by rw [List.length_map, sizeLine_eq]; have := G.six; omega) hys5 (fun H6 s6 => SqL.of (s6 _ _ e5)) labelK (fun d => match d with
      | .tuple [_, a, b] => .tuple [a, b]
      | _ => .none) (by
        have e1 : ((bs.map Blk.d).map labelK) = (bs.map Blk.label).map Sum.inr := by rw [List.map_map, List.map_map]; rfl
        rw [e1]
        exact List.Pairwise.map _ (fun a b z y => z (Sum.inr.inj y)) G.nodup) (fun y d H6 hd6 s6 hD6 hy => ?_) (fun H6 kvs s6 e6 hkv => ?_)
    · obtain ⟨b, hb, rfl⟩ := List.mem_map.mp hd6
      refine a_t3h hy fun x1 x2 x3 h1 h2 h3 => ?_
      cases h1
      walk_at "rd"
      refine ⟨rfl, by rw [sizeLine_eq]; omega, fun q hq => ?_⟩
      have s7 := same_new (o := HO.tup [x2, x3]) hq
      have tkD : Tk H6 (D2 :: p :: ms) := fun m hm => (List.mem_cons.mp hm).elim (fun z => by rw [z]; exact hD6) (tk5.same s6 m)
      exact ⟨s7, .tup (.inl (.inl (new_at tkD hq))) (.cons (Dp.mono (Same.hide s7 _) h2) (.cons (Dp.mono (Same.hide s7 _) h3) .nil))⟩
    · walk_at "rd"
      have hp6 := s6 _ _ hp5
      refine ⟨_, _, _, hp6, T.c_Code, T.n_Code_table, by show 1 < 1000; decide, ?_⟩
      have eF : putF (Str.ofString "table") (V.ref D2) [(Str.ofString "parts", V.ref D)] = [(Str.ofString "parts", V.ref D), (Str.ofString "table", V.ref D2)] := rfl
      rw [eF]
      have nDp2 : D2 ≠ p := ne_of e6 hp6 (by intro z; cases z)
      have nDm2 : D2 ∉ p :: ms := tk5.out hD2
      have eT : (bs.map Blk.d).map (fun d => (labelK d, (match d with
          | .tuple [_, a, b] => PyData.tuple [a, b]
          | _ => .none))) = tableD bs := by
        rw [List.map_map]
        rfl
      rw [eT] at hkv
      refine fun D3 hD3 => ⟨_, _, _, keep_at upd_same hD3, T.c_Code, T.n_Code_high, by show 2 < 1000; decide, ?_⟩
      have eF : putF (Str.ofString "high") (V.ref D3) [(Str.ofString "parts", V.ref D), (Str.ofString "table", V.ref D2)] = codeF D D2 (V.ref D3) := rfl
      rw [eF]
      have n32 : D3 ≠ p := fun z => by rw [z, upd_same] at hD3; cases hD3
      have s58 : Sx [p] H6 (upd (upd (upd H6 p (HO.ins (He.ga K "Code") dx [(Str.ofString "parts", V.ref D), (Str.ofString "table", V.ref D2)])) D3 (HO.dK [])) p (HO.ins (He.ga K "Code") dx (codeF D D2 (V.ref D3)))) :=
        ((Sx.upd (List.mem_singleton.mpr rfl)).trans (Sx.of (same_new hD3))).trans (Sx.upd (List.mem_singleton.mpr rfl))
      have hp8 : upd (upd (upd H6 p (HO.ins (He.ga K "Code") dx [(Str.ofString "parts", V.ref D), (Str.ofString "table", V.ref D2)])) D3 (HO.dK [])) p (HO.ins (He.ga K "Code") dx (codeF D D2 (V.ref D3))) p = some (HO.ins (He.ga K "Code") dx (codeF D D2 (V.ref D3))) := upd_same
      generalize upd (upd (upd H6 p (HO.ins (He.ga K "Code") dx [(Str.ofString "parts", V.ref D), (Str.ofString "table", V.ref D2)])) D3 (HO.dK [])) p (HO.ins (He.ga K "Code") dx (codeF D D2 (V.ref D3))) = H8 at *
      have sh8 : Same (hide H6 (p :: ms)) (hide H8 (p :: ms)) := s58.hide fun a ha => by rw [List.mem_singleton.mp ha]; exact List.mem_cons_self ..
      have tk8 : Tk H8 (p :: ms) := fun m hm => by
        rcases List.mem_cons.mp hm with z | hm
        · rw [z, hp8]; exact fun z => nomatch z
        · have q := (tk5.same s6) m (List.mem_cons_of_mem _ hm)
          have nmp : m ∉ [p] := fun z => hpm (by rw [← List.mem_singleton.mp z]; exact hm)
          cases e : H6 m with
          | none => exact absurd e q
          | some o => rw [s58 m o nmp e]; exact fun z => nomatch z
      have hparts : Dp K (hide H6 (p :: ms)) (.ref D) (blocksD bs) := by
        refine .lst (.inl (.inl ?_)) (DpAll.mono (Same.hide s6 _) hys5)
        rw [hide_at nDm]
        exact s6 _ _ e5
      have htab : hide H6 (p :: ms) D2 = some (.dK kvs) := by rw [hide_at nDm2]; exact e6
      have hkv6 : KvD K (hide H6 (p :: ms)) kvs (tableD bs) := KvD.mono (same_less fun a ha => List.mem_cons_of_mem _ ha) hkv
      refine ⟨_, _, rfl, rfl, p :: ms, p, dx, D, D2, _, kvs, bs, h, rfl, hp8, tk8, List.mem_cons_self .., Dp.mono sh8 hparts, sh8 _ _ htab, KvD.mono sh8 hkv6, G, fun H9 ha s9 hp9 hha => ?_⟩
      walk_at "rd"
      have sh9 : Same (hide H8 (p :: ms)) (hide H9 (p :: ms)) := s9.hide fun a ha => by rw [List.mem_singleton.mp ha]; exact List.mem_cons_self ..
      have sl9 : Same (hide H9 (p :: ms)) (hide H9 ms) := same_less fun a ha => List.mem_cons_of_mem _ ha
      have sh69 := (sh8.trans sh9).trans sl9
      refine k _ (fun b o e => ?_) ⟨dx, D, D2, ha, kvs, ?_, Dp.mono sh69 hparts, sh69 _ _ htab, KvD.mono sh69 hkv6, sl9 _ _ hha⟩
      · have nb : b ∉ [p] := fun z => by rw [List.mem_singleton.mp z, hp0] at e; cases e
        exact s9 _ _ nb (s58 _ _ nb (s6 _ _ (s05 _ _ e)))
      · rw [hide_at hpm]; exact hp9
end
end Pb

/-! W7 -/
set_option Elab.async false
set_option linter.all false
set_option maxRecDepth 100000
set_option maxHeartbeats 4000000
namespace Pb
open PySem PySem.Spec PyProof.Rows L2
open C8 (Cal Mak Met pe_c pe_mk pe_mt pe_mt0 pe_gc fnScope_by)
/-! short words -/
local macro_rules | `(tactic| walk_at "rd") => `(tactic| try simp only [tVar, tC, tAdd, tSub, t2I, tIsN, tNotN, tB, tAnd, tOr, tNot, tAndV, tOrV, tNotV, tIf, tSeq, tPar, tPar3, tNext, tBreak, tCont, tDrop, tRet, tRetN, tIfS, gName, gNil, gCons, gTup, gSub, tAsg, tAug, ipI, iList, iTup, iRng1, iRng2, iStr, iEnum, iZip,
  tOp, tUn, rI, rI0, rU, tTest, tChain, tFld, sFld, sFldAug, L2.rAdd, L2.rSub, tNil, tCons, tTup, tLst, tCall, tMeth, tMake, tCB, tNoPart, tPart, tSl, tBM0, tBM, tDGet, tDGet1, tDGet2, tDIn, tDNotIn, sDPut, tDNewK, rEq, rNe, scal_ii, scal_ss, scal_bb, scal_nn, scal_ni, scal_in, scal_ns, scal_sn, scal_is, scal_si, List.take_succ_cons, List.take_zero, List.drop_succ_cons, List.drop_zero, upd_same, upd_upd, and_assoc, tKGet, gStar, tDisp, tPairs, tYes,
  L2.start, List.map_cons, List.map_nil, List.length_cons, List.length_nil, List.cons_append, List.nil_append, List.append_nil, List.replicate, Nat.sub_self, Nat.add_sub_cancel, Nat.reduceAdd, Nat.reduceSub, List.set_cons_zero, List.set_cons_succ, List.getElem?_cons_zero, List.getElem?_cons_succ,
  Option.some.injEq, V.int.injEq, V.bl.injEq, V.str.injEq, V.ref.injEq, exists_eq_left', exists_eq_left, exists_eq', exists_eq, true_and, and_true, if_true, if_false, Bool.false_eq_true, List.cons.injEq, Bool.not_true, Bool.not_false, cxK, cxP, cxW, ite_true, ite_false, wipe, reduceCtorEq, and_self, decide_true, decide_false, exists_and_left, exists_const, decide_eq_true_eq])
local macro_rules | `(tactic| walk_at "len") => `(tactic| (intro vs H Q E h; repeat (first | (obtain ⟨e, _⟩ := h; subst e; rfl) | (obtain ⟨_, h⟩ := h))))
local macro_rules | `(tactic| walk_at "wd") => `(tactic| simp (config := {decide := true}) only [V.str.injEq, scal_ss, true_and, if_true, if_false])

def sp_Code___eq__ (K : PySem.W.Frag) : Sp := fun vs H Q _ => ∃ ms p q bs cs h g, vs = [.ref p, .ref q] ∧ Tk H ms ∧ IsCode K (hide H ms) p bs h ∧ IsCode K (hide H ms) q cs g ∧ Good bs h ∧ Good cs g ∧ Q (.bl (PyData.eqv (blocksD bs) (blocksD cs))) H
theorem shp_row (r : Row) : Shp 1 r.d := by
  refine shp_tup fun d hd => ?_
  rcases List.mem_cons.mp hd with e | hd
  · rw [e]
    refine shp_str ?_
    cases r <;> (simp only [Row.word]; decide +kernel)
  · cases r <;> simp only [Row.args] at hd
    case put n => rw [List.mem_singleton.mp hd]; exact shp_int
    all_goals exact absurd hd (by simp)
theorem shp_fin {e : Fin} (h : ∀ l ∈ e.labels, PyData.strOk l = true) : Shp 1 e.d := by
  refine shp_tup fun d hd => ?_
  rcases List.mem_cons.mp hd with q | hd
  · rw [q]
    refine shp_str ?_
    cases e <;> (simp only [Fin.word]; decide +kernel)
  · obtain ⟨l, hl, rfl⟩ := List.mem_map.mp hd
    exact shp_str (h l hl)
theorem Good.shaped {bs : List Blk} {h : Str → Int} (G : Good bs h) : SeqAt.shaped (blocksD bs) = true := by
  refine shaped_of (n := 4) (shp_list fun d hd => ?_) (by decide)
  obtain ⟨b, hb, rfl⟩ := List.mem_map.mp hd
  refine shp_tup fun d hd => ?_
  rcases List.mem_cons.mp hd with e | hd
  · rw [e]
    exact shp_str (G.label_ok (List.mem_map.mpr ⟨b, hb, rfl⟩))
  rcases List.mem_cons.mp hd with e | hd
  · rw [e]
    refine shp_list fun d hd => ?_
    obtain ⟨r, _, rfl⟩ := List.mem_map.mp hd
    exact shp_row r
  rw [List.mem_singleton.mp hd]
  exact (shp_fin fun l hl => G.label_ok (G.ends b hb l hl).1).mono (by decide)
section
variable {P : Program} {w : World} {K : PySem.W.Frag} {mg : Str → Option Value} {base : Heap}
theorem ok_Code_first (T : Tx w K mg) : Met P w K mg base 1 (He.ga K "Code") "first" (sp_Code_first K) [] := by
  refine met_of T.c_Code T.me_Code_first T.D_Code_first sc_Code_first (fun _ _ _ _ _ _ us hl => match us, hl with | [_], _ => rfl) (by walk_at "len") fun cdv A outer s H vs Q E hr h => ?_
  refine ⟨_, (pss_one (ps_ret (pe_ix (r := rIx K) ix_seq (pe_ix (r := rIx K) ix_seq (pe_fldK (K := K) (pv 0) rfl) pe_int (fun _ _ => rfl)) pe_int (fun _ _ => rfl)))), ?_⟩
  obtain ⟨ms, p, b, bs, rfl, tk, c, k⟩ := h
  obtain ⟨dx, pa, ta, x, h1, h2⟩ := CodeP.mono same_show c
  walk_at "rd"
  refine ⟨_, _, _, h1, T.c_Code, T.n_Code_parts, _, rfl, ?_⟩
  refine a_ixL h2 atI_0 fun u hu => ?_
  refine a_ixT hu atI_0 fun v hv => ?_
  cases hv
  exact k
theorem ok_Code_eq (T : Tx w K mg) : Met P w K mg base 8 (He.ga K "Code") "__eq__" (sp_Code___eq__ K) [] := by
  refine met_of T.c_Code T.me_Code___eq__ T.D_Code___eq__ sc_Code___eq__ (fun _ _ _ _ _ _ us hl => match us, hl with | [_, _], _ => rfl) (by walk_at "len") fun cdv A outer s H vs Q E hr h => ?_
  refine ⟨_, (pss_one (ps_ret (pe_and (pe_callB (r := rIsi K) call_isi (by rfl) T.b_isinstance (by decide +kernel) (pa_cons (pv 1) (pa_cons (pe_gc (v := .ref (He.ga K "Code")) (by rfl) ⟨_, T.g_Code, rfl⟩) pa_nil))) (pe_one (pe_cmpR (r := rEqD K) (op_eqD hr.units) (pe_fldK (K := K) (pv 0) rfl) (pe_fldK (K := K) (pv 1) rfl) (nomark _)))))), ?_⟩
  obtain ⟨ms, p, q, bs, cs, h, g, rfl, tk, c, d, G, J, k⟩ := h
  obtain ⟨dx, pa, ta, ha, kvs, h1, h2, h3, h4, h5⟩ := IsCode.mono same_show c
  obtain ⟨dx2, pa2, ta2, ha2, kvs2, g1, g2, g3, g4, g5⟩ := IsCode.mono same_show d
  walk_at "rd"
  refine a_isO g1 T.c_Code T.i_Code T.q_Code_Code ?_
  walk_at "rd"
  refine ⟨_, _, _, h1, T.c_Code, T.n_Code_parts, _, rfl, _, _, _, g1, T.c_Code, T.n_Code_parts, _, rfl, ?_⟩
  exact a_eqD h2 g2 G.shaped J.shaped k
theorem ok_Code_blocks (T : Tx w K mg) : Met P w K mg base 1 (He.ga K "Code") "blocks" (sp_Code_blocks K) [] := by
  refine met_of T.c_Code T.me_Code_blocks T.D_Code_blocks sc_Code_blocks (fun _ _ _ _ _ _ us hl => match us, hl with | [_], _ => rfl) (by walk_at "len") fun cdv A outer s H vs Q E hr h => ?_
  refine ⟨_, (pss_one (ps_ret (pe_lc rfl sc_Code_blocks.nd (pi_listK (K := K) (pe_fldK (K := K) (pv 0) rfl)) (blkOk_by (own := [("label", 1), ("rows", 2), ("end", 3)]) (N := ["self", "label", "rows", "end"]) (sc := L2.defScope s_Code_blocks) (by decide +kernel)) (fun _ _ _ _ _ => (pg_m (pg_tupK (K := K) (n := 3) rfl (pgs_cons (pg_name (i := 1) sc_Code_blocks.nd rfl (by first | exact Or.inl rfl | exact Or.inr rfl)) (pgs_cons (pg_name (i := 2) sc_Code_blocks.nd rfl (by first | exact Or.inl rfl | exact Or.inr rfl)) (pgs_cons (pg_name (i := 3) sc_Code_blocks.nd rfl (by first | exact Or.inl rfl | exact Or.inr rfl)) pgs_nil)))))) (fun _ _ _ _ _ => pts_nilM) (fun _ _ _ _ _ => (pe_m (pe_tup (pa_cons (pv 1) (pa_cons (pe_callTy (r := rListOf K) call_listOf (by rfl) T.b_list (by decide +kernel) (pa_cons (pv 2) pa_nil)) (pa_cons (pv 3) pa_nil))))))))), ?_⟩
  obtain ⟨ms, p, bs, h, rfl, tk, c, G, k⟩ := h
  obtain ⟨dx, pa, ta, ha, kvs, h1, h2, h3, h4, h5⟩ := c
  walk_at "rd"
  refine a_lc ?_
  walk_at "rd"
  obtain ⟨va, vs, e, hvs, hva⟩ := dp_list h2
  cases e
  have hvs2 : SqL K H pa vs := sqL_same same_show hvs
  refine ⟨_, _, _, same_show _ _ h1, T.c_Code, T.n_Code_parts, _, rfl, pa, rfl, ⟨vs, hvs2⟩, fun D hD => ?_⟩
  refine lc_data (K := K) (ds := bs.map Blk.d) (ms := ms) walk_list hD tk (by rw [List.length_map, sizeLine_eq]; have := G.six; omega) hva (fun H4 s4 => sqL_same s4 hvs2) (fun _ => true) id (fun y d H4 hd4 s4 hD4 hy => ?_) (fun H4 ys s4 e4 hys => ?_)
  · obtain ⟨b, hb, rfl⟩ := List.mem_map.mp hd4
    refine a_t3h hy fun x1 x2 x3 h1 h2 h3 => ?_
    walk_at "rd"
    refine ⟨fun z => z.elim, fun _ => ?_⟩
    obtain ⟨la, ls, rfl, hls, hla⟩ := dp_list h2
    refine ⟨la, ls, rfl, .inl (sqL_same same_show hls), fun l hl => ⟨by rw [sizeLine_eq]; omega, fun q hq => ?_⟩⟩
    have s5 := (same_new (o := HO.lst ls) hl).trans (same_new (o := HO.tup [x1, .ref l, x3]) hq)
    have tkD : Tk H4 (D :: ms) := fun m hm => (List.mem_cons.mp hm).elim (fun z => by rw [z]; exact hD4) (tk.same s4 m)
    refine ⟨s5, .tup (.inl (.inl (new_at (tkD.same (same_new hl)) hq))) (.cons (Dp.mono (Same.hide s5 _) h1) (.cons (.lst (.inl (.inl ?_)) (DpAll.mono (Same.hide s5 _) hla)) (.cons (Dp.mono (Same.hide s5 _) h3) .nil)))⟩
    exact Same.hide (same_new hq) _ _ _ (new_at tkD hl)
  · rw [List.filter_eq_self.mpr fun _ _ => rfl, List.map_id] at hys
    refine k _ _ s4 (.lst (.inl (.inl ?_)) (DpAll.mono (same_less fun a ha => List.mem_cons_of_mem _ ha) hys))
    rw [hide_at (tk.out hD)]
    exact e4
theorem ok_Code_len (T : Tx w K mg) : Met P w K mg base 1 (He.ga K "Code") "__len__" (sp_Code___len__ K) [] := by
  refine met_of T.c_Code T.me_Code___len__ T.D_Code___len__ sc_Code___len__ (fun _ _ _ _ _ _ us hl => match us, hl with | [_], _ => rfl) (by walk_at "len") fun cdv A outer s H vs Q E hr h => ?_
  refine ⟨_, (pss_one (ps_ret (pe_callB (r := rLenQ K) call_lenQ (by rfl) T.b_len (by decide +kernel) (pa_cons (pe_lc2 (vs1 := [4]) rfl sc_Code___len__.nd (pi_listK (K := K) (pe_fldK (K := K) (pv 0) rfl)) (blkOk_by (own := [("label", 1), ("rows", 2), ("end", 3), ("row", 4)]) (N := ["self", "label", "rows", "end", "row"]) (sc := L2.defScope s_Code___len__) (by decide +kernel)) (by decide) (fun _ _ _ _ _ => (pg_m (pg_tupK (K := K) (n := 3) rfl (pgs_cons (pg_name (i := 1) sc_Code___len__.nd rfl (by first | exact Or.inl rfl | exact Or.inr rfl)) (pgs_cons (pg_name (i := 2) sc_Code___len__.nd rfl (by first | exact Or.inl rfl | exact Or.inr rfl)) (pgs_cons (pg_name (i := 3) sc_Code___len__.nd rfl (by first | exact Or.inl rfl | exact Or.inr rfl)) pgs_nil)))))) (fun _ _ _ _ _ => pts_nilM) (fun _ _ _ _ _ => (pi_m (pi_listK (K := K) (pe_op (r := rCatS K) op_catS (pv 2) (pe_lst (pa_cons (pv 3) pa_nil)))))) (fun _ _ _ _ _ => (pg_m (pg_name (i := 4) sc_Code___len__.nd rfl (by first | exact Or.inl rfl | exact Or.inr rfl)))) (fun _ _ _ _ _ => pts_nilM) (fun _ _ _ _ _ => (pe_m (pv 4)))) pa_nil)))), ?_⟩
  obtain ⟨ms, p, bs, h, rfl, tk, c, G, k⟩ := h
  obtain ⟨dx, pa, ta, ha, kvs, h1, h2, h3, h4, h5⟩ := IsCode.mono same_show c
  walk_at "rd"
  refine a_lc2 ?_
  walk_at "rd"
  obtain ⟨va, vs, e, hvs, hva⟩ := dp_list h2
  cases e
  refine ⟨_, _, _, h1, T.c_Code, T.n_Code_parts, _, rfl, pa, rfl, ⟨vs, hvs⟩, fun D hD => ?_⟩
  refine lc2_data (K := K) (ds := bs.map Blk.d) (ms := []) walk_list hD 13 (by rw [hide_nil]; exact hva) (fun H4 s4 => sqL_same s4 hvs) (fun d => match d with
    | .tuple [_, .list rs, e] => rs ++ [e]
    | _ => []) (fun _ e => e) (fun d hd => ?_) (by rw [List.length_map, sizeLine_eq]; have := G.six; omega) (fun y d H4 hd4 s4 hD4 hy => ?_) (fun H4 ys s4 e4 hys => ?_)
  · obtain ⟨b, hb, rfl⟩ := List.mem_map.mp hd
    show (b.rows.map Row.d ++ [b.fin.d]).length ≤ 13
    have := G.many b hb
    rw [List.length_append, List.length_map, List.length_singleton]
    omega
  · obtain ⟨b, hb, rfl⟩ := List.mem_map.mp hd4
    refine a_t3h hy fun x1 x2 x3 g1 g2 g3 => ?_
    walk_at "rd"
    refine ⟨by rw [sizeLine_eq]; omega, fun q hq => ?_⟩
    have s5 := same_new (o := HO.lst [x3]) hq
    have tkD : Tk H4 [D] := fun m hm => by rw [List.mem_singleton.mp hm]; exact hD4
    have e5 : hide (upd H4 q (HO.lst [x3])) [D] q = some (.lst [x3]) := new_at tkD hq
    have g2' := Dp.mono (Same.hide s5 [D]) g2
    have g3' := Dp.mono (Same.hide s5 [D]) g3
    have tk5 : Tk (upd H4 q (HO.lst [x3])) [D] := tkD.same s5
    generalize upd H4 q (HO.lst [x3]) = H5 at *
    refine a_catH g2' (.lst (SqL.of e5) (.cons g3' .nil)) (by have := G.many b hb; rw [List.length_map, sizeLine_eq]; simp only [List.length_cons, List.length_nil]; omega) fun q2 ws hq2 hws => ?_
    have s6 := same_new (o := HO.lst ws) hq2
    have e6 : hide (upd H5 q2 (HO.lst ws)) [D] q2 = some (.lst ws) := new_at tk5 hq2
    walk_at "rd"
    refine ⟨⟨ws, SqL.of upd_same⟩, s5.trans s6, ws, _, walk_list, DpAll.mono (Same.hide s6 [D]) hws, fun H7 s7 => sqL_same same_show (SqL.of (s7 _ _ e6)), fun y e H7 he s7 hD7 hy => ?_⟩
    walk_at "rd"
    exact ⟨Same.refl _, hy⟩
  · refine ⟨D, ys, rfl, .inl (SqL.of e4), ?_⟩
    have e := DpAll.length hys
    rw [e, List.map_map]
    have q : ((bs.map ((fun d => (match d with
      | .tuple [_, .list rs, e] => rs ++ [e]
      | _ => []).map fun e => e) ∘ Blk.d)).flatten).length = (bs.map fun b => b.rows.length + 1).sum := by
      rw [List.length_flatten, List.map_map]
      congr 1
      refine List.map_congr_left fun b _ => ?_
      show ((b.rows.map Row.d ++ [b.fin.d]).map fun e => e).length = _
      simp
    rw [q]
    exact k _ s4
end
end Pb

/-! W8 -/
set_option Elab.async false
set_option linter.all false
set_option maxRecDepth 100000
set_option maxHeartbeats 4000000
namespace Pb
open PySem PySem.Spec PyProof.Rows L2
open C8 (Cal Mak Met pe_c pe_mk pe_mt pe_mt0 pe_gc fnScope_by)
/-! short words -/
local macro_rules | `(tactic| walk_at "rd") => `(tactic| try simp only [tVar, tC, tAdd, tSub, t2I, tIsN, tNotN, tB, tAnd, tOr, tNot, tAndV, tOrV, tNotV, tIf, tSeq, tPar, tPar3, tNext, tBreak, tCont, tDrop, tRet, tRetN, tIfS, gName, gNil, gCons, gTup, gSub, tAsg, tAug, ipI, iList, iTup, iRng1, iRng2, iStr, iEnum, iZip,
  tOp, tUn, rI, rI0, rU, tTest, tChain, tFld, sFld, sFldAug, L2.rAdd, L2.rSub, tNil, tCons, tTup, tLst, tCall, tMeth, tMake, tCB, tNoPart, tPart, tSl, tBM0, tBM, tDGet, tDGet1, tDGet2, tDIn, tDNotIn, sDPut, tDNewK, rEq, rNe, scal_ii, scal_ss, scal_bb, scal_nn, scal_ni, scal_in, scal_ns, scal_sn, scal_is, scal_si, List.take_succ_cons, List.take_zero, List.drop_succ_cons, List.drop_zero, upd_same, upd_upd, and_assoc, tKGet, gStar, tDisp, tPairs, tYes,
  L2.start, List.map_cons, List.map_nil, List.length_cons, List.length_nil, List.cons_append, List.nil_append, List.append_nil, List.replicate, Nat.sub_self, Nat.add_sub_cancel, Nat.reduceAdd, Nat.reduceSub, List.set_cons_zero, List.set_cons_succ, List.getElem?_cons_zero, List.getElem?_cons_succ,
  Option.some.injEq, V.int.injEq, V.bl.injEq, V.str.injEq, V.ref.injEq, exists_eq_left', exists_eq_left, exists_eq', exists_eq, true_and, and_true, if_true, if_false, Bool.false_eq_true, List.cons.injEq, Bool.not_true, Bool.not_false, cxK, cxP, cxW, ite_true, ite_false, wipe, reduceCtorEq, and_self, decide_true, decide_false, exists_and_left, exists_const, decide_eq_true_eq])
local macro_rules | `(tactic| walk_at "len") => `(tactic| (intro vs H Q E h; repeat (first | (obtain ⟨e, _⟩ := h; subst e; rfl) | (obtain ⟨_, h⟩ := h))))
local macro_rules | `(tactic| walk_at "wd") => `(tactic| simp (config := {decide := true}) only [V.str.injEq, scal_ss, true_and, if_true, if_false])

/-- a list or a tuple of whole numbers -/
def IntSeq (K : PySem.W.Frag) (H : Hp) (v : V) (ns : List Int) : Prop := ∃ a, v = .ref a ∧ (SqL K H a (ns.map V.int) ∨ SqT K H a (ns.map V.int))
theorem IntSeq.mono {K : PySem.W.Frag} {H H' : Hp} {v : V} {ns : List Int} (s : Same H H') (h : IntSeq K H v ns) : IntSeq K H' v ns := by
  obtain ⟨a, e, h⟩ := h
  exact ⟨a, e, h.imp (sqL_same s) (sqT_same s)⟩
def tallyF (wl tl : Addr) (most steps : Int) (hd : V) : List (Str × V) := [("worths", .ref wl), ("most", .int most), ("heard", hd), ("told_so_far", .ref tl), ("steps_done", .int steps)]
def ranF (tl pl : Addr) (steps : Int) : List (Str × V) := [("told", .ref tl), ("pile", .ref pl), ("steps", .int steps)]
def dryF (tl : Addr) (label : Str) (row : Int) : List (Str × V) := [("told", .ref tl), ("label", .str label), ("row", .int row)]
def spentF (tl : Addr) : List (Str × V) := [("told", .ref tl)]
/-- a new instance at p, all fields of it still to be set -/
def NewAt (H0 H : Hp) (C p dx : Addr) : Prop := H = upd (upd H0 dx (.own p)) p (.ins C dx []) ∧ H0 p = none ∧ H0 dx = none ∧ dx ≠ p
theorem NewAt.same {H0 H : Hp} {C p dx : Addr} (h : NewAt H0 H C p dx) : Same H0 H := by
  obtain ⟨rfl, h1, h2, h3⟩ := h
  exact (same_new h2).trans (same_new (by rw [upd_ne (Ne.symm h3)]; exact h1))
theorem NewAt.at {H0 H : Hp} {C p dx : Addr} (h : NewAt H0 H C p dx) : H p = some (.ins C dx []) := by
  obtain ⟨rfl, h1, h2, h3⟩ := h
  exact upd_same
theorem NewAt.keep {H0 H H' : Hp} {C p dx : Addr} (h : NewAt H0 H C p dx) (s : Sx [p] H H') : Same H0 H' := fun b o e => by
  have nb : b ∉ [p] := fun z => by rw [List.mem_singleton.mp z, h.2.1] at e; cases e
  exact s b o nb (h.same b o e)
theorem Sx.new {ms : List Addr} {H : Hp} {p : Addr} {o : HO} (h : H p = none) : Sx ms H (L2.upd H p o) := Sx.of (same_new h)
theorem Sx.at {p : Addr} {H : Hp} {o : HO} : Sx [p] H (L2.upd H p o) := Sx.upd (List.mem_singleton.mpr rfl)
def sp_Ran___init__ (K : PySem.W.Frag) : Sp := fun vs H Q _ => ∃ p dx H0 v u told pile steps, vs = [.ref p, v, u, .int steps] ∧ NewAt H0 H (He.ga K "Ran") p dx ∧ IntSeq K H0 v told ∧ IntSeq K H0 u pile ∧
  ∀ H' tl pl, Same H0 H' → H0 tl = none → H0 pl = none → tl ≠ pl → H' p = some (.ins (He.ga K "Ran") dx (ranF tl pl steps)) → H' tl = some (.lst (told.map V.int)) → H' pl = some (.lst (pile.map V.int)) → Q .non H'
def sp_Dry___init__ (K : PySem.W.Frag) : Sp := fun vs H Q _ => ∃ p dx H0 v told label row, vs = [.ref p, v, .str label, .int row] ∧ NewAt H0 H (He.ga K "Dry") p dx ∧ IntSeq K H0 v told ∧
  ∀ H' tl, Same H0 H' → H0 tl = none → H' p = some (.ins (He.ga K "Dry") dx (dryF tl label row)) → H' tl = some (.lst (told.map V.int)) → Q .non H'
def sp_Spent___init__ (K : PySem.W.Frag) : Sp := fun vs H Q _ => ∃ p dx H0 v told, vs = [.ref p, v] ∧ NewAt H0 H (He.ga K "Spent") p dx ∧ IntSeq K H0 v told ∧
  ∀ H' tl, Same H0 H' → H0 tl = none → H' p = some (.ins (He.ga K "Spent") dx (spentF tl)) → H' tl = some (.lst (told.map V.int)) → Q .non H'
def sp_Tally___init__ (K : PySem.W.Frag) : Sp := fun vs H Q _ => ∃ p dx H0 v ns most hd, vs = [.ref p, v, .int most, hd] ∧ NewAt H0 H (He.ga K "Tally") p dx ∧ IntSeq K H0 v ns ∧
  ∀ H' wl tl, Same H0 H' → H0 wl = none → H0 tl = none → wl ≠ tl → H' p = some (.ins (He.ga K "Tally") dx (tallyF wl tl most 0 hd)) → H' wl = some (.lst (ns.map V.int)) → H' tl = some (.lst []) → Q .non H'
def sp_Tally_step (K : PySem.W.Frag) : Sp := fun vs H Q _ => ∃ p dx wl tl most steps hd, vs = [.ref p] ∧ H p = some (.ins (He.ga K "Tally") dx (tallyF wl tl most steps hd)) ∧
  (if steps = most then Q (.bl false) H else Q (.bl true) (upd H p (.ins (He.ga K "Tally") dx (tallyF wl tl most (steps + 1) hd))))
def sp_Tally_tell (K : PySem.W.Frag) : Sp := fun vs H Q _ => ∃ p dx wl tl most steps told n, vs = [.ref p, .int n] ∧ H p = some (.ins (He.ga K "Tally") dx (tallyF wl tl most steps .non)) ∧ H tl = some (.lst (told.map V.int)) ∧ told.length < sizeLine ∧
  Q .non (upd H tl (.lst ((told ++ [n]).map V.int)))
def sp_Tally_hear (K : PySem.W.Frag) : Sp := fun vs H Q _ => ∃ p dx wl tl most steps hd ns, vs = [.ref p] ∧ H p = some (.ins (He.ga K "Tally") dx (tallyF wl tl most steps hd)) ∧ H wl = some (.lst (ns.map V.int)) ∧
  (match ns with
  | [] => ∀ H', Same H H' → Q .non H'
  | n :: r => ∀ H', Same H H' → Q (.int n) (upd H' wl (.lst (r.map V.int))))
theorem seqIndex_0 {n : Nat} : seqIndex? 0 (n + 1) = some 0 := by
  unfold seqIndex?
  simp
section
variable {P : Program} {w : World} {K : PySem.W.Frag} {mg : Str → Option Value} {base : Heap}
theorem ok_Spent_init (T : Tx w K mg) : Mak P w K mg base 1 "Spent" (He.ga K "Spent") (sp_Spent___init__ K) [] := by
  refine mak_of T.mk_Spent T.g_Spent T.D_Spent___init__ sc_Spent___init__ (fun _ _ _ _ _ _ us hl => match us, hl with | [_, _], _ => rfl) (by walk_at "len") fun cdv A outer s H vs Q E hr h => ?_
  refine ⟨_, (pss_one (ps_fld (pv 0) (pe_callTy (r := rListOf K) call_listOf (by rfl) T.b_list (by decide +kernel) (pa_cons (pv 1) pa_nil)) rfl)), ?_⟩
  obtain ⟨p, dx, H0, v, told, rfl, hn, hv, k⟩ := h
  obtain ⟨a, rfl, ha⟩ := IntSeq.mono hn.same hv
  walk_at "rd"
  refine ⟨a, _, rfl, ha, fun l hl => ?_⟩
  have hp1 := keep_at (u := HO.lst (told.map V.int)) hn.at hl
  refine ⟨_, _, _, hp1, T.c_Spent, T.n_Spent_told, by show 0 < 1000; decide, ?_⟩
  have nlp : l ≠ p := fun z => by rw [z, hn.at] at hl; cases hl
  have hl0 := hn.same.free hl
  refine k _ l (hn.keep ((Sx.new hl).trans Sx.at)) hl0 (upd_same.trans rfl) ?_
  rw [upd_ne nlp, upd_same]
theorem ok_Dry_init (T : Tx w K mg) : Mak P w K mg base 1 "Dry" (He.ga K "Dry") (sp_Dry___init__ K) [] := by
  refine mak_of T.mk_Dry T.g_Dry T.D_Dry___init__ sc_Dry___init__ (fun _ _ _ _ _ _ us hl => match us, hl with | [_, _, _, _], _ => rfl) (by walk_at "len") fun cdv A outer s H vs Q E hr h => ?_
  refine ⟨_, (pss_cons (ps_fld (pv 0) (pe_callTy (r := rListOf K) call_listOf (by rfl) T.b_list (by decide +kernel) (pa_cons (pv 1) pa_nil)) rfl)
    (pss_cons (ps_fld (pv 0) (pv 2) rfl)
    (pss_one (ps_fld (pv 0) (pv 3) rfl)))), ?_⟩
  obtain ⟨p, dx, H0, v, told, label, row, rfl, hn, hv, k⟩ := h
  obtain ⟨a, rfl, ha⟩ := IntSeq.mono hn.same hv
  walk_at "rd"
  refine ⟨a, _, rfl, ha, fun l hl => ?_⟩
  have hp1 := keep_at (u := HO.lst (told.map V.int)) hn.at hl
  have nlp : l ≠ p := fun z => by rw [z, hn.at] at hl; cases hl
  have hl0 := hn.same.free hl
  refine ⟨_, _, _, hp1, T.c_Dry, T.n_Dry_told, by show 0 < 1000; decide, _, _, _, rfl, T.c_Dry, T.n_Dry_label, by show 1 < 1000; decide, _, _, _, rfl, T.c_Dry, T.n_Dry_row, by show 2 < 1000; decide, ?_⟩
  refine k _ l (hn.keep ((Sx.new hl).trans Sx.at)) hl0 (upd_same.trans rfl) ?_
  rw [upd_ne nlp, upd_same]
theorem ok_Ran_init (T : Tx w K mg) : Mak P w K mg base 1 "Ran" (He.ga K "Ran") (sp_Ran___init__ K) [] := by
  refine mak_of T.mk_Ran T.g_Ran T.D_Ran___init__ sc_Ran___init__ (fun _ _ _ _ _ _ us hl => match us, hl with | [_, _, _, _], _ => rfl) (by walk_at "len") fun cdv A outer s H vs Q E hr h => ?_
  refine ⟨_, (pss_cons (ps_fld (pv 0) (pe_callTy (r := rListOf K) call_listOf (by rfl) T.b_list (by decide +kernel) (pa_cons (pv 1) pa_nil)) rfl)
    (pss_cons (ps_fld (pv 0) (pe_callTy (r := rListOf K) call_listOf (by rfl) T.b_list (by decide +kernel) (pa_cons (pv 2) pa_nil)) rfl)
    (pss_one (ps_fld (pv 0) (pv 3) rfl)))), ?_⟩
  obtain ⟨p, dx, H0, v, u, told, pile, steps, rfl, hn, hv, hu, k⟩ := h
  obtain ⟨a, rfl, ha⟩ := IntSeq.mono hn.same hv
  obtain ⟨b, rfl, hb⟩ := hu
  walk_at "rd"
  refine ⟨a, _, rfl, ha, fun l hl => ?_⟩
  have hp1 := keep_at (u := HO.lst (told.map V.int)) hn.at hl
  have nlp : l ≠ p := fun z => by rw [z, hn.at] at hl; cases hl
  have hl0 := hn.same.free hl
  refine ⟨_, _, _, hp1, T.c_Ran, T.n_Ran_told, by show 0 < 1000; decide, ?_⟩
  have s1 : Same H0 (upd (upd H l (.lst (told.map V.int))) p (.ins (He.ga K "Ran") dx (putF (Str.ofString "told") (.ref l) []))) := hn.keep ((Sx.new hl).trans Sx.at)
  have el : upd (upd H l (.lst (told.map V.int))) p (.ins (He.ga K "Ran") dx (putF (Str.ofString "told") (.ref l) [])) l = some (.lst (told.map V.int)) := by rw [upd_ne nlp, upd_same]
  have ep : upd (upd H l (.lst (told.map V.int))) p (.ins (He.ga K "Ran") dx (putF (Str.ofString "told") (.ref l) [])) p = some (.ins (He.ga K "Ran") dx (putF (Str.ofString "told") (.ref l) [])) := upd_same
  refine ⟨b, _, rfl, hb.imp (sqL_same s1) (sqT_same s1), fun l2 hl2 => ⟨_, _, _, keep_at ep hl2, T.c_Ran, T.n_Ran_pile, by show 1 < 1000; decide, _, _, _, rfl, T.c_Ran, T.n_Ran_steps, by show 2 < 1000; decide, ?_⟩⟩
  have n12 : l ≠ l2 := ne_of_none el hl2
  have n2p : l2 ≠ p := (ne_of_none ep hl2).symm
  refine k _ l l2 (fun c o e => ?_) hl0 (s1.free hl2) n12 (upd_same.trans rfl) ?_ ?_
  · rw [upd_ne (ne_of_none e hn.2.1), upd_ne (ne_of_none (s1 _ _ e) hl2)]
    exact s1 _ _ e
  · rw [upd_ne nlp, upd_ne n12, el]
  · rw [upd_ne n2p, upd_same]
theorem ok_Tally_init (T : Tx w K mg) : Mak P w K mg base 1 "Tally" (He.ga K "Tally") (sp_Tally___init__ K) [] := by
  refine mak_of T.mk_Tally T.g_Tally T.D_Tally___init__ sc_Tally___init__ (fun _ _ _ _ _ _ us hl => match us, hl with | [_, _, _, _], _ => rfl) (by walk_at "len") fun cdv A outer s H vs Q E hr h => ?_
  refine ⟨_, (pss_cons (ps_fld (pv 0) (pe_callTy (r := rListOf K) call_listOf (by rfl) T.b_list (by decide +kernel) (pa_cons (pv 1) pa_nil)) rfl)
    (pss_cons (ps_fld (pv 0) (pv 2) rfl)
    (pss_cons (ps_fld (pv 0) (pv 3) rfl)
    (pss_cons (ps_fld (pv 0) (pe_lst pa_nil) rfl)
    (pss_one (ps_fld (pv 0) pe_int rfl)))))), ?_⟩
  obtain ⟨p, dx, H0, v, ns, most, hd, rfl, hn, hv, k⟩ := h
  obtain ⟨a, rfl, ha⟩ := IntSeq.mono hn.same hv
  walk_at "rd"
  refine ⟨a, _, rfl, ha, fun l hl => ?_⟩
  have hp1 := keep_at (u := HO.lst (ns.map V.int)) hn.at hl
  have nlp : l ≠ p := fun z => by rw [z, hn.at] at hl; cases hl
  have hl0 := hn.same.free hl
  refine ⟨_, _, _, hp1, T.c_Tally, T.n_Tally_worths, by show 0 < 1000; decide, _, _, _, rfl, T.c_Tally, T.n_Tally_most, by show 1 < 1000; decide, _, _, _, rfl, T.c_Tally, T.n_Tally_heard, by show 2 < 1000; decide, by rw [sizeLine_eq]; omega, fun l2 hl2 => ?_⟩
  have ep := keep_at (u := HO.lst []) (upd_same (H := upd H l (.lst (ns.map V.int))) (a := p) (o := .ins (He.ga K "Tally") dx [(Str.ofString "worths", .ref l), (Str.ofString "most", .int most), (Str.ofString "heard", hd)])) hl2
  refine ⟨_, _, _, ep, T.c_Tally, T.n_Tally_told_so_far, by show 3 < 1000; decide, _, _, _, rfl, T.c_Tally, T.n_Tally_steps_done, by show 4 < 1000; decide, ?_⟩
  have s1 : Same H0 (upd (upd H l (.lst (ns.map V.int))) p (.ins (He.ga K "Tally") dx [(Str.ofString "worths", .ref l), (Str.ofString "most", .int most), (Str.ofString "heard", hd)])) := hn.keep ((Sx.new hl).trans Sx.at)
  have el : upd (upd H l (.lst (ns.map V.int))) p (.ins (He.ga K "Tally") dx [(Str.ofString "worths", .ref l), (Str.ofString "most", .int most), (Str.ofString "heard", hd)]) l = some (.lst (ns.map V.int)) := by rw [upd_ne nlp, upd_same]
  have n12 : l ≠ l2 := ne_of_none el hl2
  have n2p : l2 ≠ p := (ne_of_none upd_same hl2).symm
  refine k _ l l2 (fun c o e => ?_) hl0 (s1.free hl2) n12 (upd_same.trans rfl) ?_ ?_
  · rw [upd_ne (ne_of_none e hn.2.1)]
    refine (upd_ne (ne_of_none (s1 _ _ e) hl2)).trans ?_
    exact s1 _ _ e
  · rw [upd_ne nlp]
    exact (upd_ne n12).trans el
  · rw [upd_ne n2p]
    exact upd_same
theorem ok_Tally_step (T : Tx w K mg) : Met P w K mg base 1 (He.ga K "Tally") "step" (sp_Tally_step K) [] := by
  refine met_of T.c_Tally T.me_Tally_step T.D_Tally_step sc_Tally_step (fun _ _ _ _ _ _ us hl => match us, hl with | [_], _ => rfl) (by walk_at "len") fun cdv A outer s H vs Q E hr h => ?_
  refine ⟨_, (pss_cons (ps_if (pt_cmpR op_eq (pe_fldK (K := K) (pv 0) rfl) (pe_fldK (K := K) (pv 0) rfl) (nomark _)) (pss_one (ps_ret pe_bl)) pss_nil)
    (pss_cons (ps_fldaug (pv 0) pe_int in_add)
    (pss_one (ps_ret pe_bl)))), ?_⟩
  obtain ⟨p, dx, wl, tl, most, steps, hd, rfl, hp, k⟩ := h
  walk_at "rd"
  refine ⟨_, _, _, hp, T.c_Tally, T.n_Tally_steps_done, _, rfl, _, _, _, hp, T.c_Tally, T.n_Tally_most, _, rfl, rfl, ?_⟩
  by_cases e : steps = most
  · rw [if_pos e] at k
    rw [if_pos (by rw [e])]
    exact k
  · rw [if_neg e] at k
    rw [if_neg fun z => e (V.int.inj z)]
    exact ⟨_, _, _, hp, T.c_Tally, T.n_Tally_steps_done, _, rfl, _, rfl, _, _, hp, by show 5 < 1000; decide, k⟩
theorem ok_Tally_tell (T : Tx w K mg) : Met P w K mg base 1 (He.ga K "Tally") "tell" (sp_Tally_tell K) [] := by
  refine met_of T.c_Tally T.me_Tally_tell T.D_Tally_tell sc_Tally_tell (fun _ _ _ _ _ _ us hl => match us, hl with | [_, _], _ => rfl) (by walk_at "len") fun cdv A outer s H vs Q E hr h => ?_
  refine ⟨_, (pss_cons (ps_expr (pe_bm PySem.F.plainAttrs_list PySem.F.slot_list_append PySem.F.type_list_append mt_append (pe_fldK (K := K) (pv 0) rfl) (pa_cons (pv 1) pa_nil)))
    (pss_one (ps_if (pt_cmpR op_notN (pe_fldK (K := K) (pv 0) rfl) pe_non (nomark _)) (pss_one ps_never) pss_nil))), ?_⟩
  obtain ⟨p, dx, wl, tl, most, steps, told, n, rfl, hp, ht, hz, k⟩ := h
  walk_at "rd"
  refine ⟨_, _, _, hp, T.c_Tally, T.n_Tally_told_so_far, _, rfl, .inl ⟨rfl, _, SqL.of ht⟩, ?_⟩
  have nlp : tl ≠ p := ne_of ht hp (by intro z; cases z)
  refine ⟨tl, _, _, rfl, rfl, ht, by rw [List.length_map]; exact hz, ?_⟩
  refine ⟨_, _, _, (upd_ne (Ne.symm nlp)).trans hp, T.c_Tally, T.n_Tally_heard, _, rfl, ?_⟩
  rw [if_neg (by decide)]
  rw [List.map_append] at k
  exact k
theorem ok_Tally_hear (T : Tx w K mg) : Met P w K mg base 1 (He.ga K "Tally") "hear" (sp_Tally_hear K) [] := by
  refine met_of T.c_Tally T.me_Tally_hear T.D_Tally_hear sc_Tally_hear (fun _ _ _ _ _ _ us hl => match us, hl with | [_], _ => rfl) (by walk_at "len") fun cdv A outer s H vs Q E hr h => ?_
  refine ⟨_, (pss_one (ps_ret (pe_ifExp (pt_cmpR (r := rNeD K) (op_neD hr.units) (pe_fldK (K := K) (pv 0) rfl) (pe_lst pa_nil) (nomark _)) (pe_bm PySem.F.plainAttrs_list PySem.F.slot_list_pop PySem.F.type_list_pop mt_popAt (pe_fldK (K := K) (pv 0) rfl) (pa_cons pe_int pa_nil)) pe_non))), ?_⟩
  obtain ⟨p, dx, wl, tl, most, steps, hd, ns, rfl, hp, hw, k⟩ := h
  walk_at "rd"
  refine ⟨_, _, _, hp, T.c_Tally, T.n_Tally_worths, _, rfl, by rw [sizeLine_eq]; omega, fun q hq => ?_⟩
  have s1 := same_new (o := HO.lst []) hq
  have hp1 := s1 _ _ hp
  have hw1 := s1 _ _ hw
  have hq1 : upd H q (HO.lst []) q = some (.lst []) := upd_same
  generalize upd H q (HO.lst []) = H1 at *
  refine a_neD (d := .list (ns.map PyData.int)) (e := .list []) (.lst (SqL.of hw1) (DpAll.ints ns)) (.lst (SqL.of hq1) .nil) (shaped_of (n := 1) (shp_list fun d hd => ?_) (by decide)) rfl ?_
  · obtain ⟨i, _, rfl⟩ := List.mem_map.mp hd
    exact shp_int
  cases ns with
  | nil => exact ⟨_, rfl, k H1 s1⟩
  | cons n r =>
    refine ⟨_, rfl, ?_⟩
    have e : (!PyData.eqv (.list ((n :: r).map PyData.int)) (.list [])) = true := by simp [PyData.eqv, PyData.eqvAll]
    rw [if_pos e]
    refine ⟨_, _, _, hp1, T.c_Tally, T.n_Tally_worths, _, rfl, .inl ⟨rfl, _, SqL.of hw1⟩, ?_⟩
    exact ⟨wl, _, 0, 0, .int n, rfl, rfl, hw1, by decide, by decide, seqIndex_0, rfl, k H1 s1⟩
end
end Pb

/-! PbKw2 -/
set_option Elab.async false
set_option linter.all false
set_option maxRecDepth 100000
set_option maxHeartbeats 4000000
/-! Pb: classes whose __init__ has keyword-only parameters -/
namespace Pb
open PySem PySem.Spec PyProof.Rows L2
structure KMak (P : Program) (w : World) (K : PySem.W.Frag) (mg : Str → Option Value) (base : Heap) (k : Nat) (x : Str) (C : Addr) (sp : Sp) (ps : List Str) (st : Stmt) (qual : Str) (kws : List (Str × V)) : Prop where
  ex : ∃ f fd, Mk K C f ∧ FnOk P w K mg base CX0 k f fd ps sp ∧ mg x = some (.ref C) ∧ FunD K "__init__" qual (L2.defArgs st) (L2.defBody st) (L2.defScope st) [] kws f fd
section
variable {P : Program} {w : World} {K : PySem.W.Frag} {mg : Str → Option Value} {base : Heap}
theorem kmak_of {x qual : Str} {C : Addr} {st : Stmt} {f : Addr} {N ps : List Str} {k : Nat} {sp : Sp} {kws : List (Str × V)} (M : Mk K C f) (g : mg x = some (.ref C)) (D : FnD K "__init__" qual st [] kws f) (S : FnScope N ps (L2.defScope st))
    (len : ∀ vs H Q E, sp vs H Q E → vs.length = ps.length)
    (hbody : ∀ (cdv : Value) (A : Around) (outer : List Env) (s : Shared) (H : Hp) (vs : List V) (Q : VK) (E : XK), Room k (A.deeper (envOfC qual (L2.defScope st) s.heap.objs.size f cdv)) → sp vs H Q E →
      ∃ t, PSs (cxOf CX0 P w K mg base N qual (L2.defScope st) f cdv A outer s H E).nox (L2.defBody st) t ∧ t { nx := fun _ H' => Q .non H', rt := Q } (start N vs) H) : KMak P w K mg base (k + 1) x C sp ps st qual kws := by
  obtain ⟨fd, F⟩ := D
  refine ⟨f, fd, M, F.ok S len fun cdv A outer s H vs Q E hr h => ?_, g, F⟩
  obtain ⟨t, h1, h2⟩ := hbody cdv A outer s H vs Q E hr h
  exact ⟨t, h1.nox, h2⟩
end
section
variable {X : Cx} {k j : Nat} {x qual : Str} {C : Addr} {sp : Sp} {ps : List Str} {st : Stmt} {kws : List (Str × V)} {p pos : Pos} {e : Expr} {es : List Expr} {kwe : List Keyword} {t tk : TA}
/-- C(e, .., k = v, ..) -/
theorem pe_mkK (c : KMak X.prog X.w X.K X.mg X.base k x C sp ps st qual kws) (hr : Room j X.A) (hk : k + 1 ≤ j) (hg : Gl X x) (n : Nat) (ks : List Str) (ms : List (Str × V)) (g : {α : Type} → List α → List α → List α → List α) (hkws : kws ≠ []) (hms : ∀ q ∈ ms, q ∈ kws)
    (hrel : ∀ {vs mz zs : List V} {us mv ws : List Value}, Vals vs us → Vals mz mv → Vals zs ws → Vals (g vs mz zs) (g us mv ws))
    (h : ∀ (D : Addr) (doc pm : Value) (an : Option Addr) (cdv ct : Value) (us mv ws : List Value), us.length = n + 1 → mv.length = ms.length → ws.length = ks.length →
      KwChain D ((ms.map (·.1)).zip mv) (bindArgs (PySem.W.fnOf "__init__" qual (L2.defArgs st) (L2.defBody st) (L2.defScope st) .none (.ref D) doc pm an cdv ct) ⟨us, ks.zip ws⟩) (ps.zip (g us mv ws)))
    (ha : PA X (e :: es) t) (hkw : PK X kwe tk) (hall : (backToKw pos (keywordEach kwe X.env)).all (·.1.isSome) = true := by rfl) (hks : (backToKw pos (keywordEach kwe X.env)).filterMap (·.1) = ks := by rfl)
    (hdb : (x == ("__debug__" : Str)) = false := by decide) (he : starEach (e :: es) X.env = (false, eval e X.env) :: starEach es X.env := by rfl)
    (hpl : ((backTo pos (starEach (e :: es) X.env)).any (·.1) || (backToKw pos (keywordEach kwe X.env)).any (·.1.isNone)) = false := by rfl) :
    PE X (.Call (.Name x p) (e :: es) kwe pos) (tMakeK C n ks.length sp (fun vs zs => g vs (ms.map (·.2)) zs) C8.E0 t tk) := by
  obtain ⟨f, fd, M, F, hm, D⟩ := c.ex
  obtain ⟨mv, hb⟩ := D.kbinds0 (ps := ps) (n + 1) ks ms g hkws hms hrel h
  exact pe_makeK M F (hr.mono hk) hg hm hb C8.pass0 ha hkw hall hks hdb he hpl
end
end Pb

/-! W11 -/
set_option Elab.async false
set_option linter.all false
set_option maxRecDepth 100000
set_option maxHeartbeats 4000000
namespace Pb
open PySem PySem.Spec PyProof.Rows L2
open C8 (Cal Mak Met pe_c pe_mk pe_mt pe_mt0 pe_gc fnScope_by)
/-! short words -/
local macro_rules | `(tactic| walk_at "rd") => `(tactic| try simp only [tVar, tC, tAdd, tSub, t2I, tIsN, tNotN, tB, tAnd, tOr, tNot, tAndV, tOrV, tNotV, tIf, tSeq, tPar, tPar3, tNext, tBreak, tCont, tDrop, tRet, tRetN, tIfS, gName, gNil, gCons, gTup, gSub, tAsg, tAug, ipI, iList, iTup, iRng1, iRng2, iStr, iEnum, iZip,
  tOp, tUn, rI, rI0, rU, tTest, tChain, tFld, sFld, sFldAug, L2.rAdd, L2.rSub, tNil, tCons, tTup, tLst, tCall, tMeth, tMake, tCB, tNoPart, tPart, tSl, tBM0, tBM, tDGet, tDGet1, tDGet2, tDIn, tDNotIn, sDPut, tDNewK, rEq, rNe, scal_ii, scal_ss, scal_bb, scal_nn, scal_ni, scal_in, scal_ns, scal_sn, scal_is, scal_si, List.take_succ_cons, List.take_zero, List.drop_succ_cons, List.drop_zero, upd_same, upd_upd, and_assoc, tKGet, gStar, tDisp, tPairs, tYes,
  L2.start, List.map_cons, List.map_nil, List.length_cons, List.length_nil, List.cons_append, List.nil_append, List.append_nil, List.replicate, Nat.sub_self, Nat.add_sub_cancel, Nat.reduceAdd, Nat.reduceSub, List.set_cons_zero, List.set_cons_succ, List.getElem?_cons_zero, List.getElem?_cons_succ,
  Option.some.injEq, V.int.injEq, V.bl.injEq, V.str.injEq, V.ref.injEq, exists_eq_left', exists_eq_left, exists_eq', exists_eq, true_and, and_true, if_true, if_false, Bool.false_eq_true, List.cons.injEq, Bool.not_true, Bool.not_false, cxK, cxP, cxW, ite_true, ite_false, wipe, reduceCtorEq, and_self, decide_true, decide_false, exists_and_left, exists_const, decide_eq_true_eq])
local macro_rules | `(tactic| walk_at "len") => `(tactic| (intro vs H Q E h; repeat (first | (obtain ⟨e, _⟩ := h; subst e; rfl) | (obtain ⟨_, h⟩ := h))))
local macro_rules | `(tactic| walk_at "wd") => `(tactic| simp (config := {decide := true}) only [V.str.injEq, scal_ss, true_and, if_true, if_false])

/-! made code -/
inductive Mv where
  | fill | spill
def Mv.word : Mv → Str
  | .fill => "fill"
  | .spill => "spill"
def Mv.d (m : Mv) : PyData := .tuple [.str m.word]
inductive MRow where
  | r (r : Row) | m (m : Mv)
def MRow.d : MRow → PyData
  | .r a => a.d
  | .m a => a.d
structure MBlk where
  label : Str
  beg : Nat
  rows : List MRow
  fin : Fin
  tails : List (List Mv)
def tailD (t : List Mv) : PyData := .list (t.map Mv.d)
def mrowsD (rs : List MRow) : PyData := .list (rs.map MRow.d)
def MBlk.d (b : MBlk) : PyData := .tuple [.str b.label, .int b.beg, mrowsD b.rows, b.fin.d, .list (b.tails.map tailD)]
def madesD (bs : List MBlk) : PyData := .list (bs.map MBlk.d)
def moveD (d : PyData) : Bool := tupleOf d 1 && match d with
  | .tuple (.str w :: _) => decide (w ∈ c_MOVES)
  | _ => false
def madeRowD (d : PyData) : Bool := rowD d || moveD d
def areRowsD (d : PyData) (n : Int) (f : PyData → Bool) : Bool := match d with
  | .list rs => decide ((rs.length : Int) ≤ n) && rs.all f
  | _ => false
def madeBlockD : PyData → Bool
  | .tuple [a, b, c, e, f] => nameD a && (within b 0 5 && (areRowsD c 99 madeRowD && (endD e && (match f with
    | .list ts => ts.all fun t => areRowsD t 9 moveD
    | _ => false))))
  | _ => false
def shM : PyData → Prop
  | .tuple [a, _, _, e, f] => short a ∧ shortT e ∧ (match f with
    | .list ts => ts.length < sizeLine
    | _ => True)
  | _ => True
def sp_is_move (K : PySem.W.Frag) : Sp := fun vs H Q _ => ∃ ms v d, vs = [v] ∧ Tk H ms ∧ Dp K (hide H ms) v d ∧ ∀ H', Same H H' → Q (.bl (moveD d)) H'
def sp_is_made_row (K : PySem.W.Frag) : Sp := fun vs H Q _ => ∃ ms v d, vs = [v] ∧ Tk H ms ∧ Dp K (hide H ms) v d ∧ ∀ H', Same H H' → Q (.bl (madeRowD d)) H'
def sp_are_rows (K : PySem.W.Frag) : Sp := fun vs H Q _ => ∃ ms v d n a f, vs = [v, .int n, .ref a] ∧ ((a = He.ga K (Str.ofString "is_made_row") ∧ f = madeRowD) ∨ (a = He.ga K (Str.ofString "is_move") ∧ f = moveD)) ∧ n ≤ 1000 ∧ Tk H ms ∧ Dp K (hide H ms) v d ∧ ∀ H', Same H H' → Q (.bl (areRowsD d n f)) H'
def sp_is_made_block (K : PySem.W.Frag) : Sp := fun vs H Q _ => ∃ ms v d, vs = [v] ∧ Tk H ms ∧ Dp K (hide H ms) v d ∧ shM d ∧ ∀ H', Same H H' → Q (.bl (madeBlockD d)) H'
def sp_check_boxes (K : PySem.W.Frag) : Sp := fun vs H Q _ => ∃ B : Nat, vs = [.int B] ∧ 3 ≤ B ∧ B ≤ 5 ∧ ∀ H', Same H H' → Q .non H'
def sp_copied (K : PySem.W.Frag) : Sp := fun vs H Q _ => ∃ ms v bs, vs = [v] ∧ Tk H ms ∧ Dp K (hide H ms) v (madesD bs) ∧ bs.length ≤ 6 ∧ (∀ b ∈ bs, b.tails.length ≤ 1000) ∧ ∀ H' q, Same H H' → H q = none → Dp K (hide H' ms) (.ref q) (madesD bs) → Q (.ref q) H'
theorem cal_at {P : Program} {w : World} {K : PySem.W.Frag} {mg : Str → Option Value} {base : Heap} {k : Nat} {x : Str} {sp : Sp} {f : Addr} (c : Cal P w K mg base k x sp []) (g : mg x = some (.ref f)) : C8.CalAt P w K mg base k f sp := by
  obtain ⟨f2, fd, ps, ds, F, hm, kp, b, v⟩ := c.ex
  cases v
  rw [g] at hm
  cases hm
  exact ⟨fd, ps, F, kp, b⟩
section
variable {P : Program} {w : World} {K : PySem.W.Frag} {mg : Str → Option Value} {base : Heap}
theorem ok_check_boxes (T : Tx w K mg) (F_within : Cal P w K mg base 2 "within" (sp_within K) []) : Cal P w K mg base 3 "check_boxes" (sp_check_boxes K) [] := by
  refine cal_of T.D_check_boxes T.g_check_boxes sc_check_boxes (fun _ _ _ _ _ _ us hl => match us, hl with | [_], _ => rfl) (by walk_at "len") fun cdv A outer s H vs Q E hr h => ?_
  refine ⟨_, (pss_one (ps_if (pt_not (pt_val (pe_c F_within hr (by decide) (by rfl) (pa_cons (pv 0) (pa_cons (pe_gc (by rfl) T.v_FEWEST_BOXES) (pa_cons (pe_gc (by rfl) T.v_MOST_BOXES) pa_nil)))))) (pss_one ps_never) pss_nil)), ?_⟩
  obtain ⟨B, rfl, h1, h2, q⟩ := h
  walk_at "rd"
  have e : within (.int (B : Nat)) 3 5 = true := by
    show (decide ((3 : Int) ≤ (B : Nat)) && decide (((B : Nat) : Int) ≤ 5)) = true
    rw [decide_eq_true (show (3 : Int) ≤ (B : Nat) by omega), decide_eq_true (show ((B : Nat) : Int) ≤ 5 by omega)]
    rfl
  refine ⟨[], _, .int (B : Nat), 3, 5, rfl, Tk.nil, .int _, fun H1 s1 => ⟨true, by rw [e], ?_⟩⟩
  rw [if_neg (by decide)]
  exact q H1 s1
theorem ok_is_move (T : Tx w K mg) (F_is_tuple_of : Cal P w K mg base 1 "is_tuple_of" (sp_is_tuple_of K) []) : Cal P w K mg base 2 "is_move" (sp_is_move K) [] := by
  refine cal_of T.D_is_move T.g_is_move sc_is_move (fun _ _ _ _ _ _ us hl => match us, hl with | [_], _ => rfl) (by walk_at "len") fun cdv A outer s H vs Q E hr h => ?_
  refine ⟨_, (pss_one (ps_ret (pe_and (pe_c F_is_tuple_of hr (by decide) (by rfl) (pa_cons (pv 0) (pa_cons pe_int pa_nil))) (pe_one (pe_cmpR (r := rIn K false) op_in_seq (pe_ix (r := rIx K) ix_seq (pv 0) pe_int (fun _ _ => rfl)) (pe_gc (by rfl) T.v_MOVES) (by rfl)))))), ?_⟩
  obtain ⟨ms, v, d, rfl, tk, hd, k⟩ := h
  walk_at "rd"
  refine ⟨_, _, _, _, rfl, tk, hd, fun H1 s1 => ?_⟩
  walk_at "rd"
  replace hd := Dp.mono same_show (Dp.mono (Same.hide s1 ms) hd)
  by_cases h1 : tupleOf d 1 = true
  · rw [if_pos h1]
    have k2 := k H1 s1
    simp only [moveD, h1, Bool.true_and] at k2
    cases d <;> simp only [tupleOf, Bool.false_eq_true] at h1
    case tuple ds =>
      cases ds with
      | nil => cases h1
      | cons x xs =>
        cases x <;> simp only [isStr, Bool.and_false, Bool.false_eq_true] at h1
        case str z =>
          refine a_ixT hd atI_0 fun u hu => ?_
          cases hu
          exact a_in_strs (.inr (T.t_MOVES _)) k2
  · have h2 : tupleOf d 1 = false := by
      cases e : tupleOf d 1 with
      | true => exact absurd e h1
      | false => rfl
    rw [if_neg h1]
    have k2 := k H1 s1
    simp only [moveD, h2, Bool.false_and] at k2
    exact k2
theorem ok_is_made_row (T : Tx w K mg) (F_is_row : Cal P w K mg base 4 "is_row" (sp_is_row K) []) (F_is_move : Cal P w K mg base 2 "is_move" (sp_is_move K) []) : Cal P w K mg base 5 "is_made_row" (sp_is_made_row K) [] := by
  refine cal_of T.D_is_made_row T.g_is_made_row sc_is_made_row (fun _ _ _ _ _ _ us hl => match us, hl with | [_], _ => rfl) (by walk_at "len") fun cdv A outer s H vs Q E hr h => ?_
  refine ⟨_, (pss_one (ps_ret (pe_or (pe_c F_is_row hr (by decide) (by rfl) (pa_cons (pv 0) pa_nil)) (pe_one (pe_c F_is_move hr (by decide) (by rfl) (pa_cons (pv 0) pa_nil)))))), ?_⟩
  obtain ⟨ms, v, d, rfl, tk, hd, k⟩ := h
  walk_at "rd"
  refine ⟨ms, v, d, rfl, tk, hd, fun H1 s1 => ⟨_, rfl, ?_⟩⟩
  have k2 := fun H' s => k H' s
  simp only [madeRowD] at k2
  cases e : rowD d with
  | true =>
    rw [if_pos rfl]
    rw [e, Bool.true_or] at k2
    exact k2 H1 s1
  | false =>
    rw [if_neg Bool.false_ne_true]
    rw [e, Bool.false_or] at k2
    exact ⟨ms, v, d, rfl, tk.same s1, Dp.mono (Same.hide s1 ms) hd, fun H2 s2 => k2 H2 (s1.trans s2)⟩
theorem ok_are_rows (T : Tx w K mg) (F_is_made_row : Cal P w K mg base 5 "is_made_row" (sp_is_made_row K) []) (F_is_move : Cal P w K mg base 2 "is_move" (sp_is_move K) []) : Cal P w K mg base 6 "are_rows" (sp_are_rows K) [] := by
  have C_is_made_row := cal_at F_is_made_row T.g_is_made_row
  have C_is_move := cal_at F_is_move T.g_is_move
  refine cal_of T.D_are_rows T.g_are_rows sc_are_rows (fun _ _ _ _ _ _ us hl => match us, hl with | [_, _, _], _ => rfl) (by walk_at "len") fun cdv A outer s H vs Q E hr h => ?_
  refine ⟨_, (pss_one (ps_ret (pe_and (pe_callB (r := rIsi K) call_isi (by rfl) T.b_isinstance (by decide +kernel) (pa_cons (pv 0) (pa_cons (pe_bltn (v := .ty "list") (by rfl) T.b_list (by decide +kernel) rfl) pa_nil))) (pe_and (pe_cmpR op_le (pe_callB (r := rLenQ K) call_lenQ (by rfl) T.b_len (by decide +kernel) (pa_cons (pv 0) pa_nil)) (pv 1) (nomark _)) (pe_one (pe_callB (r := rAll K) (cr_all rfl) (by rfl) T.b_all (by decide +kernel) (pa_cons (pe_lc rfl sc_are_rows.nd (pi_listK (K := K) (pv 0)) (blkOk_by (own := [("row", 3)]) (N := ["thing", "most", "look", "row"]) (sc := L2.defScope s_are_rows) (by decide +kernel)) (fun _ _ _ _ _ => (pg_m (pg_name (i := 3) sc_are_rows.nd rfl (by first | exact Or.inl rfl | exact Or.inr rfl)))) (fun _ _ _ _ _ => pts_nilM) (fun _ _ _ _ _ => (pe_m (C8.pe_cv (i := 2) C_is_made_row C_is_move hr (by decide) (by decide) rfl (by first | exact Or.inl rfl | exact Or.inr (Or.inl rfl) | exact Or.inr (Or.inr rfl)) (pa_cons (pv 3) pa_nil))))) pa_nil))))))), ?_⟩
  obtain ⟨ms, v, d, n, a, f, rfl, ha, hn, tk, hd, k⟩ := h
  walk_at "rd"
  have hd0 := Dp.mono same_show hd
  unfold C8.tCallV
  walk_at "rd"
  refine a_isi hd0 (kit_list _) ?_
  walk_at "rd"
  have kf := k H (Same.refl _)
  cases d <;> simp only [isList, areRowsD, if_true, if_false, Bool.false_eq_true] at kf ⊢
  case list ds =>
    refine a_lenL hd0 ⟨_, rfl, ?_⟩
    by_cases h1 : (ds.length : Int) ≤ n
    · rw [if_pos (by simpa using h1)]
      obtain ⟨p, xs, rfl, hxs, hxa⟩ := dp_list hd
      refine a_lc ?_
      walk_at "rd"
      refine ⟨⟨xs, sqL_same same_show hxs⟩, fun D nD => ?_⟩
      refine lc_data (K := K) (ds := ds) (ms := ms) walk_list nD tk (by rw [sizeLine_eq]; omega) hxa (fun H1 s1 => sqL_same (same_show.trans s1) hxs) (fun _ => true) (fun d => .bool (f d)) (fun y d H1 hd1 s1 hD1 hy => ?_) (fun H1 ys s1 e1 hys => ?_)
      · walk_at "rd"
        refine ⟨fun z => z.elim, fun _ => ?_⟩
        have tkD : Tk H1 (D :: ms) := fun m hm => by
          rcases List.mem_cons.mp hm with z | hm
          · rw [z]; exact hD1
          · exact (tk.same s1) m hm
        rcases ha with ⟨rfl, rfl⟩ | ⟨rfl, rfl⟩
        · exact .inl ⟨rfl, D :: ms, y, d, rfl, tkD, hy, fun H2 s2 => ⟨s2, .bl _⟩⟩
        · exact .inr ⟨rfl, D :: ms, y, d, rfl, tkD, hy, fun H2 s2 => ⟨s2, .bl _⟩⟩
      · rw [List.filter_eq_self.mpr fun _ _ => rfl] at hys
        have e2 : ds.map (fun d => PyData.bool (f d)) = (ds.map f).map PyData.bool := by rw [List.map_map]; rfl
        rw [e2] at hys
        refine a_all (bs := ds.map f) (.lst (SqL.of e1) (DpAll.mono same_show hys)) ?_
        have k1 := k H1 s1
        simp only [areRowsD, decide_eq_true h1, Bool.true_and] at k1
        rw [List.all_map]
        exact k1
    · rw [if_neg (by simpa using h1)]
      rw [decide_eq_false h1, Bool.false_and] at kf
      exact kf
  all_goals exact kf
theorem ok_is_made_block (T : Tx w K mg) (F_is_name : Cal P w K mg base 1 "is_name" (sp_is_name K) []) (F_within : Cal P w K mg base 2 "within" (sp_within K) []) (F_are_rows : Cal P w K mg base 6 "are_rows" (sp_are_rows K) []) (F_is_end : Cal P w K mg base 2 "is_end" (sp_is_end K) []) : Cal P w K mg base 7 "is_made_block" (sp_is_made_block K) [] := by
  refine cal_of T.D_is_made_block T.g_is_made_block sc_is_made_block (fun _ _ _ _ _ _ us hl => match us, hl with | [_], _ => rfl) (by walk_at "len") fun cdv A outer s H vs Q E hr h => ?_
  refine ⟨_, (pss_cons (ps_if (PW.pt (pw_or (pt_not (pt_val (pe_callB (r := rIsi K) call_isi (by rfl) T.b_isinstance (by decide +kernel) (pa_cons (pv 0) (pa_cons (pe_bltn (v := .ty "tuple") (by rfl) T.b_tuple (by decide +kernel) rfl) pa_nil))))) (pw_or (pt_cmpR op_ne (pe_callB (r := rLenQ K) call_lenQ (by rfl) T.b_len (by decide +kernel) (pa_cons (pv 0) pa_nil)) pe_int (nomark _)) (pw_or (pt_not (pt_val (pe_c F_is_name hr (by decide) (by rfl) (pa_cons (pe_ix (r := rIx K) ix_seq (pv 0) pe_int (fun _ _ => rfl)) pa_nil)))) (pw_or1 (pt_not (pt_val (pe_c F_within hr (by decide) (by rfl) (pa_cons (pe_ix (r := rIx K) ix_seq (pv 0) pe_int (fun _ _ => rfl)) (pa_cons pe_int (pa_cons (pe_gc (by rfl) T.v_MOST_BOXES) pa_nil))))))))))) (pss_one (ps_ret pe_bl)) pss_nil)
    (pss_cons (ps_if (PW.pt (pw_or (pt_not (pt_val (pe_c F_are_rows hr (by decide) (by rfl) (pa_cons (pe_ix (r := rIx K) ix_seq (pv 0) pe_int (fun _ _ => rfl)) (pa_cons (pe_gc (by rfl) T.v_MOST_MADE_ROWS) (pa_cons (pe_gc (v := .ref (He.ga K "is_made_row")) (by rfl) ⟨_, T.g_is_made_row, rfl⟩) pa_nil)))))) (pw_or (pt_not (pt_val (pe_c F_is_end hr (by decide) (by rfl) (pa_cons (pe_ix (r := rIx K) ix_seq (pv 0) pe_int (fun _ _ => rfl)) pa_nil)))) (pw_or1 (pt_not (pt_val (pe_callB (r := rIsi K) call_isi (by rfl) T.b_isinstance (by decide +kernel) (pa_cons (pe_ix (r := rIx K) ix_seq (pv 0) pe_int (fun _ _ => rfl)) (pa_cons (pe_bltn (v := .ty "list") (by rfl) T.b_list (by decide +kernel) rfl) pa_nil))))))))) (pss_one (ps_ret pe_bl)) pss_nil)
    (pss_one (ps_ret (pe_callB (r := rAll K) (cr_all rfl) (by rfl) T.b_all (by decide +kernel) (pa_cons (pe_lc rfl sc_is_made_block.nd (pi_listK (K := K) (pe_ix (r := rIx K) ix_seq (pv 0) pe_int (fun _ _ => rfl))) (blkOk_by (own := [("tail", 1)]) (N := ["thing", "tail"]) (sc := L2.defScope s_is_made_block) (by decide +kernel)) (fun _ _ _ _ _ => (pg_m (pg_name (i := 1) sc_is_made_block.nd rfl (by first | exact Or.inl rfl | exact Or.inr rfl)))) (fun _ _ _ _ _ => pts_nilM) (fun _ _ _ _ _ => (pe_m (pe_c F_are_rows hr (by decide) (by rfl) (pa_cons (pv 1) (pa_cons (pe_gc (by rfl) T.v_MOST_TAIL) (pa_cons (pe_gc (v := .ref (He.ga K "is_move")) (by rfl) ⟨_, T.g_is_move, rfl⟩) pa_nil))))))) pa_nil)))))), ?_⟩
  obtain ⟨ms, v, d, rfl, tk, hd, hsh, k⟩ := h
  walk_at "rd"
  have hd0 := Dp.mono same_show hd
  refine a_isi hd0 (kit_tuple _) ⟨_, rfl, ?_⟩
  have no : madeBlockD d = false → ∀ H', Same H H' → Q (.bl false) H' := fun e H' s => by
    have q := k H' s
    rw [e] at q
    exact q
  cases d <;> simp only [isTuple, Bool.not_true, Bool.not_false, if_true, Bool.false_eq_true, if_false]
  case tuple ds =>
    refine a_lenT hd0 ⟨rfl, ?_⟩
    by_cases h5 : ds.length = 5
    · rw [if_neg (by rw [h5]; decide)]
      obtain ⟨c0, c1, c2, c3, c4, rfl⟩ : ∃ c0 c1 c2 c3 c4, ds = [c0, c1, c2, c3, c4] := by
        match ds, h5 with
        | [c0, c1, c2, c3, c4], _ => exact ⟨_, _, _, _, _, rfl⟩
      have up : ∀ {H' : Hp}, Same H H' → Dp K (hide H' ms) v (.tuple [c0, c1, c2, c3, c4]) := fun s => Dp.mono (Same.hide s ms) hd
      refine a_ixTh hd atI_0 fun u0 h0 => ⟨ms, u0, c0, rfl, tk, h0, hsh.1, fun H1 s1 => ⟨_, rfl, ?_⟩⟩
      cases e0 : nameD c0 with
      | false => rw [if_pos (by decide)]; exact no (by simp [madeBlockD, e0]) H1 s1
      | true =>
        rw [if_neg (by decide)]
        refine a_ixTh (up s1) atI_1 fun u1 h1 => ⟨ms, u1, c1, 0, 5, rfl, tk.same s1, h1, fun H2 s2 => ⟨_, rfl, ?_⟩⟩
        have s12 := s1.trans s2
        cases e1 : within c1 0 5 with
        | false => rw [if_pos (by decide)]; exact no (by simp [madeBlockD, e1]) H2 s12
        | true =>
          rw [if_neg (by decide)]
          refine a_ixTh (up s12) atI_2 fun u2 h2 => ⟨ms, u2, c2, 99, _, _, rfl, .inl ⟨rfl, rfl⟩, by decide, tk.same s12, h2, fun H3 s3 => ⟨_, rfl, ?_⟩⟩
          have s13 := s12.trans s3
          cases e2 : areRowsD c2 99 madeRowD with
          | false => rw [if_pos (by decide)]; exact no (by simp [madeBlockD, e2]) H3 s13
          | true =>
            rw [if_neg (by decide)]
            refine a_ixTh (up s13) atI_3 fun u3 h3 => ⟨ms, u3, c3, rfl, tk.same s13, h3, hsh.2.1, fun H4 s4 => ⟨_, rfl, ?_⟩⟩
            have s14 := s13.trans s4
            cases e3 : endD c3 with
            | false => rw [if_pos (by decide)]; exact no (by simp [madeBlockD, e3]) H4 s14
            | true =>
              rw [if_neg (by decide)]
              refine a_ixTh (up s14) atI_4 fun u4 h4 => a_isi (Dp.mono same_show h4) (kit_list _) ⟨_, rfl, ?_⟩
              have kf := k
              have hts := hsh.2.2
              cases c4 <;> simp only [isList, Bool.not_true, Bool.not_false, if_true, Bool.false_eq_true, if_false]
              case list ts =>
                refine a_lc ?_
                walk_at "rd"
                refine a_ixTh (up s14) atI_4 fun u5 h5 => ?_
                obtain ⟨p, xs, rfl, hxs, hxa⟩ := dp_list h5
                refine ⟨p, rfl, ⟨xs, sqL_same same_show hxs⟩, fun D nD => ?_⟩
                refine lc_data (K := K) (ds := ts) (ms := ms) walk_list nD (tk.same s14) hts hxa (fun H1 s1 => sqL_same (same_show.trans s1) hxs) (fun _ => true) (fun d => .bool (areRowsD d 9 moveD)) (fun y d H1 hd1 s1 hD1 hy => ?_) (fun H5 ys s5 e5 hys => ?_)
                · walk_at "rd"
                  have tkD : Tk H1 (D :: ms) := fun m hm => by
                    rcases List.mem_cons.mp hm with z | hm
                    · rw [z]; exact hD1
                    · exact ((tk.same s14).same s1) m hm
                  exact ⟨fun z => z.elim, fun _ => ⟨D :: ms, y, d, 9, _, _, rfl, .inr ⟨rfl, rfl⟩, by decide, tkD, hy, fun H2 s2 => ⟨s2, .bl _⟩⟩⟩
                · rw [List.filter_eq_self.mpr fun _ _ => rfl] at hys
                  have e6 : ts.map (fun d => PyData.bool (areRowsD d 9 moveD)) = (ts.map fun d => areRowsD d 9 moveD).map PyData.bool := by rw [List.map_map]; rfl
                  rw [e6] at hys
                  refine a_all (.lst (SqL.of e5) (DpAll.mono same_show hys)) ?_
                  have k1 := k H5 (s14.trans s5)
                  simp only [madeBlockD, e0, e1, e2, e3, Bool.true_and] at k1
                  rw [List.all_map]
                  exact k1
              all_goals exact no (by simp [madeBlockD]) H4 s14
    · rw [if_pos (by rw [decide_eq_false (fun z => h5 (by have := V.int.inj z; omega))]; rfl)]
      refine no ?_ H (Same.refl _)
      unfold madeBlockD
      split
      next a b c e f q => exact absurd (by rw [PyData.tuple.inj q]; rfl) h5
      next => rfl
  all_goals exact no (by simp [madeBlockD]) H (Same.refl _)
theorem ok_copied (T : Tx w K mg) : Cal P w K mg base 1 "copied" (sp_copied K) [] := by
  refine cal_of T.D_copied T.g_copied sc_copied (fun _ _ _ _ _ _ us hl => match us, hl with | [_], _ => rfl) (by walk_at "len") fun cdv A outer s H vs Q E hr h => ?_
  refine ⟨_, (pss_cons (ps_set (i := 1) sc_copied.nd rfl (by first | exact Or.inl rfl | exact Or.inr rfl) (pe_lst pa_nil))
    (pss_cons (ps_for PassesOwn.never rfl (pi_listK (K := K) (pv 0)) (pg_tupK (K := K) (n := 5) rfl (pgs_cons (pg_name (i := 2) sc_copied.nd rfl (by first | exact Or.inl rfl | exact Or.inr rfl)) (pgs_cons (pg_name (i := 3) sc_copied.nd rfl (by first | exact Or.inl rfl | exact Or.inr rfl)) (pgs_cons (pg_name (i := 4) sc_copied.nd rfl (by first | exact Or.inl rfl | exact Or.inr rfl)) (pgs_cons (pg_name (i := 5) sc_copied.nd rfl (by first | exact Or.inl rfl | exact Or.inr rfl)) (pgs_cons (pg_name (i := 6) sc_copied.nd rfl (by first | exact Or.inl rfl | exact Or.inr rfl)) pgs_nil)))))) (pss_one (ps_expr (pe_bm PySem.F.plainAttrs_list PySem.F.slot_list_append PySem.F.type_list_append mt_append (pv 1) (pa_cons (pe_tup (pa_cons (pv 2) (pa_cons (pv 3) (pa_cons (pe_callTy (r := rListOf K) call_listOf (by rfl) T.b_list (by decide +kernel) (pa_cons (pv 4) pa_nil)) (pa_cons (pv 5) (pa_cons (pe_lc rfl sc_copied.nd (pi_listK (K := K) (pv 6)) (blkOk_by (own := [("tail", 7)]) (N := ["blocks", "found", "label", "begin", "rows", "end", "tails", "tail"]) (sc := L2.defScope s_copied) (by decide +kernel)) (fun _ _ _ _ _ => (pg_m (pg_name (i := 7) sc_copied.nd rfl (by first | exact Or.inl rfl | exact Or.inr rfl)))) (fun _ _ _ _ _ => pts_nilM) (fun _ _ _ _ _ => (pe_m (pe_callTy (r := rListOf K) call_listOf (by rfl) T.b_list (by decide +kernel) (pa_cons (pv 7) pa_nil))))) pa_nil)))))) pa_nil)))))
    (pss_one (ps_ret (pv 1))))), ?_⟩
  obtain ⟨ms, v, bs, rfl, tk, hd, h6, ht, k⟩ := h
  walk_at "rd"
  obtain ⟨a, xs, rfl, hxs, hxa⟩ := dp_list hd
  have up : ∀ {H' : Hp}, Same H H' → Same (hide H ms) H' := fun s => same_show.trans s
  have hxl : xs.length = bs.length := by rw [DpAll.length hxa, List.length_map]
  refine ⟨by rw [sizeLine_eq]; omega, fun q nq => ?_⟩
  have sq := same_new (o := HO.lst []) nq
  refine a_for ?_
  walk_at "rd"
  refine ⟨⟨xs, sqL_same (up sq) hxs⟩, ?_⟩
  refine for_go2 walk_list (fun i σ H1 => ∃ o2 o3 o4 o5 o6, σ = [some (.ref a), some (.ref q), o2, o3, o4, o5, o6, none] ∧ Same H H1 ∧ ∃ ys, H1 q = some (.lst ys) ∧ DpAll K (hide H1 (q :: ms)) ys ((bs.take i).map MBlk.d)) ⟨_, _, _, _, _, rfl, sq, [], upd_same, .nil⟩ (fun i σ H1 _ z => by
    obtain ⟨_, _, _, _, _, _, z, _⟩ := z
    exact sqL_same (up z) hxs) ?_ ?_
  · rintro Pw yes i y σ H1 H2 hi ⟨o2, o3, o4, o5, o6, rfl, s1, ys, eq, hys⟩ ⟨e0, ey⟩
    subst e0
    obtain ⟨b, eb⟩ : ∃ b, bs[i]? = some b := ⟨_, List.getElem?_eq_getElem (by omega)⟩
    have ed : (bs.map MBlk.d)[i]? = some b.d := by rw [List.getElem?_map, eb]; rfl
    obtain ⟨y', ey', hy⟩ := DpAll.get hxa ed
    rw [ey'] at ey
    cases ey
    have hbm := List.mem_of_getElem? eb
    obtain ⟨p, u1, u2, u3, u4, u5, rfl, h5, k1, k2, k3, k4, k5⟩ := dp_t5 hy
    cases k1
    cases k2
    refine a_t5V (sqT_same (up s1) h5) ?_
    walk_at "rd"
    obtain ⟨ra, rs, rfl, hrs, hra⟩ := dp_list k3
    obtain ⟨ta, ts, rfl, hts, hta⟩ := dp_list k5
    refine ⟨.inl ⟨rfl, _, SqL.of eq⟩, ra, rs, rfl, .inl (sqL_same (up s1) hrs), fun l nl => a_lc ?_⟩
    walk_at "rd"
    have s2 := same_new (o := HO.lst rs) nl
    have el : upd H2 l (HO.lst rs) l = some (.lst rs) := upd_same
    have s12 := s1.trans s2
    have nlq : l ≠ q := (ne_of_none eq nl).symm
    replace eq := s2 _ _ eq
    replace hys := DpAll.mono (Same.hide s2 _) hys
    generalize upd H2 l (HO.lst rs) = H3 at *
    refine ⟨⟨ts, sqL_same (up s12) hts⟩, fun D nD => ?_⟩
    have tkq : Tk H3 (q :: ms) := Tk.cons eq (tk.same s12)
    have sh : ∀ {A : Hp}, Same H A → Same (hide H ms) (hide A (q :: ms)) := fun {A} s b o e => by
      obtain ⟨q1, q2⟩ := hide_of e
      rw [hide_at (fun z => (List.mem_cons.mp z).elim (fun k => by rw [k, nq] at q1; cases q1) q2)]
      exact s _ _ q1
    refine lc_data (K := K) (ds := b.tails.map tailD) (ms := q :: ms) walk_list nD tkq (by rw [List.length_map, sizeLine_eq]; have := ht b hbm; omega) (DpAll.mono (sh s12) hta) (fun H1 s1 => sqL_same (up (s12.trans s1)) hts) (fun _ => true) (fun d => d) (fun y d H4 hd1 s4 hD4 hy => ?_) (fun H4 zs s4 e4 hzs => ?_)
    · obtain ⟨t, ht, rfl⟩ := List.mem_map.mp hd1
      walk_at "rd"
      refine ⟨fun z => z.elim, fun _ => ?_⟩
      obtain ⟨a1, x1, rfl, b1, c1⟩ := dp_list hy
      refine ⟨a1, x1, rfl, .inl (sqL_same same_show b1), fun l2 nl2 => ⟨same_new nl2, ?_⟩⟩
      have tkD : Tk H4 (D :: q :: ms) := fun m hm => by
        rcases List.mem_cons.mp hm with z | hm
        · rw [z]; exact hD4
        · exact (tkq.same s4) m hm
      exact .lst (.inl (.inl (new_at tkD nl2))) (DpAll.mono (Same.hide (same_new nl2) _) c1)
    · rw [List.filter_eq_self.mpr fun _ _ => rfl, List.map_id'] at hzs
      refine ⟨by rw [sizeLine_eq]; omega, fun p5 np5 => ?_⟩
      have s45 := same_new (o := HO.tup [V.str b.label, V.int b.beg, V.ref l, u4, V.ref D]) np5
      have s5 := s4.trans s45
      have eq5 := s5 _ _ eq
      have e5 := keep_at (u := HO.tup [V.str b.label, V.int b.beg, V.ref l, u4, V.ref D]) e4 np5
      have tkq5 := tkq.same s4
      have ndq : D ∉ q :: ms := tkq.out nD
      have nlm : l ∉ q :: ms := fun z => by
        rcases List.mem_cons.mp z with z | z
        · exact nlq z
        · exact (tk.same s1).out nl z
      have h5 := new_at (o := HO.tup [V.str b.label, V.int b.beg, V.ref l, u4, V.ref D]) tkq5 np5
      generalize upd H4 p5 (HO.tup [V.str b.label, V.int b.beg, V.ref l, u4, V.ref D]) = H5 at *
      refine ⟨q, ys, _, rfl, rfl, eq5, by rw [DpAll.length hys, List.length_map, List.length_take, sizeLine_eq]; omega, ?_⟩
      refine yes _ _ _ ⟨_, _, _, _, _, rfl, same_own (s12.trans s5) (ms := [q]) (Sx.upd (List.mem_singleton.mpr rfl)) fun m hm => by rw [List.mem_singleton.mp hm]; exact nq, _, upd_same, ?_⟩
      rw [hide_upd (List.mem_cons_self ..), List.take_succ, eb, List.map_append]
      refine DpAll.append (DpAll.mono (Same.hide s5 _) hys) (.cons (.tup (.inl (.inl h5)) (.cons (.str _) (.cons (.int _) (.cons (.lst (.inl (.inl ?_)) (DpAll.mono (sh (s12.trans s5)) hra)) (.cons (Dp.mono (sh (s12.trans s5)) k4) (.cons (.lst (.inl (.inl ?_)) (DpAll.mono ?_ hzs)) .nil)))))) .nil)
      · rw [hide_at nlm]; exact s5 _ _ el
      · rw [hide_at ndq]; exact e5
      · exact (same_less fun a ha => List.mem_cons_of_mem _ ha).trans (Same.hide s45 _)
  · rintro σ H1 ⟨o2, o3, o4, o5, o6, rfl, s1, ys, eq, hys⟩
    walk_at "rd"
    rw [List.take_of_length_le (by omega)] at hys
    refine k H1 q s1 nq (.lst (.inl (.inl ?_)) (DpAll.mono (same_less fun a ha => List.mem_cons_of_mem _ ha) hys))
    rw [hide_at (tk.out nq)]
    exact eq
end
end Pb

/-! W12 -/
set_option Elab.async false
set_option linter.all false
set_option maxRecDepth 100000
set_option maxHeartbeats 4000000
namespace Pb
open PySem PySem.Spec PyProof.Rows L2
open C8 (Cal Mak Met pe_c pe_mk pe_mt pe_mt0 pe_gc fnScope_by)
/-! short words -/
local macro_rules | `(tactic| walk_at "rd") => `(tactic| try simp only [tVar, tC, tAdd, tSub, t2I, tIsN, tNotN, tB, tAnd, tOr, tNot, tAndV, tOrV, tNotV, tIf, tSeq, tPar, tPar3, tNext, tBreak, tCont, tDrop, tRet, tRetN, tIfS, gName, gNil, gCons, gTup, gSub, tAsg, tAug, ipI, iList, iTup, iRng1, iRng2, iStr, iEnum, iZip,
  tOp, tUn, rI, rI0, rU, tTest, tChain, tFld, sFld, sFldAug, L2.rAdd, L2.rSub, tNil, tCons, tTup, tLst, tCall, tMeth, tMake, tCB, tNoPart, tPart, tSl, tBM0, tBM, tDGet, tDGet1, tDGet2, tDIn, tDNotIn, sDPut, tDNewK, rEq, rNe, scal_ii, scal_ss, scal_bb, scal_nn, scal_ni, scal_in, scal_ns, scal_sn, scal_is, scal_si, List.take_succ_cons, List.take_zero, List.drop_succ_cons, List.drop_zero, upd_same, upd_upd, and_assoc, tKGet, gStar, tDisp, tPairs, tYes,
  L2.start, List.map_cons, List.map_nil, List.length_cons, List.length_nil, List.cons_append, List.nil_append, List.append_nil, List.replicate, Nat.sub_self, Nat.add_sub_cancel, Nat.reduceAdd, Nat.reduceSub, List.set_cons_zero, List.set_cons_succ, List.getElem?_cons_zero, List.getElem?_cons_succ,
  Option.some.injEq, V.int.injEq, V.bl.injEq, V.str.injEq, V.ref.injEq, exists_eq_left', exists_eq_left, exists_eq', exists_eq, true_and, and_true, if_true, if_false, Bool.false_eq_true, List.cons.injEq, Bool.not_true, Bool.not_false, cxK, cxP, cxW, ite_true, ite_false, wipe, reduceCtorEq, and_self, decide_true, decide_false, exists_and_left, exists_const, decide_eq_true_eq])
local macro_rules | `(tactic| walk_at "len") => `(tactic| (intro vs H Q E h; repeat (first | (obtain ⟨e, _⟩ := h; subst e; rfl) | (obtain ⟨_, h⟩ := h))))
local macro_rules | `(tactic| walk_at "wd") => `(tactic| simp (config := {decide := true}) only [V.str.injEq, scal_ss, true_and, if_true, if_false])

structure MGood (ms : List MBlk) : Prop where
  one : 1 ≤ ms.length
  six : ms.length ≤ 6
  names : ∀ b ∈ ms, nameS b.label = true
  beg : ∀ b ∈ ms, b.beg ≤ 5
  many : ∀ b ∈ ms, b.rows.length ≤ 99
  puts : ∀ b ∈ ms, ∀ r, MRow.r r ∈ b.rows → ∀ n, r = .put n → -32768 ≤ n ∧ n ≤ 32767
  nodup : (ms.map MBlk.label).Nodup
  ends : ∀ b ∈ ms, ∀ l ∈ b.fin.labels, l ∈ ms.map MBlk.label
  tails : ∀ b ∈ ms, ∀ t ∈ b.tails, t.length ≤ 9
  tmany : ∀ b ∈ ms, b.tails.length ≤ 1000
def madeF (B : Nat) (pa : Addr) : List (Str × V) := [("many_boxes", .int (B : Nat)), ("made_parts", .ref pa)]
def IsMade (K : PySem.W.Frag) (H : Hp) (p : Addr) (ms : List MBlk) (B : Nat) : Prop := ∃ dx pa, H p = some (.ins (He.ga K "Made") dx (madeF B pa)) ∧ Dp K H (.ref pa) (madesD ms)
theorem IsMade.mono {K : PySem.W.Frag} {H H' : Hp} {p : Addr} {ms : List MBlk} {B : Nat} (s : Same H H') (c : IsMade K H p ms B) : IsMade K H' p ms B := by
  obtain ⟨dx, pa, h1, h2⟩ := c
  exact ⟨dx, pa, s _ _ h1, Dp.mono s h2⟩
theorem hide_add {H0 H : Hp} {ms ks : List Addr} (s : Same H0 H) (n : ∀ k ∈ ks, H0 k = none) : Same (hide H0 ms) (hide H (ks ++ ms)) := fun b o e => by
  obtain ⟨e1, e2⟩ := hide_of e
  rw [hide_at fun z => (List.mem_append.mp z).elim (fun z => by rw [n b z] at e1; cases e1) e2]
  exact s b o e1
def MBlk.plain (b : MBlk) : Blk := ⟨b.label, b.rows.filterMap fun r => match r with
  | .r a => some a
  | .m _ => none, b.fin⟩
def sp_Made___init__ (K : PySem.W.Frag) : Sp := fun vs H Q _ => ∃ ms p dx H0 v bs, ∃ B : Nat, vs = [.ref p, v, .int B] ∧ NewAt H0 H (He.ga K "Made") p dx ∧ Tk H0 ms ∧ Dp K (hide H0 ms) v (madesD bs) ∧ MGood bs ∧ 3 ≤ B ∧ B ≤ 5 ∧
  ∀ H', Same H0 H' → IsMade K (hide H' ms) p bs B → Q .non H'
def sp_Made_blocks (K : PySem.W.Frag) : Sp := fun vs H Q _ => ∃ ms p bs B, vs = [.ref p] ∧ Tk H ms ∧ IsMade K (hide H ms) p bs B ∧ MGood bs ∧ ∀ H' q, Same H H' → H q = none → Dp K (hide H' ms) (.ref q) (madesD bs) → Q (.ref q) H'
def sp_Made_boxes (K : PySem.W.Frag) : Sp := fun vs H Q _ => ∃ ms p bs, ∃ B : Nat, vs = [.ref p] ∧ Tk H ms ∧ IsMade K (hide H ms) p bs B ∧ Q (.int B) H
def sp_Made_plain (K : PySem.W.Frag) : Sp := fun vs H Q _ => ∃ ms p bs B, vs = [.ref p] ∧ Tk H ms ∧ IsMade K (hide H ms) p bs B ∧ MGood bs ∧ ∀ H' q, Same H H' → H q = none → Dp K (hide H' ms) (.ref q) (blocksD (bs.map MBlk.plain)) → Q (.ref q) H'
theorem Mv.move_ok (m : Mv) : moveD m.d = true := by cases m <;> decide +kernel
theorem MRow.row_ok {m : MRow} (h : ∀ r, m = .r r → ∀ n, r = .put n → -32768 ≤ n ∧ n ≤ 32767) : madeRowD m.d = true := by
  cases m with
  | r a =>
    unfold madeRowD
    rw [show (MRow.r a).d = a.d from rfl, Row.row_ok (h a rfl)]
    rfl
  | m a =>
    unfold madeRowD
    rw [show (MRow.m a).d = a.d from rfl, a.move_ok, Bool.or_true]
theorem MGood.block_ok {ms : List MBlk} (G : MGood ms) {b : MBlk} (hb : b ∈ ms) : madeBlockD b.d = true := by
  have lab : ∀ l ∈ b.fin.labels, nameS l = true := fun l hl => by
    obtain ⟨c, hc, rfl⟩ := List.mem_map.mp (G.ends b hb l hl)
    exact G.names c hc
  have e1 : nameD (.str b.label) = true := G.names b hb
  have e2 : within (.int (b.beg : Nat)) 0 5 = true := by
    show (decide ((0 : Int) ≤ (b.beg : Nat)) && decide (((b.beg : Nat) : Int) ≤ 5)) = true
    have := G.beg b hb
    rw [decide_eq_true (by omega), decide_eq_true (by omega)]
    rfl
  have e3 : areRowsD (mrowsD b.rows) 99 madeRowD = true := by
    show (decide (((b.rows.map MRow.d).length : Int) ≤ 99) && (b.rows.map MRow.d).all madeRowD) = true
    have := G.many b hb
    rw [List.length_map, decide_eq_true (by omega), Bool.true_and, List.all_eq_true]
    intro d hd
    obtain ⟨r, hr, rfl⟩ := List.mem_map.mp hd
    exact MRow.row_ok fun a e => by
      subst e
      exact G.puts b hb a hr
  have e4 : endD b.fin.d = true := Fin.end_ok lab
  show (nameD (.str b.label) && (within (.int (b.beg : Nat)) 0 5 && (areRowsD (mrowsD b.rows) 99 madeRowD && (endD b.fin.d && (b.tails.map tailD).all fun t => areRowsD t 9 moveD)))) = true
  rw [e1, e2, e3, e4, Bool.true_and, Bool.true_and, Bool.true_and, Bool.true_and, List.all_eq_true]
  intro d hd
  obtain ⟨t, ht, rfl⟩ := List.mem_map.mp hd
  show (decide (((t.map Mv.d).length : Int) ≤ 9) && (t.map Mv.d).all moveD) = true
  have := G.tails b hb t ht
  rw [List.length_map, decide_eq_true (by omega), Bool.true_and, List.all_eq_true]
  intro d hd
  obtain ⟨m, _, rfl⟩ := List.mem_map.mp hd
  exact m.move_ok
theorem Row.not_mem (r : Row) : r.word ∉ c_MOVES := by cases r <;> (simp only [Row.word]; decide +kernel)
theorem Row.not_move (r : Row) : (!decide (r.word ∈ c_MOVES)) = true := by rw [decide_eq_false r.not_mem]; rfl
theorem Mv.mem (r : Mv) : r.word ∈ c_MOVES := by cases r <;> (simp only [Mv.word]; decide +kernel)
theorem Mv.is_move (r : Mv) : (!decide (r.word ∈ c_MOVES)) = false := by rw [decide_eq_true r.mem]; rfl
theorem fin_two (e : Fin) : e.labels.length ≤ 2 := by cases e <;> simp [Fin.labels]
theorem MGood.sh {ms : List MBlk} (G : MGood ms) {b : MBlk} (hb : b ∈ ms) : shM b.d := by
  have sh : ∀ l : Str, nameS l = true → l.length ≤ sizeLine := fun l h => by
    unfold nameS at h
    have := of_decide_eq_true (Bool.and_eq_true_iff.mp (Bool.and_eq_true_iff.mp h).1).2
    rw [sizeLine_eq]; omega
  refine ⟨sh _ (G.names b hb), fun x hx => ?_, by show (b.tails.map tailD).length < sizeLine; rw [List.length_map, sizeLine_eq]; have := G.tmany b hb; omega⟩
  rcases List.mem_cons.mp hx with rfl | hx
  · show b.fin.word.length ≤ sizeLine
    have : b.fin.word.length ≤ 8 := by cases b.fin <;> (simp only [Fin.word]; decide +kernel)
    rw [sizeLine_eq]; omega
  · obtain ⟨l, hl, rfl⟩ := List.mem_map.mp hx
    obtain ⟨c, hc, e⟩ := List.mem_map.mp (G.ends b hb l hl)
    rw [← e]
    exact sh _ (G.names c hc)
section
variable {P : Program} {w : World} {K : PySem.W.Frag} {mg : Str → Option Value} {base : Heap}
theorem ok_Made_boxes (T : Tx w K mg) : Met P w K mg base 1 (He.ga K "Made") "boxes" (sp_Made_boxes K) [] := by
  refine met_of T.c_Made T.me_Made_boxes T.D_Made_boxes sc_Made_boxes (fun _ _ _ _ _ _ us hl => match us, hl with | [_], _ => rfl) (by walk_at "len") fun cdv A outer s H vs Q E hr h => ?_
  refine ⟨_, (pss_one (ps_ret (pe_fldK (K := K) (pv 0) rfl))), ?_⟩
  obtain ⟨ms, p, bs, B, rfl, tk, c, q⟩ := h
  obtain ⟨dx, pa, h1, h2⟩ := IsMade.mono same_show c
  walk_at "rd"
  exact ⟨_, _, _, h1, T.c_Made, T.n_Made_many_boxes, _, rfl, q⟩
theorem ok_Made_blocks (T : Tx w K mg) (F_copied : Cal P w K mg base 1 "copied" (sp_copied K) []) : Met P w K mg base 2 (He.ga K "Made") "blocks" (sp_Made_blocks K) [] := by
  refine met_of T.c_Made T.me_Made_blocks T.D_Made_blocks sc_Made_blocks (fun _ _ _ _ _ _ us hl => match us, hl with | [_], _ => rfl) (by walk_at "len") fun cdv A outer s H vs Q E hr h => ?_
  refine ⟨_, (pss_one (ps_ret (pe_c F_copied hr (by decide) (by rfl) (pa_cons (pe_fldK (K := K) (pv 0) rfl) pa_nil)))), ?_⟩
  obtain ⟨ms, p, bs, B, rfl, tk, c, G, q⟩ := h
  obtain ⟨dx, pa, h1, h2⟩ := c
  walk_at "rd"
  exact ⟨_, _, _, same_show _ _ h1, T.c_Made, T.n_Made_made_parts, _, rfl, ms, _, bs, rfl, tk, h2, G.six, G.tmany, q⟩
theorem ok_Made_init (T : Tx w K mg) (F_check_boxes : Cal P w K mg base 3 "check_boxes" (sp_check_boxes K) []) (F_is_made_block : Cal P w K mg base 7 "is_made_block" (sp_is_made_block K) []) (F_copied : Cal P w K mg base 1 "copied" (sp_copied K) []) : KMak P w K mg base 8 "Made" (He.ga K "Made") (sp_Made___init__ K) ["self", "blocks", "boxes"] s_Made___init__ "Made.__init__" [("boxes", .int 3)] := by
  refine kmak_of T.mk_Made T.g_Made T.D_Made___init__ sc_Made___init__ (by walk_at "len") fun cdv A outer s H vs Q E hr h => ?_
  refine ⟨_, (pss_cons (ps_expr (pe_c F_check_boxes hr (by decide) (by rfl) (pa_cons (pv 2) pa_nil)))
    (pss_cons (ps_if (PW.pt (pw_or (pt_not (pt_val (pe_callB (r := rIsi K) call_isi (by rfl) T.b_isinstance (by decide +kernel) (pa_cons (pv 1) (pa_cons (pe_bltn (v := .ty "list") (by rfl) T.b_list (by decide +kernel) rfl) pa_nil))))) (pw_or1 (pt_not (pt_chain op_le op_le pe_int (pe_callB (r := rLenQ K) call_lenQ (by rfl) T.b_len (by decide +kernel) (pa_cons (pv 1) pa_nil)) (pe_gc (by rfl) T.v_MOST_BLOCKS)))))) (pss_one ps_never) pss_nil)
    (pss_cons (ps_if (pt_not (pt_val (pe_callB (r := rAll K) (cr_all rfl) (by rfl) T.b_all (by decide +kernel) (pa_cons (pe_lc rfl sc_Made___init__.nd (pi_listK (K := K) (pv 1)) (blkOk_by (own := [("block", 3)]) (N := ["self", "blocks", "boxes", "block", "labels", "label", "there"]) (sc := L2.defScope s_Made___init__) (by decide +kernel)) (fun _ _ _ _ _ => (pg_m (pg_name (i := 3) sc_Made___init__.nd rfl (by first | exact Or.inl rfl | exact Or.inr rfl)))) (fun _ _ _ _ _ => pts_nilM) (fun _ _ _ _ _ => (pe_m (pe_c F_is_made_block hr (by decide) (by rfl) (pa_cons (pv 3) pa_nil))))) pa_nil)))) (pss_one ps_never) pss_nil)
    (pss_cons (ps_set (i := 4) sc_Made___init__.nd rfl (by first | exact Or.inl rfl | exact Or.inr rfl) (pe_lc rfl sc_Made___init__.nd (pi_listK (K := K) (pv 1)) (blkOk_by (own := [("block", 3)]) (N := ["self", "blocks", "boxes", "block", "labels", "label", "there"]) (sc := L2.defScope s_Made___init__) (by decide +kernel)) (fun _ _ _ _ _ => (pg_m (pg_name (i := 3) sc_Made___init__.nd rfl (by first | exact Or.inl rfl | exact Or.inr rfl)))) (fun _ _ _ _ _ => pts_nilM) (fun _ _ _ _ _ => (pe_m (pe_ix (r := rIx K) ix_seq (pv 3) pe_int (fun _ _ => rfl))))))
    (pss_cons (ps_if (pt_cmpR op_lt (pe_callB (r := rLenK P w) call_lenK (by rfl) T.b_len (by decide +kernel) (pa_cons (pe_scB bagKey rfl sc_Made___init__.nd (pi_listK (K := K) (pv 4)) (blkOk_by (own := [("label", 5)]) (N := ["self", "blocks", "boxes", "block", "labels", "label", "there"]) (sc := L2.defScope s_Made___init__) (by decide +kernel)) (fun _ _ _ _ _ => (pg_name (i := 5) sc_Made___init__.nd rfl (by first | exact Or.inl rfl | exact Or.inr rfl))) (fun _ _ _ _ _ => (pv 5))) pa_nil)) (pe_callB (r := rLenQ K) call_lenQ (by rfl) T.b_len (by decide +kernel) (pa_cons (pv 4) pa_nil)) (nomark _)) (pss_one ps_never) pss_nil)
    (pss_cons (ps_if (pt_not (pt_val (pe_callB (r := rAll K) (cr_all rfl) (by rfl) T.b_all (by decide +kernel) (pa_cons (pe_lc2 (vs1 := [6]) rfl sc_Made___init__.nd (pi_listK (K := K) (pv 1)) (blkOk_by (own := [("block", 3), ("there", 6)]) (N := ["self", "blocks", "boxes", "block", "labels", "label", "there"]) (sc := L2.defScope s_Made___init__) (by decide +kernel)) (by decide) (fun _ _ _ _ _ => (pg_m (pg_name (i := 3) sc_Made___init__.nd rfl (by first | exact Or.inl rfl | exact Or.inr rfl)))) (fun _ _ _ _ _ => pts_nilM) (fun _ _ _ _ _ => (pi_m (pi_tupK (K := K) (pe_slice (r := rSlT K) sl_tup (pe_ix (r := rIx K) ix_seq (pv 3) pe_int (fun _ _ => rfl)) (po_some pe_int) po_none)))) (fun _ _ _ _ _ => (pg_m (pg_name (i := 6) sc_Made___init__.nd rfl (by first | exact Or.inl rfl | exact Or.inr rfl)))) (fun _ _ _ _ _ => pts_nilM) (fun _ _ _ _ _ => (pe_m (pe_cmpR (r := rIn K false) op_in_seq (pv 6) (pv 4) (by rfl))))) pa_nil)))) (pss_one ps_never) pss_nil)
    (pss_cons (ps_fld (pv 0) (pv 2) rfl)
    (pss_one (ps_fld (pv 0) (pe_c F_copied hr (by decide) (by rfl) (pa_cons (pv 1) pa_nil)) rfl))))))))), ?_⟩
  obtain ⟨ms, p, dx, H0, v, bs, B, rfl, new, tk, hd, G, h3, h5, k⟩ := h
  have big : ∀ n : Nat, n ≤ 1000000 → n ≤ sizeLine := fun n h => by rw [sizeLine_eq]; omega
  have tk1 : Tk H (p :: ms) := Tk.cons new.at (tk.same new.same)
  have d1 : Dp K (hide H (p :: ms)) v (madesD bs) := Dp.mono (hide_add (ks := [p]) new.same fun m hm => by rw [List.mem_singleton.mp hm]; exact new.2.1) hd
  have hp := new.at
  obtain ⟨a, xs, rfl, hxs, hxa⟩ := dp_list d1
  have up : ∀ {H' : Hp}, Same H H' → Same (hide H (p :: ms)) H' := fun s => same_show.trans s
  have six := G.six
  have one := G.one
  have hxl : xs.length = bs.length := by rw [DpAll.length hxa, List.length_map]
  refine seq_mid (fun σ' H1 => σ' = [some (.ref p), some (.ref a), some (.int B), none, none, none, none] ∧ Same H H1) (fun Kx yes => ?_) ?_
  · walk_at "rd"
    exact ⟨B, rfl, h3, h5, fun H1 s1 => yes _ _ ⟨rfl, s1⟩⟩
  rintro σ' H1 ⟨rfl, s1⟩
  refine seq_mid (fun σ' H1 => σ' = [some (.ref p), some (.ref a), some (.int B), none, none, none, none] ∧ Same H H1) (fun Kx yes => ?_) ?_
  · walk_at "rd"
    have dl : Dp K H1 (.ref a) (madesD bs) := .lst (sqL_same (up s1) hxs) (DpAll.mono (up s1) hxa)
    refine a_isi dl (kit_list _) ⟨_, rfl, ?_⟩
    rw [show isList (madesD bs) = true from rfl, if_neg (by decide)]
    refine a_lenL dl ⟨_, rfl, ?_⟩
    rw [List.length_map, if_pos (by omega)]
    refine ⟨_, rfl, ?_⟩
    rw [if_neg (by rw [decide_eq_true (by omega)]; decide)]
    exact yes _ _ ⟨rfl, s1⟩
  rintro σ' H2 ⟨rfl, s2⟩
  clear s1
  refine seq_mid (fun σ' H1 => σ' = [some (.ref p), some (.ref a), some (.int B), none, none, none, none] ∧ Same H H1) (fun Kx yes => ?_) ?_
  · walk_at "rd"
    refine a_lc ?_
    walk_at "rd"
    refine ⟨⟨xs, sqL_same (up s2) hxs⟩, fun D nD => ?_⟩
    refine lc_data (K := K) (ds := bs.map MBlk.d) (ms := p :: ms) walk_list nD (tk1.same s2) (by rw [List.length_map, sizeLine_eq]; omega) (DpAll.mono (Same.hide s2 _) hxa) (fun H3 s3 => sqL_same (up (s2.trans s3)) hxs) (fun _ => true) (fun d => .bool (madeBlockD d)) (fun y d H3 hd3 s3 hD3 hy => ?_) (fun H3 ys s3 e3 hys => ?_)
    · obtain ⟨b, hb, rfl⟩ := List.mem_map.mp hd3
      walk_at "rd"
      have tkD : Tk H3 (D :: p :: ms) := fun m hm => by
        rcases List.mem_cons.mp hm with z | hm
        · rw [z]; exact hD3
        · exact (tk1.same (s2.trans s3)) m hm
      exact ⟨fun z => z.elim, fun _ => ⟨D :: p :: ms, y, b.d, rfl, tkD, hy, G.sh hb, fun H4 s4 => ⟨s4, .bl _⟩⟩⟩
    · rw [List.filter_eq_self.mpr fun _ _ => rfl] at hys
      have e2 : (bs.map MBlk.d).map (fun d => PyData.bool (madeBlockD d)) = ((bs.map MBlk.d).map madeBlockD).map PyData.bool := by rw [List.map_map, List.map_map, List.map_map]; rfl
      rw [e2] at hys
      refine a_all (.lst (SqL.of e3) (DpAll.mono same_show hys)) ⟨_, rfl, ?_⟩
      have e4 : ((bs.map MBlk.d).map madeBlockD).all id = true := by
        rw [List.all_eq_true]
        intro c hc
        obtain ⟨d, hd, rfl⟩ := List.mem_map.mp hc
        obtain ⟨b, hb, rfl⟩ := List.mem_map.mp hd
        exact G.block_ok hb
      rw [e4, if_neg (by decide)]
      exact yes _ _ ⟨rfl, s2.trans s3⟩
  rintro σ' H3 ⟨rfl, s3⟩
  clear s2
  refine seq_mid (fun σ' H1 => ∃ la, σ' = [some (.ref p), some (.ref a), some (.int B), none, some (.ref la), none, none] ∧ Same H H1 ∧ H1 la = some (.lst ((bs.map MBlk.label).map V.str))) (fun Kx yes => ?_) ?_
  · walk_at "rd"
    refine a_lc ?_
    walk_at "rd"
    refine ⟨⟨xs, sqL_same (up s3) hxs⟩, fun D nD => ?_⟩
    refine lc_data (K := K) (ds := bs.map MBlk.d) (ms := p :: ms) walk_list nD (tk1.same s3) (by rw [List.length_map, sizeLine_eq]; omega) (DpAll.mono (Same.hide s3 _) hxa) (fun H4 s4 => sqL_same (up (s3.trans s4)) hxs) (fun _ => true) (fun d => match d with
      | .tuple (x :: _) => x
      | _ => .none) (fun y d H3 hd3 s3 hD3 hy => ?_) (fun H4 ys s4 e4 hys => ?_)
    · obtain ⟨b, hb, rfl⟩ := List.mem_map.mp hd3
      walk_at "rd"
      exact ⟨fun z => z.elim, fun _ => a_ixTh hy atI_0 fun u hu => ⟨Same.refl _, hu⟩⟩
    · rw [List.filter_eq_self.mpr fun _ _ => rfl] at hys
      have e2 : ((bs.map MBlk.d).map fun d => match d with
        | .tuple (x :: _) => x
        | _ => PyData.none) = (bs.map MBlk.label).map PyData.str := by
        rw [List.map_map, List.map_map]
        rfl
      rw [e2] at hys
      cases DpAll.strs_inv hys
      exact yes _ _ ⟨D, rfl, s3.trans s4, e4⟩
  rintro σ' H4 ⟨la, rfl, s4, e4⟩
  clear s3
  refine seq_mid (fun σ' H1 => σ' = [some (.ref p), some (.ref a), some (.int B), none, some (.ref la), none, none] ∧ Same H H1 ∧ H1 la = some (.lst ((bs.map MBlk.label).map V.str))) (fun Kx yes => ?_) ?_
  · walk_at "rd"
    refine a_sc ?_
    walk_at "rd"
    refine ⟨⟨_, SqL.of e4⟩, fun D nD => ?_⟩
    refine sc_keys (P := P) (w := w) (K := K) (ds := (bs.map MBlk.label).map PyData.str) (ms := []) walk_list nD (by rw [List.length_map, List.length_map]; omega) (DpAll.strs _) (fun H2 s2 => SqL.of (s2 _ _ e4)) (fun d => match d with
      | .str x => .inr x
      | _ => .inl 0) (fun x e H2 Q2 he s2 hx hq => ?_) (fun H2 s2 hK => ?_)
    · obtain ⟨l, hl, rfl⟩ := List.mem_map.mp he
      cases hx
      walk_at "rd"
      exact hq _ (Same.refl _)
    · refine ⟨D, _, rfl, hK, la, _, rfl, .inl (SqL.of (s2 _ _ e4)), _, rfl, _, rfl, ?_⟩
      have ek : ((bs.map MBlk.label).map PyData.str).map (fun d => match d with
          | .str x => (.inr x : Key)
          | _ => .inl 0) = (bs.map MBlk.label).map Sum.inr := by rw [List.map_map]; rfl
      have nd : ((bs.map MBlk.label).map (Sum.inr : Str → Key)).Nodup := List.pairwise_map.mpr (G.nodup.imp fun h z => h (Sum.inr.inj z))
      rw [ek, addKeys_nodup _ [] (by rw [List.nil_append]; exact nd), List.nil_append]
      rw [if_neg (by simp only [List.length_map]; omega)]
      exact yes _ _ ⟨rfl, s4.trans s2, s2 _ _ e4⟩
  rintro σ' H5 ⟨rfl, s5, e5⟩
  clear s4 e4
  refine seq_mid (fun σ' H1 => σ' = [some (.ref p), some (.ref a), some (.int B), none, some (.ref la), none, none] ∧ Same H H1) (fun Kx yes => ?_) ?_
  · walk_at "rd"
    refine a_lc2 ?_
    walk_at "rd"
    refine ⟨⟨xs, sqL_same (up s5) hxs⟩, fun D nD => ?_⟩
    refine lc2_data (K := K) (ds := bs.map MBlk.d) (ms := p :: ms) walk_list nD 2 (DpAll.mono (Same.hide s5 _) hxa) (fun H3 s3 => sqL_same (up (s5.trans s3)) hxs) (fun d => match d with
      | .tuple [_, _, _, .tuple (_ :: ls), _] => ls
      | _ => []) (fun _ e => .bool (match e with
      | .str l => decide (l ∈ bs.map MBlk.label)
      | _ => false)) (fun d hd => ?_) (by rw [List.length_map, sizeLine_eq]; omega) (fun y d H6 hd6 s6 hD6 hy => ?_) (fun H6 ys s6 e6 hys => ?_)
    · obtain ⟨b, hb, rfl⟩ := List.mem_map.mp hd
      show (b.fin.labels.map PyData.str).length ≤ 2
      rw [List.length_map]
      exact fin_two _
    · obtain ⟨b, hb, rfl⟩ := List.mem_map.mp hd6
      walk_at "rd"
      refine a_ixTh hy atI_3 fun u hu => ?_
      obtain ⟨ea, es, rfl, hes, hea⟩ := dp_tuple hu
      cases hea with
      | cons hwd hel =>
        cases hwd
        cases DpAll.strs_inv hel
        have hes2 := sqT_same same_show hes
        refine ⟨ea, _, rfl, hes2, cut1_not, fun p4 np4 => ?_⟩
        rw [cut1]
        walk_at "rd"
        have s7 := same_new (o := HO.tup (b.fin.labels.map V.str)) np4
        have tkD : Tk H6 [D] := fun m hm => by rw [List.mem_singleton.mp hm]; exact hD6
        have e7 := new_at (o := HO.tup (b.fin.labels.map V.str)) tkD np4
        refine ⟨⟨_, SqT.of upd_same⟩, s7, _, _, walk_tup, DpAll.strs _, fun H8 s8 => SqT.of (hide_of (s8 _ _ e7)).1, fun y e H8 he s8 hD8 hy8 => ?_⟩
        obtain ⟨l, hl, rfl⟩ := List.mem_map.mp he
        cases hy8
        walk_at "rd"
        have la8 : H8 la = some (.lst ((bs.map MBlk.label).map V.str)) := by
          have q := (s6.trans s7) _ _ e5
          have ne : la ∉ [D] := fun z => by rw [List.mem_singleton.mp z, nD] at e5; cases e5
          have q2 : hide (upd H6 p4 (HO.tup (b.fin.labels.map V.str))) [D] la = some (.lst ((bs.map MBlk.label).map V.str)) := by rw [hide_at ne]; exact q
          exact (hide_of (s8 _ _ q2)).1
        exact a_in_strs (.inl (SqL.of la8)) ⟨Same.refl _, .bl _⟩
    · have e7 : ((bs.map MBlk.d).map fun d => ((match d with
        | .tuple [_, _, _, .tuple (_ :: ls), _] => ls
        | _ => []).map fun e => PyData.bool (match e with
        | PyData.str l => decide (l ∈ bs.map MBlk.label)
        | _ => false))).flatten = ((bs.map fun b => b.fin.labels.map fun l => decide (l ∈ bs.map MBlk.label)).flatten).map PyData.bool := by
        rw [List.map_flatten, List.map_map, List.map_map]
        congr 1
        refine List.map_congr_left fun b _ => ?_
        show (b.fin.labels.map PyData.str).map _ = _
        rw [List.map_map]
        show _ = (b.fin.labels.map fun l => decide (l ∈ bs.map MBlk.label)).map PyData.bool
        rw [List.map_map]
        rfl
      rw [e7] at hys
      refine a_all (.lst (SqL.of e6) (DpAll.mono same_show hys)) ⟨_, rfl, ?_⟩
      have e8 : ((bs.map fun b => b.fin.labels.map fun l => decide (l ∈ bs.map MBlk.label)).flatten).all id = true := by
        rw [List.all_eq_true]
        intro c hc
        obtain ⟨x, hx, hcx⟩ := List.mem_flatten.mp hc
        obtain ⟨b, hb, rfl⟩ := List.mem_map.mp hx
        obtain ⟨l, hl, rfl⟩ := List.mem_map.mp hcx
        exact decide_eq_true (G.ends b hb l hl)
      rw [e8, if_neg (by decide)]
      exact yes _ _ ⟨rfl, s5.trans s6⟩
  rintro σ' H6 ⟨rfl, s6⟩
  walk_at "rd"
  have np0 := new.2.1
  have own : ∀ m ∈ [p], H0 m = none := fun m hm => by rw [List.mem_singleton.mp hm]; exact np0
  refine ⟨_, _, _, s6 _ _ hp, T.c_Made, T.n_Made_many_boxes, by decide, ?_⟩
  have s07 : Same H0 (upd H6 p (.ins (He.ga K (Str.ofString "Made")) dx (putF (Str.ofString "many_boxes") (V.int B) []))) := same_own (new.same.trans s6) (ms := [p]) Sx.at own
  have hid7 : hide (upd H6 p (.ins (He.ga K (Str.ofString "Made")) dx (putF (Str.ofString "many_boxes") (V.int B) []))) (p :: ms) = hide H6 (p :: ms) := hide_upd (List.mem_cons_self ..)
  have e7 : upd H6 p (.ins (He.ga K (Str.ofString "Made")) dx (putF (Str.ofString "many_boxes") (V.int B) [])) p = some (.ins (He.ga K (Str.ofString "Made")) dx (putF (Str.ofString "many_boxes") (V.int B) [])) := upd_same
  generalize upd H6 p (.ins (He.ga K (Str.ofString "Made")) dx (putF (Str.ofString "many_boxes") (V.int B) [])) = H7 at *
  refine ⟨p :: ms, .ref a, bs, rfl, Tk.cons e7 (tk.same s07), by rw [hid7]; exact Dp.mono (Same.hide s6 _) d1, six, G.tmany, fun H8 q s8 nq d8 => ⟨_, _, _, s8 _ _ e7, T.c_Made, T.n_Made_made_parts, by show 1 < 1000; decide, ?_⟩⟩
  refine k _ (same_own (s07.trans s8) (ms := [p]) Sx.at own) ⟨dx, q, ?_, ?_⟩
  · rw [hide_at (tk.out np0), upd_same]
    rfl
  · refine Dp.mono (same_less (ms := p :: ms) fun a ha => List.mem_cons_of_mem _ ha) ?_
    rw [hide_upd (List.mem_cons_self ..)]
    exact d8
end
end Pb

/-! PbMin -/
set_option Elab.async false
set_option linter.all false
set_option maxRecDepth 100000
set_option maxHeartbeats 4000000
/-! Pb: min of a list of data -/
namespace Pb
open PySem PySem.Spec PyProof.Rows L2
section
variable {X : Cx} {j : Nat}
def rMinD (K : PySem.W.Frag) : List V → Hp → VK → Prop := fun xs H Q => ∃ a x ds, xs = [.ref a] ∧ Dp K H (.ref a) (.list (x :: ds)) ∧ PySem.W.AlikeAll (x :: ds) ∧ PyData.depthAll (x :: ds) ≤ 20 ∧ ∀ v, Dp K H v (PySem.W.minD x ds) → Q v H
theorem call_minD (hc : X.calm = true) (hr : Room j X.A) : CallR X (.builtin "min") (rMinD X.K) := by
  intro pins s σ H xs us Q I r h
  obtain ⟨a, x, ds, rfl, hd, al, dep, q⟩ := h
  obtain ⟨u, rfl, ru⟩ := vals1 r
  cases ru
  obtain ⟨a', vs, e, hq, hva⟩ := dp_list hd
  cases e
  obtain ⟨its, rv, ht, hsz⟩ := I.list hq
  obtain ⟨as, ra⟩ := Dp.readsAll I (x :: ds) vs its hva rv
  have un := hr.un
  refine PySem.W.min_list_data (I.ok.hd hc) ht.isList (by simpa using ra) al (by omega) fun i v h' tk bs hi r2 keep => ?_
  have I2 : L2.Inv X pins σ H { s with heap := h', toks := tk } := I.kept (t' := tk) keep
  have hi2 : its[i]? = some v := by simpa using hi
  obtain ⟨z, ez, rz⟩ : ∃ z, vs[i]? = some z ∧ RelV z v := by
    cases e : vs[i]? with
    | none => rw [rv.none_of e] at hi2; cases hi2
    | some z =>
      obtain ⟨u, eu, ru⟩ := rv.get e
      rw [hi2] at eu
      cases eu
      exact ⟨z, rfl, ru⟩
  obtain ⟨d, ed, dz⟩ := DpAll.at hva ez
  obtain ⟨bs2, r3⟩ := Dp.reads I2 d z v dz rz
  have e := (PyProof.Rows.reads_det (fun _ _ e _ => e) r3 r2).1
  subst e
  exact ⟨z, H, I2, rz, q z dz⟩
end
theorem dc_inv {J : It} {n : Nat} {G : Hp → Prop} {Y : Nat → Hp → V → Hp → Prop} (w : Walk J n G Y) {g : TG} {tt : TT} {tk tv : TE} {vs : List Nat} {σ : L2.St} {H1 : Hp} {D : Addr} {Qd : Hp → Prop} (Pv : Nat → Hp → Prop) (h0 : Pv 0 (upd H1 D (.dK []))) (hG : ∀ i H, i ≤ n → Pv i H → G H)
    (hs : ∀ Pw : Nat → Hp → Prop, (∀ i H, Pv i H → Pw i H) → ∀ i x H H', i < n → Pv i H → Y i H x H' → g x (wipe σ vs) H' fun σ2 H2 => wipe σ2 vs = wipe σ vs ∧ tt σ2 H2 fun b H3 =>
      if b = true then tk σ2 H3 fun y H4 => tv σ2 H4 fun z H5 => ∃ kvs k, y = kV k ∧ H5 D = some (.dK kvs) ∧ kvs.length < sizeLine ∧ Pw (i + 1) (upd H5 D (.dK (putK kvs k z))) else Pw (i + 1) H3) (hd : ∀ H, Pv n H → Qd H) : DcGoal g tt tk tv vs σ J H1 D Qd := by
  refine ⟨fun i m H => m = n - i ∧ i ≤ n ∧ Pv i H, ⟨n, by simp, Nat.zero_le _, h0⟩, ?_⟩
  rintro i m H ⟨rfl, hi, p⟩
  by_cases hlt : i < n
  · refine .inr ⟨w.goes i H hlt (hG i H hi p), Pv (i + 1), fun H' q => ⟨n - (i + 1), by omega, rfl, hlt, q⟩, fun x H' y => ?_⟩
    refine ⟨_, hs Pv (fun _ _ q => q) i x H H' hlt p (w.yields i H x H' hlt (hG i H hi p) y), fun σ2 H2 q => ⟨q.1, _, q.2, fun b H3 q => ?_⟩⟩
    cases b with
    | true => exact ⟨_, q, fun y H4 q => ⟨_, q, fun z H5 q => q⟩⟩
    | false => exact q
  · have e : i = n := by omega
    subst e
    exact .inl ⟨w.stops H (hG i H hi p), hd H p⟩
end Pb

/-! W13a -/
set_option Elab.async false
set_option linter.all false
set_option maxRecDepth 100000
set_option maxHeartbeats 4000000
namespace Pb
open PySem PySem.Spec PyProof.Rows L2
open C8 (Cal Mak Met pe_c pe_mk pe_mt pe_mt0 pe_gc fnScope_by)
/-! short words -/
local macro_rules | `(tactic| walk_at "rd") => `(tactic| try simp only [tVar, tC, tAdd, tSub, t2I, tIsN, tNotN, tB, tAnd, tOr, tNot, tAndV, tOrV, tNotV, tIf, tSeq, tPar, tPar3, tNext, tBreak, tCont, tDrop, tRet, tRetN, tIfS, gName, gNil, gCons, gTup, gSub, tAsg, tAug, ipI, iList, iTup, iRng1, iRng2, iStr, iEnum, iZip,
  tOp, tUn, rI, rI0, rU, tTest, tChain, tFld, sFld, sFldAug, L2.rAdd, L2.rSub, tNil, tCons, tTup, tLst, tCall, tMeth, tMake, tCB, tNoPart, tPart, tSl, tBM0, tBM, tDGet, tDGet1, tDGet2, tDIn, tDNotIn, sDPut, tDNewK, rEq, rNe, scal_ii, scal_ss, scal_bb, scal_nn, scal_ni, scal_in, scal_ns, scal_sn, scal_is, scal_si, List.take_succ_cons, List.take_zero, List.drop_succ_cons, List.drop_zero, upd_same, upd_upd, and_assoc, tKGet, gStar, tDisp, tPairs, tYes,
  L2.start, List.map_cons, List.map_nil, List.length_cons, List.length_nil, List.cons_append, List.nil_append, List.append_nil, List.replicate, Nat.sub_self, Nat.add_sub_cancel, Nat.reduceAdd, Nat.reduceSub, List.set_cons_zero, List.set_cons_succ, List.getElem?_cons_zero, List.getElem?_cons_succ,
  Option.some.injEq, V.int.injEq, V.bl.injEq, V.str.injEq, V.ref.injEq, exists_eq_left', exists_eq_left, exists_eq', exists_eq, true_and, and_true, if_true, if_false, Bool.false_eq_true, List.cons.injEq, Bool.not_true, Bool.not_false, cxK, cxP, cxW, ite_true, ite_false, wipe, reduceCtorEq, and_self, decide_true, decide_false, exists_and_left, exists_const, decide_eq_true_eq])
local macro_rules | `(tactic| walk_at "len") => `(tactic| (intro vs H Q E h; repeat (first | (obtain ⟨e, _⟩ := h; subst e; rfl) | (obtain ⟨_, h⟩ := h))))
local macro_rules | `(tactic| walk_at "wd") => `(tactic| simp (config := {decide := true}) only [V.str.injEq, scal_ss, true_and, if_true, if_false])

/-! the fewest moves through a block -/
def between (a b : Nat) : List Mv := if a < b then List.replicate (b - a) .fill else List.replicate (a - b) .spill
/-- a step of a made row: a move, a row, an end -/
inductive Ms where
  | m (a : Mv) | r (a : Row) | e (a : Fin)
def Ms.d : Ms → PyData
  | .m a => a.d
  | .r a => a.d
  | .e a => a.d
structure Stp where
  t : Nat
  m : Int
  x : Ms
def stepsOf (b : Blk) : List Stp := b.rows.map (fun r => ⟨r.touch, r.more, .r r⟩) ++ [⟨b.fin.touch, b.fin.more, .e b.fin⟩]
/-- how many boxes are full; the fewest moves; the rows -/
structure Way where
  f : Nat
  c : Nat
  rs : List Ms
def candT (full : Nat) (w : Way) : PySem.W.Tup Int := ⟨[((w.c : Nat) : Int) + (((w.f : Int) - (full : Nat)).natAbs : Nat), (w.f : Nat), (w.f : Nat)]⟩
def bestT : List Way → Nat → PySem.W.Tup Int
  | [], _ => ⟨[]⟩
  | w :: ws, full => PySem.W.minOf (candT full w) (ws.map (candT full))
def wayAt (here : List Way) (f : Nat) : List Ms := ((here.find? fun w => decide (w.f = f)).map Way.rs).getD []
def topAt (B : Nat) (high more : Int) : Int := min (min B high) (B - more)
def stepWay (B : Nat) (here : List Way) (high : Int) (s : Stp) : List Way :=
  (List.range (topAt B high s.m + 1 - s.t).toNat).map fun k =>
    let full := s.t + k
    let t := bestT here full
    let one := (t.items.getD 2 0).toNat
    ⟨((full : Int) + s.m).toNat, (t.items.getD 0 0).toNat, wayAt here one ++ (between one full).map Ms.m ++ [s.x]⟩
def runW (B : Nat) (ss : List Stp) (a : List Way × Int) : List Way × Int := ss.foldl (fun a s => (stepWay B a.1 a.2 s, a.2 + s.m)) a
def waysThrough (B : Nat) (b : Blk) (bg : Nat) (hi : Int) : List Way := (runW B (stepsOf b) ([⟨bg, 0, []⟩], hi)).1.map fun w => ⟨w.f, w.c, w.rs.dropLast⟩
def Way.d (w : Way) : PyData := .tuple [.int (w.c : Nat), .list (w.rs.map Ms.d)]
def wayKv (ws : List Way) : List (Key × PyData) := ws.map fun w => (Sum.inl (w.f : Int), w.d)
/-- what a block's way through asks -/
structure WayOk (B : Nat) (b : Blk) (bg : Nat) (hi : Int) : Prop where
  b3 : 3 ≤ B
  b5 : B ≤ 5
  bg : (bg : Int) ≤ min (B : Int) hi
  wok : wok hi b.words
  many : b.rows.length ≤ 12
def sp_ways_through (K : PySem.W.Frag) : Sp := fun vs H Q _ => ∃ ms v1 v2 b, ∃ bg : Nat, ∃ hi : Int, ∃ B : Nat, vs = [v1, v2, .int bg, .int hi, .int B] ∧ Tk H ms ∧ Dp K (hide H ms) v1 (rowsD b.rows) ∧ Dp K (hide H ms) v2 b.fin.d ∧ WayOk B b bg hi ∧
  ∀ H' q kvs, Same H H' → H q = none → H' q = some (.dK kvs) → KvD K (hide H' (q :: ms)) kvs (wayKv (waysThrough B b bg hi)) → Q (.ref q) H'
def sp_moves_between (K : PySem.W.Frag) : Sp := fun vs H Q _ => ∃ ms, ∃ a b : Nat, vs = [.int a, .int b] ∧ Tk H ms ∧ a ≤ 100 ∧ b ≤ 100 ∧ ∀ H' q, Same H H' → H q = none → Dp K (hide H' ms) (.ref q) (tailD (between a b)) → Q (.ref q) H'
/-! ### what a step does -/
theorem minOf_mem {α : Type} [DecidableEq α] [PySem.W.DatumOrd α] : ∀ (xs : List α) (x : α), PySem.W.minOf x xs ∈ x :: xs
  | [], x => List.mem_cons_self ..
  | y :: ys, x => by
    show PySem.W.minOf (if PySem.W.DatumOrd.lt y x = true then y else x) ys ∈ _
    have q := minOf_mem ys (if PySem.W.DatumOrd.lt y x = true then y else x)
    rcases List.mem_cons.mp q with h | h
    · rw [h]
      split
      · exact List.mem_cons_of_mem _ (List.mem_cons_self ..)
      · exact List.mem_cons_self ..
    · exact List.mem_cons_of_mem _ (List.mem_cons_of_mem _ h)
theorem bestT_mem {here : List Way} (ne : here ≠ []) (full : Nat) : ∃ w ∈ here, bestT here full = candT full w := by
  cases here with
  | nil => exact absurd rfl ne
  | cons w ws =>
    have q := minOf_mem (ws.map (candT full)) (candT full w)
    rw [← List.map_cons] at q
    obtain ⟨v, hv, e⟩ := List.mem_map.mp q
    exact ⟨v, hv, e.symm⟩
structure WayI (B n : Nat) (ws : List Way) : Prop where
  ne : ws ≠ []
  nd : (ws.map Way.f).Nodup
  le : ∀ w ∈ ws, w.f ≤ B
  short : ∀ w ∈ ws, w.rs.length ≤ 6 * n
  six : ws.length ≤ 6
theorem wayAt_of {ws : List Way} (nd : (ws.map Way.f).Nodup) {w : Way} (hw : w ∈ ws) : wayAt ws w.f = w.rs := by
  unfold wayAt
  have q : ws.find? (fun v => decide (v.f = w.f)) = some w := by
    induction ws with
    | nil => cases hw
    | cons v vs ih =>
      by_cases e : v.f = w.f
      · rw [List.find?_cons_of_pos (by exact decide_eq_true e)]
        rcases List.mem_cons.mp hw with h | h
        · rw [h]
        · exact absurd (List.mem_map.mpr ⟨w, h, e.symm⟩) (List.nodup_cons.mp nd).1
      · rw [List.find?_cons_of_neg (by show ¬ decide (v.f = w.f) = true; rw [decide_eq_false e]; exact Bool.false_ne_true)]
        rcases List.mem_cons.mp hw with h | h
        · exact absurd (by rw [h]) e
        · exact ih (List.nodup_cons.mp nd).2 h
  rw [q]
  rfl
theorem between_len {a b n : Nat} (ha : a ≤ n) (hb : b ≤ n) : (between a b).length ≤ n := by
  unfold between
  split <;> rw [List.length_replicate] <;> omega
/-- a step that can be done -/
structure StpOk (B : Nat) (high : Int) (s : Stp) : Prop where
  top : (s.t : Int) ≤ topAt B high s.m
  neg : -(s.t : Int) ≤ s.m
  low : -1 ≤ s.m
theorem stepWay_len {B : Nat} {here : List Way} {high : Int} {s : Stp} : (stepWay B here high s).length = (topAt B high s.m + 1 - s.t).toNat := by
  unfold stepWay
  rw [List.length_map, List.length_range]
theorem topAt_le {B : Nat} {high m : Int} : topAt B high m ≤ B ∧ topAt B high m ≤ high ∧ topAt B high m ≤ B - m := by
  unfold topAt
  omega
/-- the k-th way behind a step -/
def wayK (here : List Way) (s : Stp) (k : Nat) : Way :=
  let full := s.t + k
  let t := bestT here full
  let one := (t.items.getD 2 0).toNat
  ⟨((full : Int) + s.m).toNat, (t.items.getD 0 0).toNat, wayAt here one ++ (between one full).map Ms.m ++ [s.x]⟩
theorem stepWay_eq {B : Nat} {here : List Way} {high : Int} {s : Stp} : stepWay B here high s = (List.range (topAt B high s.m + 1 - s.t).toNat).map (wayK here s) := rfl
theorem wayK_of {B n : Nat} {here : List Way} (I : WayI B n here) (s : Stp) (k : Nat) : ∃ w ∈ here, bestT here (s.t + k) = candT (s.t + k) w ∧ wayK here s k = ⟨(((s.t + k : Nat) : Int) + s.m).toNat, w.c + ((w.f : Int) - ((s.t + k : Nat) : Int)).natAbs, w.rs ++ (between w.f (s.t + k)).map Ms.m ++ [s.x]⟩ := by
  obtain ⟨w, hw, e⟩ := bestT_mem I.ne (s.t + k)
  refine ⟨w, hw, e, ?_⟩
  unfold wayK
  simp only [e]
  have e2 : ((candT (s.t + k) w).items.getD 2 0).toNat = w.f := rfl
  have e0 : ((candT (s.t + k) w).items.getD 0 0).toNat = w.c + ((w.f : Int) - ((s.t + k : Nat) : Int)).natAbs := by
    show (((w.c : Nat) : Int) + (((w.f : Int) - ((s.t + k : Nat) : Int)).natAbs : Nat)).toNat = _
    omega
  rw [e2, e0, wayAt_of I.nd hw]
theorem stepWay_ok {B n : Nat} {here : List Way} {high : Int} {s : Stp} (I : WayI B n here) (b5 : B ≤ 5) (ok : StpOk B high s) : WayI B (n + 1) (stepWay B here high s) := by
  have ht := topAt_le (B := B) (high := high) (m := s.m)
  have h1 := ok.top
  have h2 := ok.neg
  have h3 := ok.low
  refine ⟨?_, ?_, ?_, ?_, ?_⟩
  · intro z
    have q := congrArg List.length z
    rw [stepWay_len, List.length_nil] at q
    omega
  · rw [stepWay_eq, List.map_map]
    refine List.pairwise_map.mpr (List.nodup_range.imp fun {a b} hab z => hab ?_)
    have z2 : (((s.t + a : Nat) : Int) + s.m).toNat = (((s.t + b : Nat) : Int) + s.m).toNat := z
    omega
  · intro w hw
    rw [stepWay_eq] at hw
    obtain ⟨k, hk, rfl⟩ := List.mem_map.mp hw
    have hk2 := List.mem_range.mp hk
    show (((s.t + k : Nat) : Int) + s.m).toNat ≤ B
    omega
  · intro w hw
    rw [stepWay_eq] at hw
    obtain ⟨k, hk, rfl⟩ := List.mem_map.mp hw
    have hk2 := List.mem_range.mp hk
    obtain ⟨v, hv, _, e⟩ := wayK_of I s k
    rw [e]
    show (v.rs ++ (between v.f (s.t + k)).map Ms.m ++ [s.x]).length ≤ 6 * (n + 1)
    have l1 := I.short v hv
    have l2 := between_len (a := v.f) (b := s.t + k) (n := 5) (by have := I.le v hv; omega) (by omega)
    rw [List.length_append, List.length_append, List.length_map, List.length_singleton]
    omega
  · rw [stepWay_len]
    omega
theorem runW_snoc {B : Nat} {ss : List Stp} {s : Stp} {a : List Way × Int} : runW B (ss ++ [s]) a = (stepWay B (runW B ss a).1 (runW B ss a).2 s, (runW B ss a).2 + s.m) := by
  unfold runW
  rw [List.foldl_append]
  rfl
theorem stepsOf_len {b : Blk} : (stepsOf b).length = b.rows.length + 1 := by
  unfold stepsOf
  simp
theorem row_room (r : Row) : (r.touch : Int) + max 0 r.more ≤ 3 ∧ -(r.touch : Int) ≤ r.more ∧ -1 ≤ r.more ∧ r.touch ≤ 2 := by
  cases r <;> simp only [Row.touch, Row.more] <;> omega
theorem fin_room (r : Fin) : (r.touch : Int) + max 0 r.more ≤ 3 ∧ -(r.touch : Int) ≤ r.more ∧ -1 ≤ r.more ∧ r.touch ≤ 2 := by
  cases r <;> simp only [Fin.touch, Fin.more] <;> omega
theorem stp_words {b : Blk} {i : Nat} {s : Stp} (e : (stepsOf b)[i]? = some s) : ∃ w, b.words[i]? = some w ∧ touchN w = s.t ∧ changeN w = s.m ∧ (s.t : Int) + max 0 s.m ≤ 3 ∧ -(s.t : Int) ≤ s.m ∧ -1 ≤ s.m ∧ ∃ tl, s.x.d = .tuple (.str w :: tl) ∧ (w ∈ c_SUMS ∨ w ∈ c_TOUCHES.map (·.1)) := by
  unfold stepsOf at e
  unfold Blk.words
  by_cases h : i < b.rows.length
  · rw [List.getElem?_append_left (by rw [List.length_map]; exact h), List.getElem?_map, List.getElem?_eq_getElem h] at e
    cases e
    have q := row_room b.rows[i]
    exact ⟨b.rows[i].word, by rw [List.getElem?_append_left (by rw [List.length_map]; exact h), List.getElem?_map, List.getElem?_eq_getElem h]; rfl, Row.touch_eq _, Row.more_eq _, q.1, q.2.1, q.2.2.1, _, rfl, Row.known _⟩
  · rw [List.getElem?_append_right (by rw [List.length_map]; omega), List.length_map] at e
    cases z : i - b.rows.length with
    | zero =>
      rw [z] at e
      cases e
      have q := fin_room b.fin
      exact ⟨b.fin.word, by rw [List.getElem?_append_right (by rw [List.length_map]; omega), List.length_map, z]; rfl, Fin.touch_eq _, Fin.more_eq _, q.1, q.2.1, q.2.2.1, _, rfl, Fin.known _⟩
    | succ k => rw [z] at e; simp at e
/-- where one stands ahead of the i-th step -/
theorem runW_ok {B : Nat} {b : Blk} {bg : Nat} {hi : Int} (ok : WayOk B b bg hi) : ∀ i, i ≤ (stepsOf b).length → WayI B i (runW B ((stepsOf b).take i) ([⟨bg, 0, []⟩], hi)).1 ∧ (runW B ((stepsOf b).take i) ([⟨bg, 0, []⟩], hi)).2 = after hi (b.words.take i) ∧
    ∀ s, (stepsOf b)[i]? = some s → StpOk B (after hi (b.words.take i)) s := by
  have h3 := ok.b3
  have h5 := ok.b5
  have hs : ∀ i s, (stepsOf b)[i]? = some s → StpOk B (after hi (b.words.take i)) s := fun i s e => by
    obtain ⟨w, ew, e1, e2, z1, z2, z3, _⟩ := stp_words e
    have q := wok_at ok.wok ew
    rw [e1, e2] at q
    refine ⟨?_, z2, z3⟩
    unfold topAt
    omega
  intro i
  induction i with
  | zero =>
    intro _
    refine ⟨⟨by simp [runW], by simp [runW], fun w hw => ?_, fun w hw => ?_, by simp [runW]⟩, by simp [runW, after_nil], hs 0⟩
    · have e : w = ⟨bg, 0, []⟩ := List.mem_singleton.mp hw
      rw [e]
      have := ok.bg
      show bg ≤ B
      omega
    · have e : w = ⟨bg, 0, []⟩ := List.mem_singleton.mp hw
      rw [e]
      exact Nat.zero_le _
  | succ i ih =>
    intro h
    obtain ⟨I, e, _⟩ := ih (by omega)
    obtain ⟨s, es⟩ : ∃ s, (stepsOf b)[i]? = some s := ⟨_, List.getElem?_eq_getElem (by omega)⟩
    have et : (stepsOf b).take (i + 1) = (stepsOf b).take i ++ [s] := by rw [List.take_succ, es]; rfl
    rw [et, runW_snoc]
    refine ⟨?_, ?_, hs (i + 1)⟩
    · show WayI B (i + 1) (stepWay B _ _ s)
      rw [e]
      exact stepWay_ok I h5 (hs i s es)
    · show (runW B ((stepsOf b).take i) ([⟨bg, 0, []⟩], hi)).2 + s.m = _
      obtain ⟨w, ew, _, e2, _⟩ := stp_words es
      rw [e, List.take_succ, ew]
      show after hi (b.words.take i) + s.m = after hi (b.words.take i ++ [w])
      rw [after_snoc, e2]
theorem ways_ok {B : Nat} {b : Blk} {bg : Nat} {hi : Int} (ok : WayOk B b bg hi) : WayI B 13 (waysThrough B b bg hi) := by
  have q := (runW_ok ok (stepsOf b).length (Nat.le_refl _)).1
  rw [List.take_length] at q
  have hl := ok.many
  rw [stepsOf_len] at q
  unfold waysThrough
  refine ⟨?_, ?_, ?_, ?_, ?_⟩
  · intro z
    exact q.ne (List.map_eq_nil_iff.mp z)
  · rw [List.map_map]
    exact q.nd
  · intro w hw
    obtain ⟨v, hv, rfl⟩ := List.mem_map.mp hw
    exact q.le v hv
  · intro w hw
    obtain ⟨v, hv, rfl⟩ := List.mem_map.mp hw
    have := q.short v hv
    show v.rs.dropLast.length ≤ _
    rw [List.length_dropLast]
    omega
  · rw [List.length_map]
    exact q.six
/-! ### dicts of ways -/
theorem look_way {ws : List Way} (nd : (ws.map Way.f).Nodup) {w : Way} (hw : w ∈ ws) : look (wayKv ws) (Sum.inl (w.f : Int)) = some w.d := by
  unfold look wayKv
  induction ws with
  | nil => cases hw
  | cons v vs ih =>
    rw [List.map_cons]
    by_cases e : v.f = w.f
    · rw [List.find?_cons_of_pos (by exact decide_eq_true (by rw [e]))]
      rcases List.mem_cons.mp hw with h | h
      · rw [h]; rfl
      · exact absurd (List.mem_map.mpr ⟨w, h, e.symm⟩) (List.nodup_cons.mp nd).1
    · rw [List.find?_cons_of_neg (by show ¬ decide ((Sum.inl (v.f : Int) : Key) = Sum.inl (w.f : Int)) = true; rw [decide_eq_false fun z => e (by have := Sum.inl.inj z; omega)]; exact Bool.false_ne_true)]
      rcases List.mem_cons.mp hw with h | h
      · exact absurd (by rw [h]) e
      · exact ih (List.nodup_cons.mp nd).2 h
theorem KvD.at {K : PySem.W.Frag} {H : Hp} : ∀ {vs : List (Key × V)} {ds : List (Key × PyData)} {i : Nat} {k : Key} {v : V}, KvD K H vs ds → vs[i]? = some (k, v) → ∃ d, ds[i]? = some (k, d) ∧ Dp K H v d
  | _, _, _, _, _, .nil, e => by simp at e
  | _, _, 0, _, _, .cons h _, e => by simp at e; obtain ⟨rfl, rfl⟩ := e; exact ⟨_, rfl, h⟩
  | _, _, i + 1, _, _, .cons _ a, e => by
    obtain ⟨d, h1, h2⟩ := KvD.at (i := i) a (by simpa using e)
    exact ⟨d, by simpa using h1, h2⟩
end Pb

/-! PbLc2 -/
set_option Elab.async false
set_option linter.all false
set_option maxRecDepth 100000
set_option maxHeartbeats 4000000
/-! Pb: a list comprehension of two loops, by invariants; data away from a dict -/
namespace Pb
open PySem PySem.Spec PyProof.Rows L2
def In2 (J1 : It) (g1 : TG) (tt1 : TT) (te : TE) (vs1 : List Nat) (σ2 : L2.St) (H4 : Hp) (D : Addr) (Nx : Hp → Prop) : Prop :=
  ∃ W1 : Nat → Nat → Hp → Prop, (∃ m, W1 0 m H4) ∧ ∀ j k H, W1 j k H →
      (J1.stop j H ∧ Nx H) ∨ (J1.go j H ∧ ∃ Nx1 : Hp → Prop, (∀ H', Nx1 H' → ∃ k', k' < k ∧ W1 (j + 1) k' H') ∧ ∀ x H', J1.yld j H x H' → gM g1 x (wipe σ2 vs1) H' fun σ3 H5 => wipe σ3 vs1 = wipe σ2 vs1 ∧ tMT tt1 σ3 H5 fun b H6 =>
        if b = true then tM te σ3 H6 fun y H7 => ∃ acc, H7 D = some (.lst acc) ∧ acc.length < sizeLine ∧ Nx1 (upd H7 D (.lst (acc ++ [y]))) else Nx1 H6)
theorem in2_inv {J1 : It} {n1 : Nat} {G1 : Hp → Prop} {Y1 : Nat → Hp → V → Hp → Prop} (w1 : Walk J1 n1 G1 Y1) {g1 : TG} {tt1 : TT} {te : TE} {vs1 : List Nat} {σ2 : L2.St} {H4 : Hp} {D : Addr} {Nx : Hp → Prop} (Pv : Nat → Hp → Prop) (h0 : Pv 0 H4) (hG : ∀ i H, i ≤ n1 → Pv i H → G1 H)
    (hs : ∀ Pw : Nat → Hp → Prop, (∀ i H, Pv i H → Pw i H) → ∀ i x H H', i < n1 → Pv i H → Y1 i H x H' → g1 x (wipe σ2 vs1) H' fun σ3 H5 => wipe σ3 vs1 = wipe σ2 vs1 ∧ tt1 σ3 H5 fun b H6 =>
      if b = true then te σ3 H6 fun y H7 => ∃ acc, H7 D = some (.lst acc) ∧ acc.length < sizeLine ∧ Pw (i + 1) (upd H7 D (.lst (acc ++ [y]))) else Pw (i + 1) H6) (hd : ∀ H, Pv n1 H → Nx H) : In2 J1 g1 tt1 te vs1 σ2 H4 D Nx := by
  refine ⟨fun i m H => m = n1 - i ∧ i ≤ n1 ∧ Pv i H, ⟨n1, by simp, Nat.zero_le _, h0⟩, ?_⟩
  rintro i m H ⟨rfl, hi, p⟩
  by_cases hlt : i < n1
  · refine .inr ⟨w1.goes i H hlt (hG i H hi p), Pv (i + 1), fun H' q => ⟨n1 - (i + 1), by omega, rfl, hlt, q⟩, fun x H' y => ?_⟩
    refine ⟨_, hs Pv (fun _ _ q => q) i x H H' hlt p (w1.yields i H x H' hlt (hG i H hi p) y), fun σ2 H2 q => ⟨q.1, _, q.2, fun b H3 q => ?_⟩⟩
    cases b with
    | true => exact ⟨_, q, fun y H4 q => q⟩
    | false => exact q
  · have e : i = n1 := by omega
    subst e
    exact .inl ⟨w1.stops H (hG i H hi p), hd H p⟩
theorem lc2_inv {J : It} {n : Nat} {G : Hp → Prop} {Y : Nat → Hp → V → Hp → Prop} (w : Walk J n G Y) {g g1 : TG} {tt tt1 : TT} {wi1 : TI} {te : TE} {vs vs1 : List Nat} {σ : L2.St} {H1 : Hp} {D : Addr} {Qd : Hp → Prop} (Pv : Nat → Hp → Prop) (h0 : Pv 0 (upd H1 D (.lst []))) (hG : ∀ i H, i ≤ n → Pv i H → G H)
    (hs : ∀ Pw : Nat → Hp → Prop, (∀ i H, Pv i H → Pw i H) → ∀ i x H H', i < n → Pv i H → Y i H x H' → g x (wipe σ vs) H' fun σ2 H2 => wipe σ2 vs = wipe σ vs ∧ tt σ2 H2 fun b H3 => b = true ∧ wi1 σ2 H3 fun J1 H4 => In2 J1 g1 tt1 te vs1 σ2 H4 D (Pw (i + 1)))
    (hd : ∀ H, Pv n H → Qd H) : Lc2Goal g tt wi1 g1 tt1 te vs vs1 σ J H1 D Qd := by
  refine ⟨fun i m H => m = n - i ∧ i ≤ n ∧ Pv i H, ⟨n, by simp, Nat.zero_le _, h0⟩, ?_⟩
  rintro i m H ⟨rfl, hi, p⟩
  by_cases hlt : i < n
  · refine .inr ⟨w.goes i H hlt (hG i H hi p), Pv (i + 1), fun H' q => ⟨n - (i + 1), by omega, rfl, hlt, q⟩, fun x H' y => ?_⟩
    refine ⟨_, hs Pv (fun _ _ q => q) i x H H' hlt p (w.yields i H x H' hlt (hG i H hi p) y), fun σ2 H2 q => ⟨q.1, _, q.2, fun b H3 q => ?_⟩⟩
    obtain ⟨rfl, q⟩ := q
    exact iteT ⟨_, q, fun J1 H4 q => q⟩
  · have e : i = n := by omega
    subst e
    exact .inl ⟨w.stops H (hG i H hi p), hd H p⟩
theorem hide_swap {H0 H : Hp} {ms ks : List Addr} (s : Same H0 H) (n : ∀ k ∈ ks, k ∈ ms ∨ H0 k = none) : Same (hide H0 ms) (hide H ks) := fun b o e => by
  obtain ⟨e1, e2⟩ := hide_of e
  rw [hide_at fun z => (n b z).elim e2 fun z => by rw [z] at e1; cases e1]
  exact s b o e1
theorem atI_natc {α : Type} {xs : List α} {i : Nat} {x : α} (e : xs[i]? = some x) : atI xs (i : Int) = some x := by
  have h := (List.getElem?_eq_some_iff.mp e).1
  unfold atI ixN
  rw [if_pos (by omega), if_pos (by omega)]
  exact e
theorem eqV_str {a b : Str} : eqV (.str a) (.str b) = decide (a = b) := by
  unfold eqV
  first
    | rfl
    | (by_cases q : a = b <;> simp [q])
/-- xs.index(x), the texts unlike -/
theorem a_index {K : PySem.W.Frag} {H : Hp} {a : Addr} {ls : List Str} {l : Str} {j : Nat} {Q : VK} (h : SqL K H a (ls.map V.str)) (nd : ls.Nodup) (e : ls[j]? = some l) (q : Q (.int (j : Nat)) H) : rIndex K (.ref a) [.str l] H Q :=
  ⟨a, _, .str l, j, .str l, rfl, rfl, h, rfl, flat_strs ls, by rw [List.getElem?_map, e]; rfl, by rw [eqV_str]; exact decide_eq_true rfl, fun m z' hm ez => by
    rw [List.getElem?_map] at ez
    cases q : ls[m]? with
    | none => rw [q] at ez; cases ez
    | some k =>
      rw [q] at ez
      cases ez
      rw [eqV_str]
      refine decide_eq_false fun z => ?_
      subst z
      have h1 := (List.getElem?_eq_some_iff.mp q)
      have h2 := (List.getElem?_eq_some_iff.mp e)
      obtain ⟨b1, c1⟩ := h1
      obtain ⟨b2, c2⟩ := h2
      exact (List.pairwise_iff_getElem.mp nd) m j b1 b2 hm (c1.trans c2.symm), q⟩
/-! ### an object made with no argument -/
theorem pe_mk0 {X : Cx} {k j : Nat} {C : Addr} {x : Str} {sp : Sp} {dvs : List V} {p pos : Pos} (c : C8.Mak X.prog X.w X.K X.mg X.base k x C sp dvs) (hr : Room j X.A) (hk : k + 1 ≤ j) (hg : Gl X x) (hdb : (x == ("__debug__" : Str)) = false := by decide) :
    PE X (.Call (.Name x p) [] [] pos) (tMake C sp dvs C8.E0 tNil) := by
  obtain ⟨f, fd, ps, ds, M, F, hm, b, d⟩ := c.ex
  exact pe_make0 M F (hr.mono hk) hg hm b d C8.pass0 hdb
/-! ### data away from a dict -/
def away (H : Hp) (a : Addr) : Prop := ∃ kvs, H a = some (.dK kvs)
theorem rd_away {H : Hp} {a b : Addr} {u : HO} (e : away H a) (h : Rd H b u) (n : ∀ kvs, u ≠ .dK kvs) (nf : ∀ o v, u ≠ .frz o v) : Rd (hide H [a]) b u := by
  obtain ⟨kvs, e⟩ := e
  have ne : b ≠ a := fun z => by
    subst z
    rcases h with h | ⟨o, h⟩
    · rw [e] at h; exact n kvs (Option.some.inj h).symm
    · rw [e] at h; cases h
  have nm : b ∉ [a] := fun z => ne (List.mem_singleton.mp z)
  rcases h with h | ⟨o, h⟩
  · exact .inl (by rw [hide_at nm]; exact h)
  · exact .inr ⟨o, by rw [hide_at nm]; exact h⟩
mutual
theorem Dp.away {K : PySem.W.Frag} {H : Hp} {a : Addr} (e : away H a) : ∀ {v : V} {d : PyData}, Dp K H v d → Dp K (hide H [a]) v d
  | _, _, .non => .non
  | _, _, .bl b => .bl b
  | _, _, .int i => .int i
  | _, _, .str x => .str x
  | _, _, .lst h t => .lst (h.elim (fun h => .inl (rd_away e h (fun _ z => nomatch z) fun _ _ z => nomatch z)) .inr) (DpAll.away e t)
  | _, _, .tup h t => .tup (h.elim (fun h => .inl (rd_away e h (fun _ z => nomatch z) fun _ _ z => nomatch z)) .inr) (DpAll.away e t)
theorem DpAll.away {K : PySem.W.Frag} {H : Hp} {a : Addr} (e : away H a) : ∀ {vs : List V} {ds : List PyData}, DpAll K H vs ds → DpAll K (hide H [a]) vs ds
  | _, _, .nil => .nil
  | _, _, .cons h t => .cons (Dp.away e h) (DpAll.away e t)
end
end Pb

/-! W13 -/
set_option Elab.async false
set_option linter.all false
set_option maxRecDepth 100000
set_option maxHeartbeats 4000000
namespace Pb
open PySem PySem.Spec PyProof.Rows L2
open C8 (Cal Mak Met pe_c pe_mk pe_mt pe_mt0 pe_gc fnScope_by)
/-! short words -/
local macro_rules | `(tactic| walk_at "rd") => `(tactic| try simp only [tVar, tC, tAdd, tSub, t2I, tIsN, tNotN, tB, tAnd, tOr, tNot, tAndV, tOrV, tNotV, tIf, tSeq, tPar, tPar3, tNext, tBreak, tCont, tDrop, tRet, tRetN, tIfS, gName, gNil, gCons, gTup, gSub, tAsg, tAug, ipI, iList, iTup, iRng1, iRng2, iStr, iEnum, iZip,
  tOp, tUn, rI, rI0, rU, tTest, tChain, tFld, sFld, sFldAug, L2.rAdd, L2.rSub, tNil, tCons, tTup, tLst, tCall, tMeth, tMake, tCB, tNoPart, tPart, tSl, tBM0, tBM, tDGet, tDGet1, tDGet2, tDIn, tDNotIn, sDPut, tDNewK, rEq, rNe, scal_ii, scal_ss, scal_bb, scal_nn, scal_ni, scal_in, scal_ns, scal_sn, scal_is, scal_si, List.take_succ_cons, List.take_zero, List.drop_succ_cons, List.drop_zero, upd_same, upd_upd, and_assoc, tKGet, gStar, tDisp, tPairs, tYes,
  L2.start, List.map_cons, List.map_nil, List.length_cons, List.length_nil, List.cons_append, List.nil_append, List.append_nil, List.replicate, Nat.sub_self, Nat.add_sub_cancel, Nat.reduceAdd, Nat.reduceSub, List.set_cons_zero, List.set_cons_succ, List.getElem?_cons_zero, List.getElem?_cons_succ,
  Option.some.injEq, V.int.injEq, V.bl.injEq, V.str.injEq, V.ref.injEq, exists_eq_left', exists_eq_left, exists_eq', exists_eq, true_and, and_true, if_true, if_false, Bool.false_eq_true, List.cons.injEq, Bool.not_true, Bool.not_false, cxK, cxP, cxW, ite_true, ite_false, wipe, reduceCtorEq, and_self, decide_true, decide_false, exists_and_left, exists_const, decide_eq_true_eq])
local macro_rules | `(tactic| walk_at "len") => `(tactic| (intro vs H Q E h; repeat (first | (obtain ⟨e, _⟩ := h; subst e; rfl) | (obtain ⟨_, h⟩ := h))))
local macro_rules | `(tactic| walk_at "wd") => `(tactic| simp (config := {decide := true}) only [V.str.injEq, scal_ss, true_and, if_true, if_false])

theorem min3_int {a b c : Int} : nuMin3 (.int a) (.int b) (.int c) = some (.int (min a (min b c))) := by
  have m2 : ∀ x y : Int, nuMin2 (.int x) (.int y) = some (.int (min x y)) := fun x y => by
    show some (if decide (y < x) = true then V.int y else V.int x) = _
    by_cases h : y < x
    · rw [if_pos (decide_eq_true h), Int.min_eq_right (by omega)]
    · rw [if_neg (by rw [decide_eq_false h]; decide), Int.min_eq_left (by omega)]
  show (nuMin2 (.int a) (.int b)).bind (fun m => nuMin2 m (.int c)) = _
  rw [m2]
  show nuMin2 (.int (min a b)) (.int c) = _
  rw [m2]
  congr 2
  omega
def HasW (K : PySem.W.Frag) (H : Hp) (hd : Addr) (ms : List Addr) (ws : List Way) : Prop := ∃ kvs, H hd = some (.dK kvs) ∧ KvD K (hide H (hd :: ms)) kvs (wayKv ws)
theorem HasW.grow {K : PySem.W.Frag} {H H' : Hp} {hd : Addr} {ms : List Addr} {ws : List Way} (h : HasW K H hd ms ws) (s : Same H H') : HasW K H' hd ms ws := by
  obtain ⟨kvs, e, a⟩ := h
  exact ⟨kvs, s _ _ e, KvD.mono (Same.hide s _) a⟩
def candD (full : Nat) (w : Way) : PyData := .tuple [.int (((w.c : Nat) : Int) + (((w.f : Int) - (full : Nat)).natAbs : Nat)), .int (w.f : Nat), .int (w.f : Nat)]
theorem candD_eq {full : Nat} {w : Way} : candD full w = PySem.W.Datum.toD (candT full w) := rfl
theorem minD_cand {full : Nat} {w0 w : Way} {ws : List Way} (h : bestT (w0 :: ws) full = candT full w) : PySem.W.minD (candD full w0) (ws.map (candD full)) = candD full w := by
  have e : ws.map (candD full) = (ws.map (candT full)).map PySem.W.Datum.toD := by rw [List.map_map]; rfl
  rw [candD_eq, e, PySem.W.minD_map, candD_eq, ← h]
  rfl
theorem alike_cand (full : Nat) (w0 : Way) (ws : List Way) : PySem.W.AlikeAll (candD full w0 :: ws.map (candD full)) := by
  have e : candD full w0 :: ws.map (candD full) = ((w0 :: ws).map (candT full)).map PySem.W.Datum.toD := by rw [List.map_map]; rfl
  rw [e]
  exact PySem.W.alikeAll_datum _
theorem depth_cand (full : Nat) (w0 : Way) (ws : List Way) : PyData.depthAll (candD full w0 :: ws.map (candD full)) ≤ 20 := by
  have e : candD full w0 :: ws.map (candD full) = ((w0 :: ws).map (candT full)).map PySem.W.Datum.toD := by rw [List.map_map]; rfl
  rw [e]
  exact Nat.le_trans (PySem.W.depthAll_map _) (by decide)
theorem cut_last {xs : List V} : cutV xs none (some (-1)) = xs.dropLast := by
  unfold cutV HT.sIx
  have e2 : ((-1 : Int) + (xs.length : Int)).toNat = xs.length - 1 := by omega
  simp only [show (-1 : Int) < 0 by omega, if_true, e2, List.drop_zero, Nat.sub_zero]
  rw [List.dropLast_eq_take]
theorem DpAll.dropLast {K : PySem.W.Frag} {H : Hp} : ∀ {vs : List V} {ds : List PyData}, DpAll K H vs ds → DpAll K H vs.dropLast ds.dropLast
  | _, _, .nil => .nil
  | _, _, .cons _ .nil => .nil
  | _, _, .cons h (.cons h2 t) => .cons h (DpAll.dropLast (.cons h2 t))
theorem wayKv_snoc {ws : List Way} {w : Way} : wayKv (ws ++ [w]) = wayKv ws ++ [(Sum.inl (w.f : Int), w.d)] := by
  unfold wayKv
  rw [List.map_append]
  rfl
theorem stepWay_take {B : Nat} {here : List Way} {high : Int} {s : Stp} {k : Nat} (hk : k < (stepWay B here high s).length) : (stepWay B here high s).take (k + 1) = (stepWay B here high s).take k ++ [wayK here s k] := by
  have e : (stepWay B here high s)[k]? = some (wayK here s k) := by
    rw [stepWay_len] at hk
    rw [stepWay_eq, List.getElem?_map, List.getElem?_range hk]
    rfl
  rw [List.take_succ, e]
  rfl
theorem key_new {ws : List Way} {w : Way} (nd : ((ws ++ [w]).map Way.f).Nodup) : (Sum.inl (w.f : Int) : Key) ∉ (wayKv ws).map (·.1) := fun z => by
  unfold wayKv at z
  rw [List.map_map] at z
  obtain ⟨v, hv, e⟩ := List.mem_map.mp z
  have e2 : (Sum.inl (v.f : Int) : Key) = Sum.inl (w.f : Int) := e
  have e3 : v.f = w.f := by have := Sum.inl.inj e2; omega
  rw [List.map_append] at nd
  exact (List.nodup_append.mp nd).2.2 v.f (List.mem_map.mpr ⟨v, hv, rfl⟩) w.f (List.mem_map.mpr ⟨w, List.mem_singleton.mpr rfl, rfl⟩) e3
section
variable {P : Program} {w : World} {K : PySem.W.Frag} {mg : Str → Option Value} {base : Heap}
theorem ok_moves_between (T : Tx w K mg) : Cal P w K mg base 1 "moves_between" (sp_moves_between K) [] := by
  refine cal_of T.D_moves_between T.g_moves_between sc_moves_between (fun _ _ _ _ _ _ us hl => match us, hl with | [_, _], _ => rfl) (by walk_at "len") fun cdv A outer s H vs Q E hr h => ?_
  refine ⟨_, (pss_one (ps_ret (pe_ifExp (pt_cmpR op_gt (pv 1) (pv 0) (nomark _)) (pe_op op_rep (pe_lst (pa_cons (pe_tup (pa_cons pe_str pa_nil)) pa_nil)) (pe_op op_sub (pv 1) (pv 0))) (pe_op op_rep (pe_lst (pa_cons (pe_tup (pa_cons pe_str pa_nil)) pa_nil)) (pe_op op_sub (pv 0) (pv 1)))))), ?_⟩
  obtain ⟨ms, a, b, rfl, tk, ha, hb, q⟩ := h
  walk_at "rd"
  have one : 1 ≤ sizeLine := by rw [sizeLine_eq]; omega
  have rep : ∀ (m : Mv) (k : Nat), k ≤ 100 → ∀ p, H p = none → ∀ l, upd H p (.tup [.str m.word]) l = none → (between a b = List.replicate k m) → rRep (.ref l) (.int k) (upd (upd H p (.tup [.str m.word])) l (.lst [.ref p])) Q := fun m k hk p np l nl e => by
    refine ⟨l, k, [.ref p], rfl, rfl, upd_same, by omega, by omega, by simp only [List.length_singleton, Int.toNat_natCast, sizeLine_eq]; omega, fun q' nq => ?_⟩
    have s1 := same_new (o := HO.tup [V.str m.word]) np
    have s2 := same_new (o := HO.lst [V.ref p]) nl
    have s3 := same_new (o := HO.lst (List.replicate k [V.ref p]).flatten) nq
    rw [Int.toNat_natCast]
    refine q _ q' (s1.trans (s2.trans s3)) ((s1.trans s2).free nq) ?_
    rw [e]
    have ep : hide (upd (upd (upd H p (.tup [.str m.word])) l (.lst [.ref p])) q' (.lst (List.replicate k [V.ref p]).flatten)) ms p = some (.tup [.str m.word]) := by
      rw [hide_at (tk.out np)]
      exact s3 _ _ (s2 _ _ upd_same)
    refine .lst (.inl (.inl (by rw [hide_at (tk.out ((s1.trans s2).free nq)), upd_same]))) ?_
    have dp : Dp K (hide (upd (upd (upd H p (.tup [.str m.word])) l (.lst [.ref p])) q' (.lst (List.replicate k [V.ref p]).flatten)) ms) (.ref p) m.d := .tup (.inl (.inl ep)) (.cons (.str _) .nil)
    clear ep e nq
    revert dp
    generalize upd (upd (upd H p (.tup [.str m.word])) l (.lst [.ref p])) q' (.lst (List.replicate k [V.ref p]).flatten) = H4
    intro dp
    clear s1 s2 s3 hk nl
    induction k with
    | zero => exact .nil
    | succ k ih => exact .cons dp ih
  by_cases h : a < b
  · rw [if_pos (by omega)]
    refine ⟨one, fun p np => ⟨one, fun l nl => ?_⟩⟩
    have e : ((b : Int) - a) = ((b - a : Nat) : Int) := by omega
    rw [e]
    exact rep .fill (b - a) (by omega) p np l nl (by unfold between; rw [if_pos h])
  · rw [if_neg (by omega)]
    refine ⟨one, fun p np => ⟨one, fun l nl => ?_⟩⟩
    have e : ((a : Int) - b) = ((a - b : Nat) : Int) := by omega
    rw [e]
    exact rep .spill (a - b) (by omega) p np l nl (by unfold between; rw [if_neg h])
theorem ok_ways_through (T : Tx w K mg) (F_touches : Cal P w K mg base 1 "touches" (sp_touches K) []) (F_change : Cal P w K mg base 1 "change" (sp_change K) []) (F_moves_between : Cal P w K mg base 1 "moves_between" (sp_moves_between K) []) : Cal P w K mg base 2 "ways_through" (sp_ways_through K) [] := by
  refine cal_of T.D_ways_through T.g_ways_through sc_ways_through (fun _ _ _ _ _ _ us hl => match us, hl with | [_, _, _, _, _], _ => rfl) (by walk_at "len") fun cdv A outer s H vs Q E hr h => ?_
  refine ⟨_, (pss_cons (ps_set (i := 5) sc_ways_through.nd rfl (by first | exact Or.inl rfl | exact Or.inr rfl) (pe_disp (pps_cons (pv 2) (pe_tup (pa_cons pe_int (pa_cons (pe_lst pa_nil) pa_nil))) pps_nil) (by rfl) (by rfl) (fun z => by cases z) (by decide)))
    (pss_cons (ps_for PassesOwn.never rfl (pi_listK (K := K) (pe_op (r := rCatS K) op_catS (pv 0) (pe_lst (pa_cons (pv 1) pa_nil)))) (pg_name (i := 6) sc_ways_through.nd rfl (by first | exact Or.inl rfl | exact Or.inr rfl)) (pss_cons (ps_set (i := 7) sc_ways_through.nd rfl (by first | exact Or.inl rfl | exact Or.inr rfl) pe_dnewK)
    (pss_cons (ps_for PassesOwn.never rfl (pi_range2 (by rfl) T.b_range (pa_cons (pe_c F_touches hr (by decide) (by rfl) (pa_cons (pv 6) pa_nil)) (pa_cons (pe_op op_add (pe_callB (call_min3Nu rfl) (by rfl) T.b_min (by decide +kernel) (pa_cons (pv 4) (pa_cons (pv 3) (pa_cons (pe_op op_sub (pv 4) (pe_c F_change hr (by decide) (by rfl) (pa_cons (pv 6) pa_nil))) pa_nil)))) pe_int) pa_nil))) (pg_name (i := 8) sc_ways_through.nd rfl (by first | exact Or.inl rfl | exact Or.inr rfl)) (pss_cons (ps_asg (pe_callB (r := rMinD K) (call_minD rfl hr) (by rfl) T.b_min (by decide +kernel) (pa_cons (pe_lock (pe_lc rfl sc_ways_through.nd (pi_keys (pv 5)) (blkOk_by (own := [("one", 11)]) (N := ["rows", "end", "begin", "high", "boxes", "here", "row", "late", "full", "cost", "known", "one", "moves", "made_rows"]) (sc := L2.defScope s_ways_through) (by decide +kernel)) (fun _ _ _ _ _ => (pg_m (pg_name (i := 11) sc_ways_through.nd rfl (by first | exact Or.inl rfl | exact Or.inr rfl)))) (fun _ _ _ _ _ => pts_nilM) (fun _ _ _ _ _ => (pe_m (pe_tup (pa_cons (pe_op op_add (pe_ix (r := rIx K) ix_seq (pe_dget (hu_of hr) (pv 5) (pv 11) (fun _ _ => rfl)) pe_int (fun _ _ => rfl)) (pe_callB call_absI (by rfl) T.b_abs (by decide +kernel) (pa_cons (pe_op op_sub (pv 11) (pv 8)) pa_nil))) (pa_cons (pv 11) (pa_cons (pv 11) pa_nil)))))))) pa_nil)) (pg_tupK (K := K) (n := 3) rfl (pgs_cons (pg_name (i := 9) sc_ways_through.nd rfl (by first | exact Or.inl rfl | exact Or.inr rfl)) (pgs_cons (pg_name (i := 10) sc_ways_through.nd rfl (by first | exact Or.inl rfl | exact Or.inr rfl)) (pgs_cons (pg_name (i := 11) sc_ways_through.nd rfl (by first | exact Or.inl rfl | exact Or.inr rfl)) pgs_nil)))))
    (pss_cons (ps_set (i := 12) sc_ways_through.nd rfl (by first | exact Or.inl rfl | exact Or.inr rfl) (pe_op (r := rCatS K) op_catS (pe_ix (r := rIx K) ix_seq (pe_dget (hu_of hr) (pv 5) (pv 11) (fun _ _ => rfl)) pe_int (fun _ _ => rfl)) (pe_c F_moves_between hr (by decide) (by rfl) (pa_cons (pv 11) (pa_cons (pv 8) pa_nil)))))
    (pss_one (ps_dput (hu_of hr) (pv 7) (pe_op op_add (pv 8) (pe_c F_change hr (by decide) (by rfl) (pa_cons (pv 6) pa_nil))) (pe_tup (pa_cons (pv 9) (pa_cons (pe_op (r := rCatS K) op_catS (pv 12) (pe_lst (pa_cons (pv 6) pa_nil))) pa_nil))) rfl)))))
    (pss_cons (ps_set (i := 5) sc_ways_through.nd rfl (by first | exact Or.inl rfl | exact Or.inr rfl) (pv 7))
    (pss_one (ps_aug (i := 3) sc_ways_through.nd rfl (by first | exact Or.inl rfl | exact Or.inr rfl) (pe_c F_change hr (by decide) (by rfl) (pa_cons (pv 6) pa_nil)) ip_add))))))
    (pss_one (ps_ret (pe_lock (pe_dc rfl sc_ways_through.nd (pi_items (pv 5)) (blkOk_by (own := [("full", 8), ("cost", 9), ("made_rows", 13)]) (N := ["rows", "end", "begin", "high", "boxes", "here", "row", "late", "full", "cost", "known", "one", "moves", "made_rows"]) (sc := L2.defScope s_ways_through) (by decide +kernel)) (fun _ _ _ _ _ => (pg_m (pg_tupK (K := K) (n := 2) rfl (pgs_cons (pg_name (i := 8) sc_ways_through.nd rfl (by first | exact Or.inl rfl | exact Or.inr rfl)) (pgs_cons (pg_tupK (K := K) (n := 2) rfl (pgs_cons (pg_name (i := 9) sc_ways_through.nd rfl (by first | exact Or.inl rfl | exact Or.inr rfl)) (pgs_cons (pg_name (i := 13) sc_ways_through.nd rfl (by first | exact Or.inl rfl | exact Or.inr rfl)) pgs_nil))) pgs_nil))))) (fun _ _ _ _ _ => pts_nilM) (fun _ _ _ _ _ => (pe_m (pv 8))) (fun _ _ _ _ _ => (pe_m (pe_tup (pa_cons (pv 9) (pa_cons (pe_slice (r := rSlL K) sl_list (pv 13) po_none (po_some (pe_un un_neg pe_int))) pa_nil))))))))))), ?_⟩
  obtain ⟨ms, v1, v2, b, bg, hi, B, rfl, tk, d1, d2, ok, q⟩ := h
  have big : ∀ n : Nat, n ≤ 1000000 → n ≤ sizeLine := fun n h => by rw [sizeLine_eq]; omega
  have up : ∀ {H' : Hp}, Same H H' → Same (hide H ms) H' := fun s => same_show.trans s
  obtain ⟨ra, rs, rfl, hrs, hra⟩ := dp_list d1
  have hmn := ok.many
  refine seq_mid (fun σ' H1 => ∃ hd, σ' = [some (.ref ra), some v2, some (.int bg), some (.int hi), some (.int B), some (.ref hd), none, none, none, none, none, none, none, none] ∧ Same H H1 ∧ H hd = none ∧ HasW K H1 hd ms [⟨bg, 0, []⟩]) (fun Kx yes => ?_) ?_
  · walk_at "rd"
    intro hd nd
    have s1 := same_new (o := HO.dK []) nd
    refine ⟨big _ (by decide), fun l nl => ⟨big _ (by decide), fun p np => ⟨keep_at (keep_at upd_same nl) np, [(Sum.inl (bg : Int), .ref p)], rfl, by show 1 ≤ 15; decide, ?_⟩⟩⟩
    have tkd : Tk (upd H hd (.dK [])) (hd :: ms) := Tk.cons upd_same (tk.same s1)
    have s2 := same_new (o := HO.lst []) nl
    have s3 := same_new (o := HO.tup [V.int 0, V.ref l]) np
    have el := s3 _ _ (new_at tkd nl |> fun e => (hide_of e).1)
    have nlm := tkd.out nl
    have ep := new_at (o := HO.tup [V.int 0, V.ref l]) ((tkd.same s2)) np
    have sx : ∀ {o : HO}, Same H (upd (upd (upd (upd H hd (.dK [])) l (.lst [])) p (.tup [.int 0, .ref l])) hd o) := same_own (s1.trans (s2.trans s3)) (ms := [hd]) Sx.at fun m hm => by rw [List.mem_singleton.mp hm]; exact nd
    refine yes _ _ ⟨hd, rfl, sx, nd, _, upd_same, ?_⟩
    rw [hide_upd (List.mem_cons_self ..)]
    exact .cons (.tup (.inl (.inl ep)) (.cons (.int _) (.cons (.lst (.inl (.inl (by rw [hide_at nlm]; exact el))) .nil) .nil))) .nil
  rintro σ' H1 ⟨hd, rfl, s1, nd, hw1⟩
  refine seq_mid (fun σ' H2 => ∃ hd hi' o6 o7 o8 o9 o10 o11 o12, σ' = [some (.ref ra), some v2, some (.int bg), some (.int hi'), some (.int B), some (.ref hd), o6, o7, o8, o9, o10, o11, o12, none] ∧ Same H H2 ∧ H hd = none ∧ HasW K H2 hd ms (runW B (stepsOf b) ([⟨bg, 0, []⟩], hi)).1) (fun Kx yes => ?_) ?_
  · refine a_for ?_
    walk_at "rd"
    refine ⟨big _ (by decide), fun l nl => ?_⟩
    have tkl : Tk H1 ms := tk.same s1
    refine a_catH (ms := ms) (ds := b.rows.map Row.d) (es := [b.fin.d]) (Dp.mono (Same.hide (s1.trans (same_new nl)) ms) d1) (.lst (.inl (.inl (new_at tkl nl))) (.cons (Dp.mono (Same.hide (s1.trans (same_new nl)) ms) d2) .nil)) (by rw [List.length_map, List.length_singleton]; exact big _ (by omega)) fun p ys np hys => ?_
    have eD : b.rows.map Row.d ++ [b.fin.d] = (stepsOf b).map fun s => s.x.d := by
      unfold stepsOf
      rw [List.map_append, List.map_map]
      rfl
    rw [eD] at hys
    have s12 := (same_new (o := HO.lst [v2]) nl).trans (same_new (o := HO.lst ys) np)
    have ep : upd (upd H1 l (.lst [v2])) p (.lst ys) p = some (.lst ys) := upd_same
    replace hys := DpAll.mono (Same.hide (same_new (o := HO.lst ys) np) ms) hys
    replace hw1 := hw1.grow s12
    generalize upd (upd H1 l (.lst [v2])) p (.lst ys) = Hb at *
    have s1b := s1.trans s12
    have hyl : ys.length = (stepsOf b).length := by rw [DpAll.length hys, List.length_map]
    refine ⟨p, rfl, ⟨ys, SqL.of ep⟩, ?_⟩
    refine for_go2 (walk_list (xs := ys)) (fun i σ H2 => ∃ hd o6 o7 o8 o9 o10 o11 o12, σ = [some (.ref ra), some v2, some (.int bg), some (.int (runW B ((stepsOf b).take i) ([⟨bg, 0, []⟩], hi)).2), some (.int B), some (.ref hd), o6, o7, o8, o9, o10, o11, o12, none] ∧ Same Hb H2 ∧ H hd = none ∧ HasW K H2 hd ms (runW B ((stepsOf b).take i) ([⟨bg, 0, []⟩], hi)).1)
      ⟨hd, _, _, _, _, _, _, _, rfl, Same.refl _, nd, hw1⟩ (fun i σ H2 _ q => by
        obtain ⟨_, _, _, _, _, _, _, _, _, q, _⟩ := q
        exact SqL.of (q _ _ ep)) ?_ ?_
    · rintro Pw yes2 i y σ H2 H3 hil ⟨hd, o6, o7, o8, o9, o10, o11, o12, rfl, s2, nd, hw⟩ ⟨e0, ey⟩
      subst e0
      obtain ⟨s, es⟩ : ∃ s, (stepsOf b)[i]? = some s := ⟨_, List.getElem?_eq_getElem (by omega)⟩
      obtain ⟨y', ey', hy⟩ := DpAll.get (d := s.x.d) hys (by rw [List.getElem?_map, es]; rfl)
      rw [ey'] at ey
      obtain rfl : y' = y := Option.some.inj ey
      obtain ⟨I, eh, sok⟩ := runW_ok ok i (by omega)
      have sok := sok s es
      have et : (stepsOf b).take (i + 1) = (stepsOf b).take i ++ [s] := by rw [List.take_succ, es]; rfl
      generalize hW : runW B ((stepsOf b).take i) ([⟨bg, 0, []⟩], hi) = W at *
      obtain ⟨here, high⟩ := W
      have en : runW B ((stepsOf b).take (i + 1)) ([⟨bg, 0, []⟩], hi) = (stepWay B here high s, high + s.m) := by rw [et, runW_snoc, hW]
      replace eh : high = after hi (b.words.take i) := eh
      rw [← eh] at sok
      replace I : WayI B i here := I
      replace hw : HasW K H3 hd ms here := hw
      obtain ⟨wd, ewd, etn, ecn, _, zneg, _, tl, exd, kn⟩ := stp_words es
      have s03 : Same H H3 := s1b.trans s2
      have htop := topAt_le (B := B) (high := high) (m := s.m)
      have hlen := stepWay_len (B := B) (here := here) (high := high) (s := s)
      have b5 := ok.b5
      have dy : ∀ {H' : Hp}, Same Hb H' → Dp K (hide H' ms) y' (.tuple (.str wd :: tl)) := fun s => by rw [← exd]; exact Dp.mono (Same.hide s ms) hy
      refine g_name ?_
      refine seq_mid (fun σ' H4 => ∃ ld, σ' = [some (.ref ra), some v2, some (.int bg), some (.int high), some (.int B), some (.ref hd), some y', some (.ref ld), o8, o9, o10, o11, o12, none] ∧ H3 ld = none ∧ H4 = upd H3 ld (.dK [])) (fun Kx yes3 => ?_) ?_
      · walk_at "rd"
        exact fun ld nl => yes3 _ _ ⟨ld, rfl, nl, rfl⟩
      rintro σ' H4 ⟨ld, rfl, nld, rfl⟩
      refine seq_mid (fun σ' H5 => ∃ o8 o9 o10 o11 o12, σ' = [some (.ref ra), some v2, some (.int bg), some (.int high), some (.int B), some (.ref hd), some y', some (.ref ld), o8, o9, o10, o11, o12, none] ∧ Same H3 H5 ∧ HasW K H5 ld ms (stepWay B here high s)) (fun Kx yes3 => ?_) ?_
      · have s4 := same_new (o := HO.dK []) nld
        have e4 : upd H3 ld (.dK []) ld = some (.dK []) := upd_same
        generalize upd H3 ld (.dK []) = H4 at *
        refine a_for ?_
        walk_at "rd"
        refine ⟨ms, _, wd, tl, rfl, (tk.same s03).same s4, dy (s2.trans s4), kn, ?_⟩
        refine ⟨ms, _, wd, tl, rfl, (tk.same s03).same s4, dy (s2.trans s4), kn, ?_⟩
        rw [etn, ecn]
        have emin : min (B : Int) (min high ((B : Int) - s.m)) = topAt B high s.m := by unfold topAt; omega
        have h1 := sok.top
        refine ⟨_, rfl, _, _, _, _, rfl, min3_int, _, rfl, _, rfl, ?_⟩
        rw [emin]
        refine ⟨by omega, by omega, by omega, by omega, ?_⟩
        refine for_go2 walk_range (fun k σ H5 => ∃ o8 o9 o10 o11 o12, σ = [some (.ref ra), some v2, some (.int bg), some (.int high), some (.int B), some (.ref hd), some y', some (.ref ld), o8, o9, o10, o11, o12, none] ∧ Same H3 H5 ∧ HasW K H5 ld ms ((stepWay B here high s).take k)) ⟨_, _, _, _, _, rfl, s4, [], e4, .nil⟩ (fun _ _ _ _ _ => trivial) ?_ ?_
        · rintro Pw3 yes4 k yk σ H5 H6 hk ⟨o8, o9, o10, o11, o12, rfl, s5, hw5⟩ ⟨e0, ek⟩
          subst e0
          obtain ⟨w, hwm, ebt, ewk⟩ := wayK_of I s k
          have efull : ((s.t : Int) + (k : Nat)) = ((s.t + k : Nat) : Int) := by omega
          obtain rfl : yk = V.int ((s.t + k : Nat) : Int) := by rw [← efull]; exact ek
          have hwf := I.le w hwm
          have hkl : s.t + k ≤ B := by omega
          obtain ⟨kvs, ekv, hkv⟩ := hw.grow s5
          obtain ⟨kvl, ekl, hkvl⟩ := hw5
          have nlh : ld ≠ hd := fun z => by
            obtain ⟨kv0, e0, _⟩ := hw
            rw [← z, nld] at e0
            cases e0
          have tk6 : Tk H6 (ld :: ms) := Tk.cons ekl ((tk.same s03).same s5)
          refine g_name ?_
          refine seq_mid (fun σ' H7 => σ' = [some (.ref ra), some v2, some (.int bg), some (.int high), some (.int B), some (.ref hd), some y', some (.ref ld), some (.int ((s.t + k : Nat) : Int)), some (.int ((w.c + ((w.f : Int) - ((s.t + k : Nat) : Int)).natAbs : Nat) : Int)), some (.int (w.f : Nat)), some (.int (w.f : Nat)), o12, none] ∧ Same H6 H7) (fun Kx5 yes5 => ?_) ?_
          · walk_at "rd"
            unfold tLockE
            refine ⟨hd, _, ekv, trivial, fun od => a_lc ?_⟩
            have tkh : Tk H6 (hd :: ms) := Tk.cons ekv ((tk.same s03).same s5)
            have eL : upd H6 hd (.frz od (.dK kvs)) hd = some (.frz od (.dK kvs)) := upd_same
            have hidL : hide (upd H6 hd (.frz od (.dK kvs))) (hd :: ms) = hide H6 (hd :: ms) := hide_upd (List.mem_cons_self ..)
            have tkL : Tk (upd H6 hd (.frz od (.dK kvs))) (hd :: ms) := Tk.upd tkh
            have outL : ∀ b o, b ≠ hd → H6 b = some o → upd H6 hd (.frz od (.dK kvs)) b = some o := fun b o nb e => by rw [upd_ne nb]; exact e
            rw [← hidL] at hkv
            generalize upd H6 hd (.frz od (.dK kvs)) = HL at *
            have hkl2 : kvs.length = here.length := by rw [KvD.length hkv]; unfold wayKv; rw [List.length_map]
            have h6 := I.six
            walk_at "rd"
            unfold iKeys
            refine ⟨_, rfl, hd, od, rfl, .inl ⟨kvs, eL, fun D nD => ?_⟩⟩
            refine lc_pure (K := K) (ms := hd :: ms) walk_keys nD tkL (by rw [sizeLine_eq]; omega) (fun Hx sx => sx _ _ eL) (fun _ => true) (fun i => ((here[i]?).map (candD (s.t + k))).getD .none) ?_ ?_
            · rintro ix x Hx Hx' hix sx hDx ⟨rfl, k0, v0, ek0, rfl⟩
              obtain ⟨d0, ed0, hd0⟩ := KvD.at hkv ek0
              unfold wayKv at ed0
              rw [List.getElem?_map] at ed0
              cases ehx : here[ix]? with
              | none => rw [ehx] at ed0; cases ed0
              | some v =>
                rw [ehx] at ed0
                cases ed0
                have hvm := List.mem_of_getElem? ehx
                obtain ⟨v', ev', hv'⟩ := KvD.get hkv (look_way I.nd hvm)
                have dg : DGet Hx' hd (.int (v.f : Nat)) (some v') := .inl ⟨kvs, .inl (v.f : Nat), .inr ⟨od, sx _ _ eL⟩, rfl, ev'.symm⟩
                walk_at "rd"
                refine ⟨fun z => z.elim, fun _ => ⟨_, dg, a_ixT (Dp.mono (same_show.trans sx) hv') atI_0 fun u hu => ?_⟩⟩
                cases hu
                refine ⟨_, rfl, _, rfl, _, rfl, _, rfl, big _ (by decide), fun p np => ⟨same_new np, ?_⟩⟩
                have tkD : Tk Hx' (D :: hd :: ms) := fun m hm => by
                  rcases List.mem_cons.mp hm with z | hm
                  · rw [z]; exact hDx
                  · exact (tkL.same sx) m hm
                exact .tup (.inl (.inl (new_at tkD np))) (.cons (.int _) (.cons (.int _) (.cons (.int _) .nil)))
            · intro Hx xs sx eD hxs
              rw [List.filter_eq_self.mpr fun _ _ => rfl, hkl2] at hxs
              have emap : (List.range here.length).map (fun i => ((here[i]?).map (candD (s.t + k))).getD .none) = here.map (candD (s.t + k)) := by
                refine List.ext_getElem (by simp) fun n h1 h2 => ?_
                rw [List.length_map, List.length_range] at h1
                rw [List.getElem_map, List.getElem_range, List.getElem?_eq_getElem h1, List.getElem_map]
                rfl
              rw [emap] at hxs
              refine ⟨sx _ _ eL, ?_⟩
              have ndh : D ≠ hd := fun z => by rw [z, eL] at nD; cases nD
              have sU : Same H6 (upd Hx hd (.dK kvs)) := fun b o e => by
                by_cases q : b = hd
                · rw [q, upd_same]; rw [q, ekv] at e; exact e
                · rw [upd_ne q]; exact sx _ _ (outL b o q e)
              have eU : upd Hx hd (.dK kvs) D = some (.lst xs) := by rw [upd_ne ndh]; exact eD
              have hidU : hide (upd Hx hd (.dK kvs)) (D :: hd :: ms) = hide Hx (D :: hd :: ms) := hide_upd (List.mem_cons_of_mem _ (List.mem_cons_self ..))
              rw [← hidU] at hxs
              generalize upd Hx hd (.dK kvs) = HU at *
              obtain ⟨w0, ws, ehere⟩ : ∃ w0 ws, here = w0 :: ws := by
                cases here with
                | nil => exact absurd rfl I.ne
                | cons w0 ws => exact ⟨w0, ws, rfl⟩
              have ebest : PySem.W.minD (candD (s.t + k) w0) (ws.map (candD (s.t + k))) = candD (s.t + k) w := by
                rw [ehere] at ebt
                exact minD_cand ebt
              rw [ehere, List.map_cons] at hxs
              refine ⟨D, _, _, rfl, .lst (SqL.of eU) (DpAll.mono same_show hxs), alike_cand _ _ _, depth_cand _ _ _, fun v hv => ?_⟩
              rw [ebest] at hv
              obtain ⟨pt, u1, u2, u3, rfl, ht3, q1, q2, q3⟩ := dp_t3 hv
              cases q1
              cases q2
              cases q3
              refine a_t3V ht3 (yes5 _ _ ⟨?_, sU⟩)
              have ec : (((w.c : Nat) : Int) + (((w.f : Int) - ((s.t + k : Nat) : Int)).natAbs : Nat)) = ((w.c + ((w.f : Int) - ((s.t + k : Nat) : Int)).natAbs : Nat) : Int) := by omega
              rw [ec]
              rfl
          rintro σ' H7 ⟨rfl, s7⟩
          have f37 := s5.trans s7
          have tk7 : Tk H7 (ld :: ms) := tk6.same s7
          have es2 : (w.rs ++ (between w.f (s.t + k)).map Ms.m).map Ms.d = w.rs.map Ms.d ++ (between w.f (s.t + k)).map Mv.d := by
            rw [List.map_append, List.map_map]
            rfl
          have l1 := I.short w hwm
          have l2 := between_len (a := w.f) (b := s.t + k) (n := 5) (by omega) (by omega)
          have hir : i ≤ 12 := by rw [hyl, stepsOf_len] at hil; omega
          refine seq_mid (fun σ' H8 => ∃ mv, σ' = [some (.ref ra), some v2, some (.int bg), some (.int high), some (.int B), some (.ref hd), some y', some (.ref ld), some (.int ((s.t + k : Nat) : Int)), some (.int ((w.c + ((w.f : Int) - ((s.t + k : Nat) : Int)).natAbs : Nat) : Int)), some (.int (w.f : Nat)), some (.int (w.f : Nat)), some (.ref mv), none] ∧ Same H7 H8 ∧ Dp K (hide H8 (ld :: ms)) (.ref mv) (.list ((w.rs ++ (between w.f (s.t + k)).map Ms.m).map Ms.d))) (fun Kx5 yes5 => ?_) ?_
          · walk_at "rd"
            obtain ⟨kv0, ek0, hk0⟩ := hw
            have sw : Same (hide H3 (hd :: ms)) (hide H7 (ld :: ms)) := hide_swap f37 fun z hz => by
              rcases List.mem_cons.mp hz with hz | hz
              · exact .inr (by rw [hz]; exact nld)
              · exact .inl (List.mem_cons_of_mem _ hz)
            obtain ⟨u, eu, hu⟩ := KvD.get hk0 (look_way I.nd hwm)
            refine ⟨u, .inl ⟨kv0, .inl (w.f : Nat), .inl (f37 _ _ ek0), rfl, eu.symm⟩, a_ixTh (Dp.mono sw hu) atI_1 fun u2 hu2 => ⟨ld :: ms, w.f, s.t + k, rfl, tk7, by omega, by omega, fun H8 q s8 nq dq => ?_⟩⟩
            have tk8 : Tk H8 (ld :: ms) := tk7.same s8
            refine a_catH (ms := ld :: ms) (Dp.mono (Same.hide s8 _) hu2) dq (by rw [List.length_map, List.length_map]; exact big _ (by omega)) fun p xs np hxs => ?_
            rw [← es2] at hxs
            exact yes5 _ _ ⟨p, rfl, s8.trans (same_new np), .lst (.inl (.inl (new_at tk8 np))) (DpAll.mono (Same.hide (same_new np) _) hxs)⟩
          rintro σ' H8 ⟨mv, rfl, s8, dmv⟩
          walk_at "rd"
          have tk8 : Tk H8 (ld :: ms) := tk7.same s8
          refine ⟨big _ (by decide), fun p np => ?_⟩
          have sp := same_new (o := HO.lst [y']) np
          have f38 := f37.trans s8
          have dy8 : ∀ {H' : Hp}, Same H8 H' → Dp K (hide H' (ld :: ms)) y' (.tuple (.str wd :: tl)) := fun sh => by
            rw [← exd]
            refine Dp.mono (hide_swap (s2.trans (f38.trans sh)) fun z hz => ?_) hy
            rcases List.mem_cons.mp hz with hz | hz
            · exact .inr (by rw [hz]; exact s2.free nld)
            · exact .inl hz
          refine a_catH (ms := ld :: ms) (es := [s.x.d]) (Dp.mono (Same.hide sp _) dmv) (.lst (.inl (.inl (new_at tk8 np))) (.cons (by rw [exd]; exact dy8 sp) .nil)) (by rw [List.length_map, List.length_append, List.length_map, List.length_singleton]; exact big _ (by omega)) fun r xs nr hxs => ⟨big _ (by decide), fun t nt => ?_⟩
          have s89 := sp.trans ((same_new (o := HO.lst xs) nr).trans (same_new (o := HO.tup [V.int ((w.c + ((w.f : Int) - ((s.t + k : Nat) : Int)).natAbs : Nat) : Int), V.ref r]) nt))
          have tkr : Tk (upd H8 p (.lst [y'])) (ld :: ms) := tk8.same sp
          have tkt : Tk (upd (upd H8 p (.lst [y'])) r (.lst xs)) (ld :: ms) := tkr.same (same_new nr)
          have dw : Dp K (hide (upd (upd (upd H8 p (.lst [y'])) r (.lst xs)) t (.tup [V.int ((w.c + ((w.f : Int) - ((s.t + k : Nat) : Int)).natAbs : Nat) : Int), V.ref r])) (ld :: ms)) (.ref t) (wayK here s k).d := by
            rw [ewk]
            refine .tup (.inl (.inl (new_at tkt nt))) (.cons (.int _) (.cons (.lst (.inl (.inl (by rw [hide_at (tkr.out nr)]; exact same_new nt _ _ upd_same))) ?_) .nil))
            show DpAll K _ xs ((w.rs ++ (between w.f (s.t + k)).map Ms.m ++ [s.x]).map Ms.d)
            rw [List.map_append]
            exact DpAll.mono (Same.hide ((same_new nr).trans (same_new nt)) _) hxs
          have ekl9 := (s7.trans (s8.trans s89)) _ _ ekl
          have hkvl9 := KvD.mono (hide_swap (s7.trans (s8.trans s89)) fun z hz => .inl hz) hkvl
          generalize upd (upd (upd H8 p (.lst [y'])) r (.lst xs)) t (.tup [V.int ((w.c + ((w.f : Int) - ((s.t + k : Nat) : Int)).natAbs : Nat) : Int), V.ref r]) = H9 at *
          refine ⟨ld :: ms, _, wd, tl, rfl, tk8.same s89, dy8 s89, kn, _, rfl, ?_⟩
          rw [ecn]
          have hkt : k < (stepWay B here high s).length := by rw [hlen]; exact hk
          have ekey : V.int (((s.t + k : Nat) : Int) + s.m) = kV (Sum.inl ((wayK here s k).f : Int)) := by
            rw [ewk]
            show V.int _ = V.int ((((s.t + k : Nat) : Int) + s.m).toNat : Nat)
            congr 1
            omega
          rw [ekey]
          have nd1 : (((stepWay B here high s).take (k + 1)).map Way.f).Nodup := (stepWay_ok I b5 sok).nd.sublist ((List.take_sublist _ _).map _)
          rw [stepWay_take hkt] at nd1
          have hl6 : kvl.length ≤ 6 := by
            rw [KvD.length hkvl]
            unfold wayKv
            rw [List.length_map, List.length_take]
            have := (stepWay_ok I b5 sok).six
            omega
          refine ⟨_, DPut.k ekl9 (by rw [sizeLine_eq]; omega), yes4 _ _ _ ⟨_, _, _, _, _, rfl, ?_, ?_⟩⟩
          · exact same_own (f38.trans s89) (ms := [ld]) Sx.at fun m hm => by rw [List.mem_singleton.mp hm]; exact nld
          · refine ⟨_, upd_same, ?_⟩
            rw [hide_upd (List.mem_cons_self ..), stepWay_take hkt, wayKv_snoc]
            exact KvD.put hkvl9 dw (key_new nd1)
        · rintro σ H5 ⟨o8, o9, o10, o11, o12, rfl, s5, hw5⟩
          rw [List.take_of_length_le (by rw [hlen]; omega)] at hw5
          exact yes3 _ _ ⟨_, _, _, _, _, rfl, s5, hw5⟩
      rintro σ' H5 ⟨o8, o9, o10, o11, o12, rfl, s5, hw5⟩
      walk_at "rd"
      refine ⟨ms, _, wd, tl, rfl, (tk.same s03).same s5, dy (s2.trans s5), kn, _, rfl, yes2 _ _ _ ⟨ld, some y', some (.ref ld), o8, o9, o10, o11, o12, ?_, s2.trans s5, s03.free nld, ?_⟩⟩
      · rw [en, ecn]
      · rw [en]
        exact hw5
    · rintro σ H2 ⟨hd, o6, o7, o8, o9, o10, o11, o12, rfl, s2, nd, hw⟩
      rw [hyl, List.take_length] at hw
      exact yes _ _ ⟨hd, _, _, _, _, _, _, _, _, rfl, s1b.trans s2, nd, hw⟩
  rintro σ' H2 ⟨hd, hi', o6, o7, o8, o9, o10, o11, o12, rfl, s2, nd, hw2⟩
  walk_at "rd"
  have hW := (runW_ok ok (stepsOf b).length (Nat.le_refl _)).1
  rw [List.take_length] at hW
  have ewt : waysThrough B b bg hi = ((runW B (stepsOf b) ([⟨bg, 0, []⟩], hi)).1).map fun w => ⟨w.f, w.c, w.rs.dropLast⟩ := rfl
  rw [ewt] at q
  clear ewt
  generalize (runW B (stepsOf b) ([⟨bg, 0, []⟩], hi)).1 = here at *
  obtain ⟨kvs, ekv, hkv⟩ := hw2
  have tkh : Tk H2 (hd :: ms) := Tk.cons ekv (tk.same s2)
  unfold tLockE
  refine ⟨hd, _, ekv, trivial, fun od => a_dc ?_⟩
  have eL : upd H2 hd (.frz od (.dK kvs)) hd = some (.frz od (.dK kvs)) := upd_same
  have hidL : hide (upd H2 hd (.frz od (.dK kvs))) (hd :: ms) = hide H2 (hd :: ms) := hide_upd (List.mem_cons_self ..)
  have tkL : Tk (upd H2 hd (.frz od (.dK kvs))) (hd :: ms) := Tk.upd tkh
  have outL : ∀ b o, b ≠ hd → H2 b = some o → upd H2 hd (.frz od (.dK kvs)) b = some o := fun b o nb e => by rw [upd_ne nb]; exact e
  have noL : ∀ b, upd H2 hd (.frz od (.dK kvs)) b = none → H2 b = none := fun b e => by
    by_cases z : b = hd
    · rw [z, eL] at e; cases e
    · rw [upd_ne z] at e; exact e
  rw [← hidL] at hkv
  generalize upd H2 hd (.frz od (.dK kvs)) = HL at *
  have hkl2 : kvs.length = here.length := by rw [KvD.length hkv]; unfold wayKv; rw [List.length_map]
  have h6 := hW.six
  unfold iItems
  refine ⟨_, rfl, hd, od, kvs, rfl, eL, fun D nD => ?_⟩
  have ndh : D ≠ hd := fun z => by rw [z, eL] at nD; cases nD
  generalize hws : here.map (fun w => (⟨w.f, w.c, w.rs.dropLast⟩ : Way)) = ws at *
  have hwl : ws.length = here.length := by rw [← hws, List.length_map]
  have ndw : (ws.map Way.f).Nodup := by
    rw [← hws, List.map_map]
    exact hW.nd
  refine dc_inv walk_items (fun i Hx => Same HL Hx ∧ ∃ kvd, Hx D = some (.dK kvd) ∧ KvD K (hide Hx (D :: hd :: ms)) kvd (wayKv (ws.take i))) ⟨same_new nD, [], upd_same, .nil⟩ (fun i Hx _ p => p.1 _ _ eL) ?_ ?_
  · rintro Pw yesd i x Hx Hx' hi ⟨sx, kvd, ed, hkd⟩ ⟨T, y1, y2, rfl, nT, rfl, e1, e2⟩
    obtain ⟨⟨k0, v0⟩, ek0⟩ : ∃ q, kvs[i]? = some q := ⟨_, List.getElem?_eq_getElem hi⟩
    replace e1 : (kvs[i]?).map (fun kv => kV kv.1) = some y1 := e1
    replace e2 : (kvs[i]?).map Prod.snd = some y2 := e2
    rw [ek0] at e1 e2
    cases e1
    cases e2
    obtain ⟨d0, ed0, hd0⟩ := KvD.at hkv ek0
    unfold wayKv at ed0
    rw [List.getElem?_map] at ed0
    cases ehx : here[i]? with
    | none => rw [ehx] at ed0; cases ed0
    | some v =>
      rw [ehx] at ed0
      cases ed0
      obtain ⟨pt, u1, u2, rfl, ht2, q1, q2⟩ := dp_t2 hd0
      cases q1
      have sT := same_new (o := HO.tup [kV (Sum.inl (v.f : Int)), .ref pt]) nT
      refine ⟨T, _, rfl, .inl (.inl upd_same), rfl, _, _, rfl, _, _, rfl, a_t2V (sqT_same (same_show.trans (sx.trans sT)) ht2) ⟨rfl, ?_⟩⟩
      walk_at "rd"
      obtain ⟨lp, lxs, rfl, hls, hla⟩ := dp_list q2
      refine ⟨lp, lxs, rfl, sqL_same (same_show.trans (sx.trans sT)) hls, fun p np => ⟨big _ (by decide), fun t nt => ?_⟩⟩
      rw [cut_last] at nt ⊢
      have tkx : Tk Hx (D :: hd :: ms) := Tk.cons ed (tkL.same sx)
      have tkT : Tk (upd Hx T (.tup [kV (Sum.inl (v.f : Int)), .ref pt])) (D :: hd :: ms) := tkx.same sT
      have sp := same_new (o := HO.lst lxs.dropLast) np
      have tkp := tkT.same sp
      have st := same_new (o := HO.tup [V.int (v.c : Nat), V.ref p]) nt
      have s4 := sT.trans (sp.trans st)
      have sL : Same (hide HL (hd :: ms)) (hide (upd (upd (upd Hx T (.tup [kV (Sum.inl (v.f : Int)), .ref pt])) p (.lst lxs.dropLast)) t (.tup [.int (v.c : Nat), .ref p])) (D :: hd :: ms)) := hide_swap (sx.trans s4) fun z hz => by
        rcases List.mem_cons.mp hz with hz | hz
        · exact .inr (by rw [hz]; exact nD)
        · exact .inl hz
      have ewi : ws[i]? = some ⟨v.f, v.c, v.rs.dropLast⟩ := by rw [← hws, List.getElem?_map, ehx]; rfl
      have etk : ws.take (i + 1) = ws.take i ++ [⟨v.f, v.c, v.rs.dropLast⟩] := by rw [List.take_succ, ewi]; rfl
      have dw : Dp K (hide (upd (upd (upd Hx T (.tup [kV (Sum.inl (v.f : Int)), .ref pt])) p (.lst lxs.dropLast)) t (.tup [.int (v.c : Nat), .ref p])) (D :: hd :: ms)) (.ref t) (⟨v.f, v.c, v.rs.dropLast⟩ : Way).d := by
        refine .tup (.inl (.inl (new_at tkp nt))) (.cons (.int _) (.cons (.lst (.inl (.inl (by rw [hide_at (tkT.out np)]; exact st _ _ upd_same))) ?_) .nil))
        show DpAll K _ lxs.dropLast (v.rs.dropLast.map Ms.d)
        rw [List.map_dropLast]
        exact DpAll.mono sL (DpAll.dropLast hla)
      have nd1 : ((ws.take (i + 1)).map Way.f).Nodup := ndw.sublist ((List.take_sublist _ _).map _)
      rw [etk] at nd1
      have lkd : kvd.length ≤ 6 := by
        rw [KvD.length hkd]
        unfold wayKv
        rw [List.length_map, List.length_take]
        omega
      refine ⟨kvd, _, rfl, s4 _ _ ed, by rw [sizeLine_eq]; omega, yesd _ _ ⟨?_, _, upd_same, ?_⟩⟩
      · exact same_own (sx.trans s4) (ms := [D]) Sx.at fun m hm => by rw [List.mem_singleton.mp hm]; exact nD
      · rw [hide_upd (List.mem_cons_self ..), etk, wayKv_snoc]
        exact KvD.put (KvD.mono (Same.hide s4 _) hkd) dw (key_new (w := ⟨v.f, v.c, v.rs.dropLast⟩) nd1)
  · rintro Hx ⟨sx, kvd, ed, hkd⟩
    rw [List.take_of_length_le (by omega)] at hkd
    refine ⟨sx _ _ eL, q _ _ kvd ?_ (s2.free (noL _ nD)) (by rw [upd_ne ndh]; exact ed) ?_⟩
    · refine s2.trans fun b o e => ?_
      by_cases z : b = hd
      · rw [z, upd_same]; rw [z, ekv] at e; exact e
      · rw [upd_ne z]; exact sx _ _ (outL b o z e)
    · have hidU : hide (upd Hx hd (.dK kvs)) (D :: hd :: ms) = hide Hx (D :: hd :: ms) := hide_upd (List.mem_cons_of_mem _ (List.mem_cons_self ..))
      rw [← hidU] at hkd
      exact KvD.mono (hide_swap (Same.refl _) fun z hz => by
        rcases List.mem_cons.mp hz with hz | hz
        · exact .inl (by rw [hz]; exact List.mem_cons_self ..)
        · exact .inl (List.mem_cons_of_mem _ (List.mem_cons_of_mem _ hz))) hkd
end
end Pb

/-! W9 -/
set_option Elab.async false
set_option linter.all false
set_option maxRecDepth 100000
set_option maxHeartbeats 4000000
namespace Pb
open PySem PySem.Spec PyProof.Rows L2
open C8 (Cal Mak Met pe_c pe_mk pe_mt pe_mt0 pe_gc fnScope_by)
/-! short words -/
local macro_rules | `(tactic| walk_at "rd") => `(tactic| try simp only [tVar, tC, tAdd, tSub, t2I, tIsN, tNotN, tB, tAnd, tOr, tNot, tAndV, tOrV, tNotV, tIf, tSeq, tPar, tPar3, tNext, tBreak, tCont, tDrop, tRet, tRetN, tIfS, gName, gNil, gCons, gTup, gSub, tAsg, tAug, ipI, iList, iTup, iRng1, iRng2, iStr, iEnum, iZip,
  tOp, tUn, rI, rI0, rU, tTest, tChain, tFld, sFld, sFldAug, L2.rAdd, L2.rSub, tNil, tCons, tTup, tLst, tCall, tMeth, tMake, tCB, tNoPart, tPart, tSl, tBM0, tBM, tDGet, tDGet1, tDGet2, tDIn, tDNotIn, sDPut, tDNewK, rEq, rNe, scal_ii, scal_ss, scal_bb, scal_nn, scal_ni, scal_in, scal_ns, scal_sn, scal_is, scal_si, List.take_succ_cons, List.take_zero, List.drop_succ_cons, List.drop_zero, upd_same, upd_upd, and_assoc, tKGet, gStar, tDisp, tPairs, tYes,
  L2.start, List.map_cons, List.map_nil, List.length_cons, List.length_nil, List.cons_append, List.nil_append, List.append_nil, List.replicate, Nat.sub_self, Nat.add_sub_cancel, Nat.reduceAdd, Nat.reduceSub, List.set_cons_zero, List.set_cons_succ, List.getElem?_cons_zero, List.getElem?_cons_succ,
  Option.some.injEq, V.int.injEq, V.bl.injEq, V.str.injEq, V.ref.injEq, exists_eq_left', exists_eq_left, exists_eq', exists_eq, true_and, and_true, if_true, if_false, Bool.false_eq_true, List.cons.injEq, Bool.not_true, Bool.not_false, cxK, cxP, cxW, ite_true, ite_false, wipe, reduceCtorEq, and_self, decide_true, decide_false, exists_and_left, exists_const, decide_eq_true_eq])
local macro_rules | `(tactic| walk_at "len") => `(tactic| (intro vs H Q E h; repeat (first | (obtain ⟨e, _⟩ := h; subst e; rfl) | (obtain ⟨_, h⟩ := h))))
local macro_rules | `(tactic| walk_at "wd") => `(tactic| simp (config := {decide := true}) only [V.str.injEq, scal_ss, true_and, if_true, if_false])

def sp_check_run (K : PySem.W.Frag) : Sp := fun vs H Q _ => ∃ ms v ns most, vs = [v, .int most] ∧ Tk H ms ∧ IntSeq K (hide H ms) v ns ∧ ns.length < sizeLine ∧ (∀ n ∈ ns, -32768 ≤ n ∧ n ≤ 32767) ∧ 0 ≤ most ∧ most ≤ 100000 ∧ ∀ H', Same H H' → Q .non H'
def sp_next_label (K : PySem.W.Frag) : Sp := fun vs H Q _ => ∃ (ms : List Addr) (v : V) (e : Fin) (t : V), vs = [v, t] ∧ Tk H ms ∧ Dp K (hide H ms) v e.d ∧
  (match e with
  | .go l => Q (.str l) H
  | .iff a b => ∃ n, t = .int n ∧ Q (.str (if n ≠ 0 then a else b)) H
  | .stop => False)
theorem IntSeq.ty {K : PySem.W.Frag} {H : Hp} {v : V} {ns : List Int} (h : IntSeq K H v ns) : TyX K H v (.type "list") ∨ TyX K H v (.type "tuple") := by
  obtain ⟨a, rfl, h | h⟩ := h
  · exact .inl (Dp.tyx (Dp.lst h (DpAll.ints ns)))
  · exact .inr (Dp.tyx (Dp.tup h (DpAll.ints ns)))
theorem a_isLT {K : PySem.W.Frag} {H : Hp} {v : V} {p : Addr} {Q : VK} (h : TyX K H v (.type "list") ∨ TyX K H v (.type "tuple")) (e : H p = some (.tup [.ty "list", .ty "tuple"])) (q : Q (.bl true) H) : rIsiT K [v, .ref p] H Q := by
  have ps : Paired ClsV [V.ty "list", V.ty "tuple"] [.type "list", .type "tuple"] := .cons (.ty _) (.cons (.ty _) .nil)
  rcases h with h | h
  · exact ⟨v, p, _, _, _, true, rfl, e, ps, h, kitAny_cons (b := true) (kit_ty (by decide +kernel)) (fun z => by cases z) (fun _ => rfl), q⟩
  · exact ⟨v, p, _, _, _, true, rfl, e, ps, h, kitAny_cons (b := false) (kit_ty (by decide +kernel)) (fun _ => kitAny_cons (b := true) (kit_ty (by decide +kernel)) (fun z => by cases z) (fun _ => rfl)) (fun z => by cases z), q⟩
section
variable {P : Program} {w : World} {K : PySem.W.Frag} {mg : Str → Option Value} {base : Heap}
theorem ok_next_label (T : Tx w K mg) : Cal P w K mg base 1 "next_label" (sp_next_label K) [] := by
  refine cal_of T.D_next_label T.g_next_label sc_next_label (fun _ _ _ _ _ _ us hl => match us, hl with | [_, _], _ => rfl) (by walk_at "len") fun cdv A outer s H vs Q E hr h => ?_
  refine ⟨_, (pss_cons (ps_if (pt_cmpR op_eq (pe_ix (r := rIx K) ix_seq (pv 0) pe_int (fun _ _ => rfl)) pe_str (nomark _)) (pss_one (ps_ret (pe_ix (r := rIx K) ix_seq (pv 0) pe_int (fun _ _ => rfl)))) pss_nil)
    (pss_one (ps_ret (pe_ifExp (pt_cmpR op_ne (pv 1) pe_int (nomark _)) (pe_ix (r := rIx K) ix_seq (pv 0) pe_int (fun _ _ => rfl)) (pe_ix (r := rIx K) ix_seq (pv 0) pe_int (fun _ _ => rfl)))))), ?_⟩
  obtain ⟨ms, v, e, t, rfl, tk, hd, k⟩ := h
  replace hd := Dp.mono same_show hd
  walk_at "rd"
  cases e with
  | go l =>
    refine a_ixT hd atI_0 fun u hu => ?_
    cases hu
    refine ⟨rfl, ?_⟩
    rw [if_pos (show V.str (Fin.go l).word = V.str (Str.ofString "go") from rfl)]
    refine a_ixT hd atI_1 fun u hu => ?_
    cases hu
    exact k
  | iff a b =>
    obtain ⟨n, rfl, k⟩ := k
    refine a_ixT hd atI_0 fun u hu => ?_
    cases hu
    refine ⟨rfl, ?_⟩
    rw [if_neg (by simp only [Fin.word]; decide +kernel)]
    refine ⟨rfl, ?_⟩
    by_cases e : n = 0
    · rw [if_neg (by simp [e])]
      refine a_ixT hd atI_2 fun u hu => ?_
      cases hu
      rw [if_neg (by simp [e])] at k
      exact k
    · rw [if_pos (by simp [e])]
      refine a_ixT hd atI_1 fun u hu => ?_
      cases hu
      rw [if_pos e] at k
      exact k
  | stop => exact k.elim
theorem ok_check_run (T : Tx w K mg) (F_is_worth : Cal P w K mg base 3 "is_worth" (sp_is_worth K) []) (F_within : Cal P w K mg base 2 "within" (sp_within K) []) : Cal P w K mg base 4 "check_run" (sp_check_run K) [] := by
  refine cal_of T.D_check_run T.g_check_run sc_check_run (fun _ _ _ _ _ _ us hl => match us, hl with | [_, _], _ => rfl) (by walk_at "len") fun cdv A outer s H vs Q E hr h => ?_
  refine ⟨_, (pss_cons (ps_if (PW.pt (pw_or (pt_not (pt_val (pe_callB (r := rIsiT K) call_isiT (by rfl) T.b_isinstance (by decide +kernel) (pa_cons (pv 0) (pa_cons (pe_tup (pa_cons (pe_bltn (v := .ty "list") (by rfl) T.b_list (by decide +kernel) rfl) (pa_cons (pe_bltn (v := .ty "tuple") (by rfl) T.b_tuple (by decide +kernel) rfl) pa_nil))) pa_nil))))) (pw_or1 (pt_not (pt_val (pe_callB (r := rAll K) (cr_all rfl) (by rfl) T.b_all (by decide +kernel) (pa_cons (pe_lc rfl sc_check_run.nd (pi_seq (K := K) (pv 0)) (blkOk_by (own := [("one", 2)]) (N := ["worths", "most", "one"]) (sc := L2.defScope s_check_run) (by decide +kernel)) (fun _ _ _ _ _ => (pg_m (pg_name (i := 2) sc_check_run.nd rfl (by first | exact Or.inl rfl | exact Or.inr rfl)))) (fun _ _ _ _ _ => pts_nilM) (fun _ _ _ _ _ => (pe_m (pe_c F_is_worth hr (by decide) (by rfl) (pa_cons (pv 2) pa_nil))))) pa_nil))))))) (pss_one ps_never) pss_nil)
    (pss_one (ps_if (pt_not (pt_val (pe_c F_within hr (by decide) (by rfl) (pa_cons (pv 1) (pa_cons pe_int (pa_cons (pe_gc (by rfl) T.v_GREATEST_MOST) pa_nil)))))) (pss_one ps_never) pss_nil))), ?_⟩
  obtain ⟨ms, v, ns, most, rfl, tk, hv, hz, hr, h0, h1, k⟩ := h
  walk_at "rd"
  refine ⟨by rw [sizeLine_eq]; omega, fun p hp => ?_⟩
  have s1 := same_new (o := HO.tup [V.ty "list", V.ty "tuple"]) hp
  have e1 : upd H p (HO.tup [V.ty "list", V.ty "tuple"]) p = some (.tup [V.ty "list", V.ty "tuple"]) := upd_same
  have hv1 := IntSeq.mono (same_show.trans s1) hv
  have tk1 := tk.same s1
  generalize upd H p (HO.tup [V.ty "list", V.ty "tuple"]) = H1 at *
  refine a_isLT hv1.ty e1 ?_
  walk_at "rd"
  refine a_lc ?_
  walk_at "rd"
  obtain ⟨a, rfl, hs⟩ := hv1
  have fin : ∀ (J : It) (G : Hp → Prop), Walk J (ns.map V.int).length G (YAt (ns.map V.int)) → (∀ H2, Same H1 H2 → G H2) → ∀ D, H1 D = none → LcGoal (gName 2) tYes (tCall (sp_is_worth K) [] C8.E0 (tCons (tVar 2) tNil)) [2] [some (V.ref a), some (V.int most), none] J H1 D fun H' =>
      rAll K [V.ref D] H' fun x H1 => ∃ c, x = V.bl c ∧ if (!c) = true then tNever { nx := tIfS (tNot (tB (tCall (sp_within K) [] C8.E0 (tCons (tVar 1) (tCons (tC (V.int 0)) (tCons (tC (V.int 100000)) tNil)))))) tNever tNext { nx := fun x H' => Q V.non H', rt := Q }, rt := Q } [some (V.ref a), some (V.int most), none] H1
        else (sp_within K) [V.int most, V.int 0, V.int 100000] H1 (fun x H1 => ∃ c, x = V.bl c ∧ if (!c) = true then tNever { nx := fun x H' => Q V.non H', rt := Q } [some (V.ref a), some (V.int most), none] H1 else Q V.non H1) C8.E0 := by
    intro J G wk hG D hD
    refine lc_data (K := K) (ds := ns.map PyData.int) (ms := []) wk hD Tk.nil (by rw [List.length_map]; exact hz) (by rw [hide_nil]; exact DpAll.ints ns) hG (fun _ => true) (fun _ => .bool true) (fun y d H4 hd4 s4 hD4 hy => ?_) (fun H4 ys s4 e4 hys => ?_)
    · obtain ⟨n, hn, rfl⟩ := List.mem_map.mp hd4
      walk_at "rd"
      refine ⟨fun z => z.elim, fun _ => ⟨[], y, _, rfl, Tk.nil, by rw [hide_nil]; exact Dp.mono same_show hy, fun H5 s5 => ⟨s5, ?_⟩⟩⟩
      have e : within (.int n) (-32768) 32767 = true := by
        show (decide (-32768 ≤ n) && decide (n ≤ 32767)) = true
        rw [decide_eq_true (hr n hn).1, decide_eq_true (hr n hn).2]; rfl
      rw [e]
      exact .bl true
    · rw [List.filter_eq_self.mpr fun _ _ => rfl] at hys
      have e2 : (ns.map PyData.int).map (fun _ => PyData.bool true) = (ns.map fun _ => true).map PyData.bool := by rw [List.map_map, List.map_map]; rfl
      rw [e2] at hys
      refine a_all (bs := ns.map fun _ => true) (.lst (SqL.of e4) (DpAll.mono same_show hys)) ?_
      have e3 : (ns.map fun _ => true).all id = true := by simp
      rw [e3]
      refine ⟨_, rfl, ?_⟩
      rw [if_neg (by decide)]
      refine ⟨[], _, .int most, 0, 100000, rfl, Tk.nil, .int most, fun H5 s5 => ⟨_, rfl, ?_⟩⟩
      have e : within (.int most) 0 100000 = true := by
        show (decide (0 ≤ most) && decide (most ≤ 100000)) = true
        rw [decide_eq_true h0, decide_eq_true h1]; rfl
      rw [e, if_neg (by decide)]
      exact k _ (s1.trans (s4.trans s5))
  unfold iSeq
  walk_at "rd"
  rcases hs with hs | hs
  · exact .inl ⟨⟨_, hs⟩, fun D hD => fin _ _ walk_list (fun H2 s2 => sqL_same s2 hs) D hD⟩
  · exact .inr ⟨⟨_, hs⟩, fun D hD => fin _ _ walk_tup (fun H2 s2 => sqT_same s2 hs) D hD⟩
end
end Pb

/-! W10a -/
set_option Elab.async false
set_option linter.all false
set_option maxRecDepth 100000
set_option maxHeartbeats 4000000
namespace Pb
open PySem PySem.Spec PyProof.Rows L2
open C8 (Cal Mak Met pe_c pe_mk pe_mt pe_mt0 pe_gc fnScope_by)
/-! short words -/
local macro_rules | `(tactic| walk_at "rd") => `(tactic| try simp only [tVar, tC, tAdd, tSub, t2I, tIsN, tNotN, tB, tAnd, tOr, tNot, tAndV, tOrV, tNotV, tIf, tSeq, tPar, tPar3, tNext, tBreak, tCont, tDrop, tRet, tRetN, tIfS, gName, gNil, gCons, gTup, gSub, tAsg, tAug, ipI, iList, iTup, iRng1, iRng2, iStr, iEnum, iZip,
  tOp, tUn, rI, rI0, rU, tTest, tChain, tFld, sFld, sFldAug, L2.rAdd, L2.rSub, tNil, tCons, tTup, tLst, tCall, tMeth, tMake, tCB, tNoPart, tPart, tSl, tBM0, tBM, tDGet, tDGet1, tDGet2, tDIn, tDNotIn, sDPut, tDNewK, rEq, rNe, scal_ii, scal_ss, scal_bb, scal_nn, scal_ni, scal_in, scal_ns, scal_sn, scal_is, scal_si, List.take_succ_cons, List.take_zero, List.drop_succ_cons, List.drop_zero, upd_same, upd_upd, and_assoc, tKGet, gStar, tDisp, tPairs, tYes,
  L2.start, List.map_cons, List.map_nil, List.length_cons, List.length_nil, List.cons_append, List.nil_append, List.append_nil, List.replicate, Nat.sub_self, Nat.add_sub_cancel, Nat.reduceAdd, Nat.reduceSub, List.set_cons_zero, List.set_cons_succ, List.getElem?_cons_zero, List.getElem?_cons_succ,
  Option.some.injEq, V.int.injEq, V.bl.injEq, V.str.injEq, V.ref.injEq, exists_eq_left', exists_eq_left, exists_eq', exists_eq, true_and, and_true, if_true, if_false, Bool.false_eq_true, List.cons.injEq, Bool.not_true, Bool.not_false, cxK, cxP, cxW, ite_true, ite_false, wipe, reduceCtorEq, and_self, decide_true, decide_false, exists_and_left, exists_const, decide_eq_true_eq])
local macro_rules | `(tactic| walk_at "len") => `(tactic| (intro vs H Q E h; repeat (first | (obtain ⟨e, _⟩ := h; subst e; rfl) | (obtain ⟨_, h⟩ := h))))
local macro_rules | `(tactic| walk_at "wd") => `(tactic| simp (config := {decide := true}) only [V.str.injEq, scal_ss, true_and, if_true, if_false])

/-! ### what a run is -/
structure RSt where
  told : List Int
  ws : List Int
  pile : List Int
  steps : Nat
inductive Outcome where
  | ran (told pile : List Int) (steps : Nat) | dry (told : List Int) (label : Str) (row : Nat) | spent (told : List Int)
def popped (ns : List Int) : List Int := ns.take (ns.length - 1)
def rowsRun (most : Nat) (l : Str) : List Row → Nat → RSt → Outcome ⊕ RSt
  | [], _, s => .inr s
  | r :: rs, i, s =>
    if s.steps = most then .inl (.spent s.told)
    else match r with
      | .tell => rowsRun most l rs (i + 1) ⟨s.told ++ [topN s.pile 0], s.ws, popped s.pile, s.steps + 1⟩
      | .hear => (match s.ws with
        | [] => .inl (.dry s.told l i)
        | w :: ws => rowsRun most l rs (i + 1) ⟨s.told, ws, s.pile ++ [w], s.steps + 1⟩)
      | r => rowsRun most l rs (i + 1) ⟨s.told, s.ws, doneOn s.pile r, s.steps + 1⟩
/-- behind a block's rows; k: what follows -/
def finRun (most : Nat) (e : Fin) (k : Str → RSt → Outcome) (s : RSt) : Outcome :=
  if s.steps = most then .spent s.told
  else match e with
    | .stop => .ran s.told s.pile (s.steps + 1)
    | .go l => k l ⟨s.told, s.ws, s.pile, s.steps + 1⟩
    | .iff a c => k (if topN s.pile 0 ≠ 0 then a else c) ⟨s.told, s.ws, popped s.pile, s.steps + 1⟩
def behind (most : Nat) (e : Fin) (k : Str → RSt → Outcome) : Outcome ⊕ RSt → Outcome
  | .inl o => o
  | .inr s => finRun most e k s
def blkAt (bs : List Blk) (l : Str) : Option Blk := bs.find? fun b => decide (b.label = l)
def runFrom (bs : List Blk) (most : Nat) : Nat → Str → RSt → Outcome
  | 0, _, s => .spent s.told
  | f + 1, l, s => match blkAt bs l with
    | none => .spent s.told
    | some b => behind most b.fin (fun l s => runFrom bs most f l s) (rowsRun most l b.rows 0 s)
def firstL : List Blk → Str
  | b :: _ => b.label
  | [] => ""
def outcome (bs : List Blk) (ns : List Int) (most : Nat) : Outcome := runFrom bs most (most + 1) (firstL bs) ⟨[], ns, [], 0⟩
theorem blkAt_of : ∀ {bs : List Blk} {b : Blk}, (bs.map Blk.label).Nodup → b ∈ bs → blkAt bs b.label = some b
  | c :: bs, b, nd, hb => by
    unfold blkAt
    by_cases e : c.label = b.label
    · rw [List.find?_cons_of_pos (by exact decide_eq_true e), nodup_label nd (List.mem_cons_self ..) hb e]
    · rw [List.find?_cons_of_neg (by show ¬ decide (c.label = b.label) = true; rw [decide_eq_false e]; exact Bool.false_ne_true)]
      rcases List.mem_cons.mp hb with h | h
      · exact absurd (by rw [h]) e
      · exact blkAt_of (List.nodup_cons.mp nd).2 h
/-- worths that are worths -/
def Worths (ns : List Int) : Prop := ∀ n ∈ ns, -32768 ≤ n ∧ n ≤ 32767
theorem Worths.small {ns : List Int} (h : Worths ns) : ∀ n ∈ ns, small n := fun n hn => by
  have := h n hn
  exact ⟨by omega, by omega⟩
theorem Worths.top {ns : List Int} (h : Worths ns) {i : Nat} (hi : i < ns.length) : -32768 ≤ topN ns i ∧ topN ns i ≤ 32767 := h _ (topN_mem hi)
theorem back_range (n : Int) : -32768 ≤ back n ∧ back n ≤ 32767 := by
  unfold back
  have h1 := Int.emod_nonneg (n + 32768) (show (65536 : Int) ≠ 0 by decide)
  have h2 := Int.emod_lt_of_pos (n + 32768) (show (0 : Int) < 65536 by decide)
  omega
theorem Worths.take {ns : List Int} (h : Worths ns) (k : Nat) : Worths (ns.take k) := fun n hn => h n (List.mem_of_mem_take hn)
theorem Worths.append {ns ms : List Int} (h : Worths ns) (g : Worths ms) : Worths (ns ++ ms) := fun n hn => (List.mem_append.mp hn).elim (h n) (g n)
theorem Worths.one {n : Int} (h : -32768 ≤ n ∧ n ≤ 32767) : Worths [n] := fun m hm => by rw [List.mem_singleton.mp hm]; exact h
theorem two_len {ns : List Int} {f : Int → Int → Int} (h : 2 ≤ ns.length) : ((two ns f).length : Int) = ns.length + (-1) := by
  unfold two
  rw [List.length_append, List.length_take, List.length_singleton]
  omega
theorem doneOn_len {ns : List Int} {r : Row} (ht : r.touch ≤ ns.length) (hp : r.plain = true) : ((doneOn ns r).length : Int) = ns.length + r.more := by
  cases r <;> simp only [Row.touch] at ht <;> simp only [doneOn, Row.more] <;> first
    | (exact two_len ht)
    | (simp only [List.length_append, List.length_take, List.length_cons, List.length_nil]; omega)
    | (cases hp)
theorem doneOn_worths {ns : List Int} {r : Row} (h : Worths ns) (ht : r.touch ≤ ns.length) (hr : ∀ n, r = .put n → -32768 ≤ n ∧ n ≤ 32767) : Worths (doneOn ns r) := by
  cases r <;> simp only [Row.touch] at ht <;> simp only [doneOn]
  case put n => exact h.append (.one (hr n rfl))
  case same => exact h.append (.one (h.top (by omega)))
  case over => exact h.append (.one (h.top (by omega)))
  case swap =>
    refine (h.take _).append fun n hn => ?_
    rcases List.mem_cons.mp hn with e | hn
    · rw [e]; exact h.top (by omega)
    · rw [List.mem_singleton.mp hn]; exact h.top (by omega)
  case drop => exact h.take _
  case plus => exact (h.take _).append (.one (back_range _))
  case less => exact (h.take _).append (.one (back_range _))
  case times => exact (h.take _).append (.one (back_range _))
  case under => exact (h.take _).append (.one (by dsimp only; split <;> omega))
  all_goals exact h
theorem popped_len {ns : List Int} (h : 1 ≤ ns.length) : ((popped ns).length : Int) = ns.length + (-1) := by
  unfold popped
  rw [List.length_take]
  omega
theorem popped_worths {ns : List Int} (h : Worths ns) : Worths (popped ns) := h.take _
theorem popped_drop {ns : List Int} : (ns.map V.int).dropLast = (popped ns).map V.int := by
  unfold popped
  rw [List.dropLast_eq_take, List.length_map, List.map_take]
theorem last_top {ns : List Int} (h : 1 ≤ ns.length) : (ns.map V.int)[(ns.map V.int).length - 1]? = some (.int (topN ns 0)) := by
  have h2 : ns.length - 1 < ns.length := by omega
  rw [List.length_map, List.getElem?_map, List.getElem?_eq_getElem h2]
  unfold topN
  rw [Nat.sub_zero, List.getD_eq_getElem?_getD, List.getElem?_eq_getElem h2]
  rfl
end Pb

/-! W14 -/
set_option Elab.async false
set_option linter.all false
set_option maxRecDepth 100000
set_option maxHeartbeats 4000000
namespace Pb
open PySem PySem.Spec PyProof.Rows L2
open C8 (Cal Mak Met pe_c pe_mk pe_mt pe_mt0 pe_gc fnScope_by)
/-! short words -/
local macro_rules | `(tactic| walk_at "rd") => `(tactic| try simp only [tVar, tC, tAdd, tSub, t2I, tIsN, tNotN, tB, tAnd, tOr, tNot, tAndV, tOrV, tNotV, tIf, tSeq, tPar, tPar3, tNext, tBreak, tCont, tDrop, tRet, tRetN, tIfS, gName, gNil, gCons, gTup, gSub, tAsg, tAug, ipI, iList, iTup, iRng1, iRng2, iStr, iEnum, iZip,
  tOp, tUn, rI, rI0, rU, tTest, tChain, tFld, sFld, sFldAug, L2.rAdd, L2.rSub, tNil, tCons, tTup, tLst, tCall, tMeth, tMake, tCB, tNoPart, tPart, tSl, tBM0, tBM, tDGet, tDGet1, tDGet2, tDIn, tDNotIn, sDPut, tDNewK, rEq, rNe, scal_ii, scal_ss, scal_bb, scal_nn, scal_ni, scal_in, scal_ns, scal_sn, scal_is, scal_si, List.take_succ_cons, List.take_zero, List.drop_succ_cons, List.drop_zero, upd_same, upd_upd, and_assoc, tKGet, gStar, tDisp, tPairs, tYes,
  L2.start, List.map_cons, List.map_nil, List.length_cons, List.length_nil, List.cons_append, List.nil_append, List.append_nil, List.replicate, Nat.sub_self, Nat.add_sub_cancel, Nat.reduceAdd, Nat.reduceSub, List.set_cons_zero, List.set_cons_succ, List.getElem?_cons_zero, List.getElem?_cons_succ,
  Option.some.injEq, V.int.injEq, V.bl.injEq, V.str.injEq, V.ref.injEq, exists_eq_left', exists_eq_left, exists_eq', exists_eq, true_and, and_true, if_true, if_false, Bool.false_eq_true, List.cons.injEq, Bool.not_true, Bool.not_false, cxK, cxP, cxW, ite_true, ite_false, wipe, reduceCtorEq, and_self, decide_true, decide_false, exists_and_left, exists_const, decide_eq_true_eq])
local macro_rules | `(tactic| walk_at "len") => `(tactic| (intro vs H Q E h; repeat (first | (obtain ⟨e, _⟩ := h; subst e; rfl) | (obtain ⟨_, h⟩ := h))))
local macro_rules | `(tactic| walk_at "wd") => `(tactic| simp (config := {decide := true}) only [V.str.injEq, scal_ss, true_and, if_true, if_false])

/-! the numbers of boxes full at the blocks' begins -/
abbrev Beg := List (Str × Nat)
def begKv (b : Beg) : List (Key × V) := b.map fun q => (Sum.inr q.1, V.int (q.2 : Nat))
def allB (ls : List (Str × Nat)) : List Beg := ls.foldl (fun found l => found.flatMap fun b => (List.range (l.2 + 1)).map fun k => b ++ [(l.1, k)]) [[]]
def limitOf (B : Nat) (h : Str → Int) (f l : Str) : Nat := if l = f then 0 else (min (B : Int) (h l)).toNat
def limits (B : Nat) (h : Str → Int) (bs : List Blk) : List (Str × Nat) := (bs.map Blk.label).map fun l => (l, limitOf B h (firstL bs) l)
def IsBeg (H : Hp) (x : V) (b : Beg) : Prop := ∃ q, x = .ref q ∧ H q = some (.dK (begKv b))
def Begs (H : Hp) (v : V) (found : List Beg) : Prop := ∃ a xs, v = .ref a ∧ H a = some (.lst xs) ∧ Paired (IsBeg H) xs found
theorem IsBeg.mono {H H' : Hp} (s : Same H H') {x : V} {b : Beg} (h : IsBeg H x b) : IsBeg H' x b := by
  obtain ⟨q, e, h⟩ := h
  exact ⟨q, e, s _ _ h⟩
theorem Begs.mono {H H' : Hp} (s : Same H H') {v : V} {f : List Beg} (h : Begs H v f) : Begs H' v f := by
  obtain ⟨a, xs, e, h, p⟩ := h
  exact ⟨a, xs, e, s _ _ h, Paired.mapP p fun _ _ h => h.mono s⟩
theorem begKv_val {b : Beg} {l : Str} (h : l ∉ b.map (·.1)) : valV (begKv b) (Sum.inr l) = none := by
  unfold begKv
  induction b with
  | nil => rfl
  | cons q b ih =>
    rw [List.map_cons] at h ⊢
    rw [valV_neg (fun z => h (by have := Sum.inr.inj z; rw [← this]; exact List.mem_cons_self ..)), ih fun z => h (List.mem_cons_of_mem _ z)]
theorem begKv_snoc {b : Beg} {l : Str} {k : Nat} : begKv (b ++ [(l, k)]) = begKv b ++ [(Sum.inr l, V.int (k : Nat))] := by
  unfold begKv
  rw [List.map_append]
  rfl
theorem allB_snoc {ls : List (Str × Nat)} {l : Str × Nat} : allB (ls ++ [l]) = (allB ls).flatMap fun b => (List.range (l.2 + 1)).map fun k => b ++ [(l.1, k)] := by
  unfold allB
  rw [List.foldl_append]
  rfl
theorem allB_keys : ∀ (ls : List (Str × Nat)) (pre : List Str) (acc : List Beg), (∀ b ∈ acc, b.map (·.1) = pre) → ∀ b ∈ ls.foldl (fun found l => found.flatMap fun b => (List.range (l.2 + 1)).map fun k => b ++ [(l.1, k)]) acc, b.map (·.1) = pre ++ ls.map (·.1)
  | [], pre, acc, h, b, hb => by rw [List.map_nil, List.append_nil]; exact h b hb
  | l :: ls, pre, acc, h, b, hb => by
    rw [List.foldl_cons] at hb
    have q := allB_keys ls (pre ++ [l.1]) _ (fun c hc => by
      obtain ⟨d, hd, hc⟩ := List.mem_flatMap.mp hc
      obtain ⟨k, _, rfl⟩ := List.mem_map.mp hc
      rw [List.map_append, h d hd]
      rfl) b hb
    rw [q, List.map_cons, List.append_assoc]
    rfl
theorem keys_allB {ls : List (Str × Nat)} {b : Beg} (hb : b ∈ allB ls) : b.map (·.1) = ls.map (·.1) := by
  have q := allB_keys ls [] [[]] (fun c hc => by rw [List.mem_singleton.mp hc]; rfl) b hb
  rwa [List.nil_append] at q
theorem Good.h0 {bs : List Blk} {h : Str → Int} (G : Good bs h) {b : Blk} (hb : b ∈ bs) : 0 ≤ h b.label := by
  obtain ⟨s, es⟩ : ∃ s, (stepsOf b)[0]? = some s := ⟨_, List.getElem?_eq_getElem (by rw [stepsOf_len]; omega)⟩
  obtain ⟨wd, ew, e1, _⟩ := stp_words es
  have q := (wok_at (G.rows b hb) ew).1
  rw [e1, List.take_zero, after_nil] at q
  omega
theorem hide_hide {H : Hp} {ms : List Addr} {a : Addr} : Same (hide (hide H ms) [a]) (hide H (a :: ms)) := fun b o e => by
  obtain ⟨e1, e2⟩ := hide_of e
  obtain ⟨e3, e4⟩ := hide_of e1
  rw [hide_at fun z => (List.mem_cons.mp z).elim (fun z => e2 (List.mem_singleton.mpr z)) e4]
  exact e3
theorem limitOf_le {B : Nat} {h : Str → Int} {f l : Str} (hB : B ≤ 5) : limitOf B h f l ≤ 5 := by
  unfold limitOf
  split <;> omega
theorem flatMap_len {α β : Type} (f : α → List β) (n : Nat) (h : ∀ a, (f a).length ≤ n) : ∀ xs : List α, (xs.flatMap f).length ≤ xs.length * n
  | [] => by simp
  | x :: xs => by
    rw [List.flatMap_cons, List.length_append, List.length_cons, Nat.succ_mul]
    have := flatMap_len f n h xs
    have := h x
    omega
theorem foldB_len : ∀ (ls : List (Str × Nat)) (acc : List Beg), (∀ l ∈ ls, l.2 ≤ 5) → (ls.foldl (fun found l => found.flatMap fun b => (List.range (l.2 + 1)).map fun k => b ++ [(l.1, k)]) acc).length ≤ acc.length * 6 ^ ls.length
  | [], acc, _ => by simp
  | l :: ls, acc, h => by
    rw [List.foldl_cons]
    refine Nat.le_trans (foldB_len ls _ fun x hx => h x (List.mem_cons_of_mem _ hx)) ?_
    have q := flatMap_len (fun b : Beg => (List.range (l.2 + 1)).map fun k => b ++ [(l.1, k)]) 6 (fun b => by rw [List.length_map, List.length_range]; have := h l (List.mem_cons_self ..); omega) acc
    have q2 := Nat.mul_le_mul_right (6 ^ ls.length) q
    rw [List.length_cons, Nat.pow_succ]
    rw [Nat.mul_assoc, Nat.mul_comm 6] at q2
    exact q2
theorem allB_len {ls : List (Str × Nat)} (h : ∀ l ∈ ls, l.2 ≤ 5) : (allB ls).length ≤ 6 ^ ls.length := by
  have q := foldB_len ls [[]] h
  rw [List.length_singleton, Nat.one_mul] at q
  exact q
theorem Paired.at {α β : Type} {F : α → β → Prop} : ∀ {xs : List α} {ys : List β} {i : Nat} {x : α}, Paired F xs ys → xs[i]? = some x → ∃ y, ys[i]? = some y ∧ F x y
  | _, _, _, _, .nil, e => by simp at e
  | _, _, 0, _, .cons h _, e => by simp at e; subst e; exact ⟨_, rfl, h⟩
  | _, _, i + 1, _, .cons _ a, e => by
    obtain ⟨d, h1, h2⟩ := Paired.at (i := i) a (by simpa using e)
    exact ⟨d, by simpa using h1, h2⟩
def sp_with_begin (K : PySem.W.Frag) : Sp := fun vs H Q _ => ∃ a l b, ∃ k : Nat, vs = [.ref a, .str l, .int k] ∧ H a = some (.dK (begKv b)) ∧ l ∉ b.map (·.1) ∧ b.length ≤ 10 ∧
  ∀ p H', Same H H' → H p = none → H' p = some (.dK (begKv (b ++ [(l, k)]))) → Q (.ref p) H'
def sp_all_begins (K : PySem.W.Frag) : Sp := fun vs H Q _ => ∃ ms p bs h, ∃ B : Nat, vs = [.ref p, .int B] ∧ Tk H ms ∧ IsCode K (hide H ms) p bs h ∧ Good bs h ∧ B ≤ 5 ∧
  ∀ H' v, Same H H' → Begs (hide H' ms) v (allB (limits B h bs)) → Q v H'
section
variable {P : Program} {w : World} {K : PySem.W.Frag} {mg : Str → Option Value} {base : Heap}
theorem ok_with_begin (T : Tx w K mg) : Cal P w K mg base 1 "with_begin" (sp_with_begin K) [] := by
  refine cal_of T.D_with_begin T.g_with_begin sc_with_begin (fun _ _ _ _ _ _ us hl => match us, hl with | [_, _, _], _ => rfl) (by walk_at "len") fun cdv A outer s H vs Q E hr h => ?_
  refine ⟨_, (pss_cons (ps_set (i := 3) sc_with_begin.nd rfl (by first | exact Or.inl rfl | exact Or.inr rfl) (pe_callTy call_dictD (by rfl) T.b_dict (by decide +kernel) (pa_cons (pv 0) pa_nil)))
    (pss_cons (ps_dput (hu_of hr) (pv 3) (pv 1) (pv 2) rfl)
    (pss_one (ps_ret (pv 3))))), ?_⟩
  obtain ⟨a, l, b, k, rfl, ha, hl, hz, q⟩ := h
  walk_at "rd"
  refine ⟨_, .inl ha, fun p np => ⟨_, DPut.k (k := Sum.inr l) upd_same (by unfold begKv; rw [List.length_map, sizeLine_eq]; omega), q _ _ ?_ np ?_⟩⟩
  · exact same_own (same_new np) (ms := [p]) Sx.at fun m hm => by rw [List.mem_singleton.mp hm]; exact np
  · rw [upd_same, begKv_snoc, putK_new _ (begKv_val hl)]
theorem ok_all_begins (T : Tx w K mg) (F_with_begin : Cal P w K mg base 1 "with_begin" (sp_with_begin K) []) (F_Code_first : Met P w K mg base 1 (He.ga K "Code") "first" (sp_Code_first K) []) : Cal P w K mg base 2 "all_begins" (sp_all_begins K) [] := by
  refine cal_of T.D_all_begins T.g_all_begins sc_all_begins (fun _ _ _ _ _ _ us hl => match us, hl with | [_, _], _ => rfl) (by walk_at "len") fun cdv A outer s H vs Q E hr h => ?_
  refine ⟨_, (pss_cons (ps_set (i := 2) sc_all_begins.nd rfl (by first | exact Or.inl rfl | exact Or.inr rfl) (pe_lst (pa_cons pe_dnewK pa_nil)))
    (pss_cons (ps_lock (ps_for PassesOwn.never rfl (pi_keys (pe_fldK (K := K) (pv 0) rfl)) (pg_name (i := 3) sc_all_begins.nd rfl (by first | exact Or.inl rfl | exact Or.inr rfl)) (pss_cons (ps_set (i := 4) sc_all_begins.nd rfl (by first | exact Or.inl rfl | exact Or.inr rfl) (pe_ifExp (pt_cmpR op_eq (pv 3) (pe_mt0 F_Code_first hr (by decide) (pv 0)) (nomark _)) pe_int (pe_callB (call_min2' rfl) (by rfl) T.b_min (by decide +kernel) (pa_cons (pv 1) (pa_cons (pe_dget (hu_of hr) (pe_fldK (K := K) (pv 0) rfl) (pv 3) (fun _ _ => rfl)) pa_nil)))))
    (pss_one (ps_setLc2 (i := 2) (vs1 := [6]) rfl sc_all_begins.nd rfl rfl (sw_true rfl rfl rfl (by decide +kernel)) (pi_listK (K := K) (pv 2)) (blkOk_by (own := [("begins", 5), ("full", 6)]) (N := ["code", "boxes", "found", "label", "most", "begins", "full"]) (sc := L2.defScope s_all_begins) (by decide +kernel)) (by decide) (fun _ _ _ _ _ => (pg_m (pg_name (i := 5) sc_all_begins.nd rfl (by first | exact Or.inl rfl | exact Or.inr rfl)))) (fun _ _ _ _ _ => pts_nilM) (fun _ _ _ _ _ => (pi_m (pi_range1 (by rfl) T.b_range (pa_cons (pe_op op_add (pv 4) pe_int) pa_nil)))) (fun _ _ _ _ _ => (pg_m (pg_name (i := 6) sc_all_begins.nd rfl (by first | exact Or.inl rfl | exact Or.inr rfl)))) (fun _ _ _ _ _ => pts_nilM) (fun _ _ _ _ _ => (pe_m (pe_c F_with_begin hr (by decide) (by rfl) (pa_cons (pv 5) (pa_cons (pv 3) (pa_cons (pv 6) pa_nil)))))))))))
    (pss_one (ps_ret (pv 2))))), ?_⟩
  obtain ⟨ms, p, bs, h, B, rfl, tk, c, G, hB, q⟩ := h
  have big : ∀ n : Nat, n ≤ 1000000 → n ≤ sizeLine := fun n h => by rw [sizeLine_eq]; omega
  obtain ⟨dx, pa, ta, ha, kvs, c1, c2, c3, c4, c5⟩ := c
  have n_ha : ha ∉ ms := (hide_of c5).2
  have e_ha := (hide_of c5).1
  have tkA : Tk H (ha :: ms) := Tk.cons e_ha tk
  have cA : CodeP K (hide H (ha :: ms)) p bs := by
    refine ⟨dx, pa, ta, .ref ha, hide_hide _ _ ?_, Dp.mono hide_hide (Dp.away ⟨_, c5⟩ c2)⟩
    rw [hide_at fun z => by rw [List.mem_singleton.mp z, c5] at c1; cases c1]
    exact c1
  refine seq_mid (fun σ' H1 => ∃ v, σ' = [some (.ref p), some (.int B), some v, none, none, none, none] ∧ Same H H1 ∧ Begs (hide H1 (ha :: ms)) v [[]]) (fun Kx yes => ?_) ?_
  · walk_at "rd"
    intro d nd
    refine ⟨big _ (by decide), fun l nl => yes _ _ ⟨_, rfl, (same_new nd).trans (same_new nl), l, [.ref d], rfl, new_at (tkA.same (same_new nd)) nl, .cons ⟨d, rfl, ?_⟩ .nil⟩⟩
    rw [hide_at (tkA.out nd)]
    exact same_new nl _ _ upd_same
  rintro σ' H1 ⟨v, rfl, s1, hv⟩
  refine seq_mid (fun σ' H2 => ∃ v o3 o4 o5 o6, σ' = [some (.ref p), some (.int B), some v, o3, o4, o5, o6] ∧ Same H H2 ∧ Begs (hide H2 ms) v (allB (limits B h bs))) (fun Kx yes => ?_) ?_
  · have e5 := s1 _ _ e_ha
    have tk1 : Tk H1 (ha :: ms) := tkA.same s1
    refine ⟨ha, _, e5, trivial, fun od => a_for ?_⟩
    have eL : upd H1 ha (.frz od (.dK (highs (bs.map Blk.label) h))) ha = some (.frz od (.dK (highs (bs.map Blk.label) h))) := upd_same
    have hidL : hide (upd H1 ha (.frz od (.dK (highs (bs.map Blk.label) h)))) (ha :: ms) = hide H1 (ha :: ms) := hide_upd (List.mem_cons_self ..)
    have tkL : Tk (upd H1 ha (.frz od (.dK (highs (bs.map Blk.label) h)))) (ha :: ms) := Tk.upd tk1
    have outL : ∀ b o, b ≠ ha → H1 b = some o → upd H1 ha (.frz od (.dK (highs (bs.map Blk.label) h))) b = some o := fun b o nb e => by rw [upd_ne nb]; exact e
    rw [← hidL] at hv
    have cL : CodeP K (hide (upd H1 ha (.frz od (.dK (highs (bs.map Blk.label) h)))) (ha :: ms)) p bs := by rw [hidL]; exact cA.mono (Same.hide s1 _)
    have hnd := G.nodup
    obtain ⟨dx1, pa1, ta1, f1⟩ : ∃ dx pa ta, upd H1 ha (.frz od (.dK (highs (bs.map Blk.label) h))) p = some (.ins (He.ga K "Code") dx (codeF pa ta (.ref ha)))   := ⟨dx, pa, ta, outL _ _ (fun z => by rw [z, c5] at c1; cases c1) (s1 _ _ (same_show _ _ c1))⟩
    generalize upd H1 ha (.frz od (.dK (highs (bs.map Blk.label) h))) = HL at *
    walk_at "rd"
    refine ⟨_, rfl, p, _, _, _, _, rfl, f1, T.c_Code, T.n_Code_high, rfl, ha, od, rfl, .inl ⟨_, eL, ?_⟩⟩
    refine for_go2 walk_keys (fun i σ Hx => ∃ v o3 o4 o5 o6, σ = [some (.ref p), some (.int B), some v, o3, o4, o5, o6] ∧ Same HL Hx ∧ Begs (hide Hx (ha :: ms)) v (allB ((limits B h bs).take i))) ⟨_, _, _, _, _, rfl, Same.refl _, hv⟩ (fun i σ Hx _ q => by
      obtain ⟨_, _, _, _, _, _, q, _⟩ := q
      exact q _ _ eL) ?_ ?_
    · rintro Pw yes2 i x σ Hx Hx' hi ⟨v, o3, o4, o5, o6, rfl, sx, hv⟩ ⟨rfl, k0, v0, ek0, rfl⟩
      have hlen : (highs (bs.map Blk.label) h).length = bs.length := by unfold highs; rw [List.length_map, List.length_map]
      rw [hlen] at hi
      have eb : bs[i]? = some bs[i] := List.getElem?_eq_getElem hi
      have ek := ek0
      unfold highs at ek
      rw [List.getElem?_map, List.getElem?_map, eb] at ek
      cases ek
      have hbm : bs[i] ∈ bs := List.getElem_mem hi
      have eli : (limits B h bs)[i]? = some (bs[i].label, limitOf B h (firstL bs) bs[i].label) := by
        unfold limits
        rw [List.getElem?_map, List.getElem?_map, eb]
        rfl
      have etk : (limits B h bs).take (i + 1) = (limits B h bs).take i ++ [(bs[i].label, limitOf B h (firstL bs) bs[i].label)] := by rw [List.take_succ, eli]; rfl
      generalize bs[i] = b at *
      obtain ⟨b0, tl0, e0⟩ : ∃ b0 tl0, bs = b0 :: tl0 := by
        cases bs with
        | nil => cases hi
        | cons b tl => exact ⟨b, tl, rfl⟩
      have hb0 := G.h0 hbm
      have f1x := sx _ _ f1
      have tkx := tkL.same sx
      refine seq_mid (fun σ' H3 => σ' = [some (.ref p), some (.int B), some v, some (.str b.label), some (.int (limitOf B h (firstL bs) b.label : Nat)), o5, o6] ∧ Same Hx' H3) (fun Kx2 yes3 => ?_) ?_
      · walk_at "rd"
        have efst : firstL bs = b0.label := by rw [e0]; rfl
        refine ⟨_, _, f1x, rfl, ha :: ms, p, b0, tl0, rfl, tkx, by rw [← e0]; exact cL.mono (Same.hide sx _), rfl, ?_⟩
        by_cases z : b.label = b0.label
        · rw [if_pos (by rw [z]; rfl)]
          refine yes3 _ _ ⟨?_, Same.refl _⟩
          unfold limitOf
          rw [if_pos (by rw [efst]; exact z)]
          rfl
        · rw [if_neg (fun e => z (by injection e))]
          refine ⟨_, _, _, f1x, T.c_Code, T.n_Code_high, _, rfl, ha, rfl, _, .inl ⟨_, Sum.inr b.label, .inr ⟨od, sx _ _ eL⟩, rfl, (highs_at (List.mem_map.mpr ⟨b, hbm, rfl⟩)).symm⟩, _, _, rfl, yes3 _ _ ⟨?_, Same.refl _⟩⟩
          unfold limitOf
          rw [if_neg (by rw [efst]; exact z)]
          have em : ((min (B : Int) (h b.label)).toNat : Int) = min (B : Int) (h b.label) := by omega
          rw [em]
          rfl
      rintro σ' H3 ⟨rfl, s3⟩
      walk_at "rd"
      have hv3 := hv.mono (Same.hide s3 _)
      have tk3 := tkx.same s3
      clear hv cL
      generalize hls : (limits B h bs).take i = ls at *
      have s3L := sx.trans s3
      have lks : ls.map (·.1) = (bs.map Blk.label).take i := by
        rw [← hls, List.map_take]
        congr 1
        unfold limits
        rw [List.map_map]
        exact (List.map_congr_left fun _ _ => rfl).trans (List.map_id _)
      have hll : ls.length ≤ 6 := by
        rw [← hls, List.length_take]
        have := G.six
        omega
      have hl5 : ∀ l ∈ ls, l.2 ≤ 5 := fun l hl => by
        rw [← hls] at hl
        obtain ⟨c, _, rfl⟩ := List.mem_map.mp (List.mem_of_mem_take hl)
        show limitOf B h (firstL bs) c ≤ 5
        exact limitOf_le hB
      have hlm := limitOf_le (h := h) (f := firstL bs) (l := b.label) hB
      have hfl := allB_len hl5
      have hf6 : (allB ls).length ≤ 46656 := Nat.le_trans hfl (Nat.pow_le_pow_right (by decide) hll)
      generalize hm : limitOf B h (firstL bs) b.label = m at *
      have hnew : ∀ bg ∈ allB ls, b.label ∉ bg.map (·.1) := fun bg hbg z => by
        rw [keys_allB hbg, lks] at z
        have e2 : (bs.map Blk.label)[i]? = some b.label := by rw [List.getElem?_map, eb]; rfl
        have e3 := hnd.sublist (List.take_sublist (i + 1) _)
        rw [List.take_succ, e2] at e3
        exact (List.nodup_append.mp e3).2.2 _ z _ (List.mem_singleton.mpr rfl) rfl
      have hbl : ∀ bg ∈ allB ls, bg.length ≤ 10 := fun bg hbg => by
        have e := congrArg List.length (keys_allB hbg)
        rw [List.length_map, List.length_map] at e
        omega
      have yesN : ∀ (H' : Hp) (v' : V) (o5 o6 : Option V), Same HL H' → Begs (hide H' (ha :: ms)) v' ((allB ls).flatMap fun b2 => (List.range (m + 1)).map fun k => b2 ++ [(b.label, k)]) → Pw (i + 1) [some (.ref p), some (.int B), some v', some (.str b.label), some (.int (m : Nat)), o5, o6] H' := fun H' v' o5 o6 s hb => yes2 _ _ _ ⟨v', _, _, _, _, rfl, s, by rw [etk, allB_snoc]; exact hb⟩
      obtain ⟨la, xs, rfl, hla, hxs⟩ := hv3
      clear yes2
      generalize hfd : allB ls = found at *
      have hxl := Paired.length hxs
      have hlaH : H3 la = some (.lst xs) := same_show _ _ hla
      refine a_lc2 ⟨_, rfl, la, rfl, ⟨xs, SqL.of hlaH⟩, fun D nD => ?_⟩
      have tkD : Tk H3 (ha :: ms) := tk3
      have lenI : ∀ j, j ≤ found.length → ∀ k, k ≤ m + 1 → (((found.take j).flatMap fun b2 => (List.range (m + 1)).map fun k => b2 ++ [(b.label, k)]).length + k) ≤ 300000 := fun j hj k hk => by
        have q := flatMap_len (fun b2 : Beg => (List.range (m + 1)).map fun k => b2 ++ [(b.label, k)]) 6 (fun b2 => by rw [List.length_map, List.length_range]; omega) (found.take j)
        have q3 : (found.take j).length ≤ 46656 := Nat.le_trans (by rw [List.length_take]; exact Nat.min_le_right ..) hf6
        have q4 := Nat.mul_le_mul_right 6 q3
        refine Nat.le_trans (Nat.add_le_add (Nat.le_trans q q4) hk) ?_
        omega
      refine lc2_inv walk_list (fun j Hy => Same H3 Hy ∧ ∃ acc, Hy D = some (.lst acc) ∧ Paired (IsBeg (hide Hy (D :: ha :: ms))) acc ((found.take j).flatMap fun b2 => (List.range (m + 1)).map fun k => b2 ++ [(b.label, k)])) ⟨same_new nD, [], upd_same, .nil⟩ (fun j Hy _ q => SqL.of (q.1 _ _ hlaH)) ?_ ?_
      · rintro Pw3 yes3 j x Hy Hy' hj ⟨sy, acc, ea, pa2⟩ ⟨e1, ex⟩
        subst e1
        obtain ⟨bg, ebg, q1, rfl, eq1⟩ := Paired.at hxs ex
        have hbg := List.mem_of_getElem? ebg
        have eq3 := same_show _ _ eq1
        refine g_name ⟨rfl, ?_⟩
        walk_at "rd"
        have em1 : ((m : Int) + 1).toNat = m + 1 := by omega
        rw [em1]
        refine ⟨by omega, by omega, ?_⟩
        have ebg2 : found.take (j + 1) = found.take j ++ [bg] := by rw [List.take_succ, ebg]; rfl
        have e5 : bg ∈ found := hbg
        refine in2_inv walk_range (fun k Hz => Same H3 Hz ∧ ∃ acc, Hz D = some (.lst acc) ∧ Paired (IsBeg (hide Hz (D :: ha :: ms))) acc (((found.take j).flatMap fun b2 => (List.range (m + 1)).map fun k => b2 ++ [(b.label, k)]) ++ (List.range k).map fun k => bg ++ [(b.label, k)])) ⟨sy, acc, ea, by rw [List.range_zero, List.map_nil, List.append_nil]; exact pa2⟩ (fun _ _ _ _ => trivial) ?_ ?_
        · rintro Pw4 yes4 k y Hz Hz' hk ⟨sz, acz, eaz, paz⟩ ⟨e6, e7⟩
          subst e6
          obtain rfl : y = V.int (k : Nat) := by
            rw [← show ((0 : Int) + (k : Nat)) = (k : Nat) by omega]
            exact e7
          refine g_name ⟨rfl, ?_⟩
          walk_at "rd"
          have tkz : Tk Hz' (D :: ha :: ms) := Tk.cons eaz (tk3.same sz)
          refine ⟨q1, b.label, bg, k, rfl, sz _ _ eq3, hnew _ hbg, hbl _ hbg, fun pp H5 s5 npp e5 => ⟨acz, s5 _ _ eaz, ?_, yes4 _ _ ⟨?_, _, upd_same, ?_⟩⟩⟩
          · have l1 := Paired.length paz
            rw [List.length_append, List.length_map, List.length_range] at l1
            have l2 := lenI j (by omega) k (by omega)
            rw [sizeLine_eq]
            omega
          · exact same_own (sz.trans s5) (ms := [D]) Sx.at fun z hz => by rw [List.mem_singleton.mp hz]; exact nD
          · have e9 : (List.range (k + 1)).map (fun k => bg ++ [(b.label, k)]) = (List.range k).map (fun k => bg ++ [(b.label, k)]) ++ [bg ++ [(b.label, k)]] := by rw [List.range_succ, List.map_append]; rfl
            rw [hide_upd (List.mem_cons_self ..), e9, ← List.append_assoc]
            refine Paired.snoc (Paired.mapP paz fun _ _ q => q.mono (Same.hide s5 _)) ⟨pp, rfl, ?_⟩
            rw [hide_at (tkz.out npp)]
            exact e5
        · rintro Hz ⟨sz, acz, eaz, paz⟩
          refine yes3 _ _ ⟨sz, acz, eaz, ?_⟩
          rw [ebg2, List.flatMap_append]
          rw [List.flatMap_cons, List.flatMap_nil, List.append_nil]
          exact paz
      · rintro Hy ⟨sy, acc, ea, pa2⟩
        rw [hxl, List.take_length] at pa2
        refine yesN _ _ _ _ (s3L.trans sy) ⟨D, acc, rfl, ?_, ?_⟩
        · rw [hide_at (tk3.out nD)]
          exact ea
        · exact Paired.mapP pa2 fun _ _ q => q.mono (hide_swap (Same.refl _) fun z hz => .inl (List.mem_cons_of_mem _ hz))
    · rintro σ Hx ⟨v, o3, o4, o5, o6, rfl, sx, hv⟩
      have hlen : (highs (bs.map Blk.label) h).length = (limits B h bs).length := by simp only [highs, limits, List.length_map]
      rw [hlen, List.take_length] at hv
      refine ⟨sx _ _ eL, yes _ _ ⟨v, _, _, _, _, rfl, s1.trans fun b o e => ?_, ?_⟩⟩
      · by_cases z : b = ha
        · rw [z, upd_same]; rw [z, e5] at e; exact e
        · rw [upd_ne z]; exact sx _ _ (outL b o z e)
      · have hidU : hide (upd Hx ha (.dK (highs (bs.map Blk.label) h))) (ha :: ms) = hide Hx (ha :: ms) := hide_upd (List.mem_cons_self ..)
        rw [← hidU] at hv
        exact hv.mono (hide_swap (Same.refl _) fun z hz => .inl (List.mem_cons_of_mem _ hz))
  rintro σ' H2 ⟨v, o3, o4, o5, o6, rfl, s2, hv⟩
  walk_at "rd"
  exact q _ _ s2 hv
end
end Pb

/-! W15 -/
set_option Elab.async false
set_option linter.all false
set_option maxRecDepth 100000
set_option maxHeartbeats 4000000
namespace Pb
open PySem PySem.Spec PyProof.Rows L2
open C8 (Cal Mak Met pe_c pe_mk pe_mt pe_mt0 pe_gc fnScope_by)
/-! short words -/
local macro_rules | `(tactic| walk_at "rd") => `(tactic| try simp only [tVar, tC, tAdd, tSub, t2I, tIsN, tNotN, tB, tAnd, tOr, tNot, tAndV, tOrV, tNotV, tIf, tSeq, tPar, tPar3, tNext, tBreak, tCont, tDrop, tRet, tRetN, tIfS, gName, gNil, gCons, gTup, gSub, tAsg, tAug, ipI, iList, iTup, iRng1, iRng2, iStr, iEnum, iZip,
  tOp, tUn, rI, rI0, rU, tTest, tChain, tFld, sFld, sFldAug, L2.rAdd, L2.rSub, tNil, tCons, tTup, tLst, tCall, tMeth, tMake, tCB, tNoPart, tPart, tSl, tBM0, tBM, tDGet, tDGet1, tDGet2, tDIn, tDNotIn, sDPut, tDNewK, rEq, rNe, scal_ii, scal_ss, scal_bb, scal_nn, scal_ni, scal_in, scal_ns, scal_sn, scal_is, scal_si, List.take_succ_cons, List.take_zero, List.drop_succ_cons, List.drop_zero, upd_same, upd_upd, and_assoc, tKGet, gStar, tDisp, tPairs, tYes,
  L2.start, List.map_cons, List.map_nil, List.length_cons, List.length_nil, List.cons_append, List.nil_append, List.append_nil, List.replicate, Nat.sub_self, Nat.add_sub_cancel, Nat.reduceAdd, Nat.reduceSub, List.set_cons_zero, List.set_cons_succ, List.getElem?_cons_zero, List.getElem?_cons_succ,
  Option.some.injEq, V.int.injEq, V.bl.injEq, V.str.injEq, V.ref.injEq, exists_eq_left', exists_eq_left, exists_eq', exists_eq, true_and, and_true, if_true, if_false, Bool.false_eq_true, List.cons.injEq, Bool.not_true, Bool.not_false, cxK, cxP, cxW, ite_true, ite_false, wipe, reduceCtorEq, and_self, decide_true, decide_false, exists_and_left, exists_const, decide_eq_true_eq])
local macro_rules | `(tactic| walk_at "len") => `(tactic| (intro vs H Q E h; repeat (first | (obtain ⟨e, _⟩ := h; subst e; rfl) | (obtain ⟨_, h⟩ := h))))
local macro_rules | `(tactic| walk_at "wd") => `(tactic| simp (config := {decide := true}) only [V.str.injEq, scal_ss, true_and, if_true, if_false])

/-! the fewest moves behind an end -/
def begAt (b : Beg) (l : Str) : Nat := ((b.find? fun q => decide (q.1 = l)).map (·.2)).getD 0
theorem begAt_val {b : Beg} {l : Str} (h : l ∈ b.map (·.1)) : valV (begKv b) (Sum.inr l) = some (.int (begAt b l : Nat)) := by
  unfold begKv begAt
  induction b with
  | nil => cases h
  | cons q b ih =>
    rw [List.map_cons]
    by_cases e : q.1 = l
    · rw [valV_pos (p := (Sum.inr q.1, V.int (q.2 : Nat))) (by rw [e]), List.find?_cons_of_pos (by exact decide_eq_true e)]
      rfl
    · rw [valV_neg (p := (Sum.inr q.1, V.int (q.2 : Nat))) (fun z => e (Sum.inr.inj z)), List.find?_cons_of_neg (by show ¬ decide (q.1 = l) = true; rw [decide_eq_false e]; exact Bool.false_ne_true)]
      rw [List.map_cons] at h
      exact ih ((List.mem_cons.mp h).elim (fun z => absurd z.symm e) id)
def endCost (b : Beg) (f : Fin) (w : Way) : Nat := w.c + (f.labels.map fun l => ((w.f : Int) - (begAt b l : Nat)).natAbs).sum
def candE (b : Beg) (f : Fin) (w : Way) : PySem.W.Tup Int := ⟨[(endCost b f w : Nat), (w.f : Nat)]⟩
def candED (b : Beg) (f : Fin) (w : Way) : PyData := .tuple [.int (endCost b f w : Nat), .int (w.f : Nat)]
theorem lt_pair {a b c d : Int} : (PySem.W.DatumOrd.lt (⟨[a, b]⟩ : PySem.W.Tup Int) ⟨[c, d]⟩ = true → a ≤ c) ∧ (PySem.W.DatumOrd.lt (⟨[a, b]⟩ : PySem.W.Tup Int) ⟨[c, d]⟩ = false → c ≤ a) := by
  show (PySem.W.listLt [a, b] [c, d] = true → a ≤ c) ∧ (PySem.W.listLt [a, b] [c, d] = false → c ≤ a)
  unfold PySem.W.listLt
  by_cases e : a = c
  · subst e
    exact ⟨fun _ => Int.le_refl _, fun _ => Int.le_refl _⟩
  · simp only [e, if_false]
    have q : PySem.W.DatumOrd.lt a c = decide (a < c) := rfl
    rw [q]
    exact ⟨fun h => by have := of_decide_eq_true h; omega, fun h => by have := of_decide_eq_false h; omega⟩
def t2 (a b : Int) : PySem.W.Tup Int := ⟨[a, b]⟩
theorem minOf_head {α : Type} (f : α → Int) (g : α → Int) : ∀ (xs : List α) (x : α), ∃ w ∈ x :: xs, PySem.W.minOf (t2 (f x) (g x)) (xs.map fun y => t2 (f y) (g y)) = t2 (f w) (g w) ∧ ∀ y ∈ x :: xs, f w ≤ f y
  | [], x => ⟨x, List.mem_cons_self .., rfl, fun y hy => by rw [List.mem_singleton.mp hy]; exact Int.le_refl _⟩
  | y :: ys, x => by
    rw [List.map_cons]
    have q := lt_pair (a := f y) (b := g y) (c := f x) (d := g x)
    cases e : PySem.W.DatumOrd.lt (t2 (f y) (g y)) (t2 (f x) (g x)) with
    | true =>
      have e0 : PySem.W.minOf (t2 (f x) (g x)) (t2 (f y) (g y) :: ys.map fun y => t2 (f y) (g y)) = PySem.W.minOf (t2 (f y) (g y)) (ys.map fun y => t2 (f y) (g y)) := by
        unfold PySem.W.minOf
        rw [List.foldl_cons, if_pos e]
      rw [e0]
      obtain ⟨w, hw, e2, h2⟩ := minOf_head f g ys y
      refine ⟨w, List.mem_cons_of_mem _ hw, e2, fun z hz => ?_⟩
      rcases List.mem_cons.mp hz with hz | hz
      · rw [hz]
        exact Int.le_trans (h2 y (List.mem_cons_self ..)) (q.1 e)
      · exact h2 z hz
    | false =>
      have e0 : PySem.W.minOf (t2 (f x) (g x)) (t2 (f y) (g y) :: ys.map fun y => t2 (f y) (g y)) = PySem.W.minOf (t2 (f x) (g x)) (ys.map fun y => t2 (f y) (g y)) := by
        unfold PySem.W.minOf
        rw [List.foldl_cons, if_neg (by rw [e]; exact Bool.false_ne_true)]
      rw [e0]
      obtain ⟨w, hw, e2, h2⟩ := minOf_head f g ys x
      refine ⟨w, (List.mem_cons.mp hw).elim (fun z => by rw [z]; exact List.mem_cons_self ..) fun z => List.mem_cons_of_mem _ (List.mem_cons_of_mem _ z), e2, fun z hz => ?_⟩
      rcases List.mem_cons.mp hz with hz | hz
      · rw [hz]; exact h2 x (List.mem_cons_self ..)
      · rcases List.mem_cons.mp hz with hz | hz
        · rw [hz]
          exact Int.le_trans (h2 x (List.mem_cons_self ..)) (q.2 e)
        · exact h2 z (List.mem_cons_of_mem _ hz)
theorem minD_candE {b : Beg} {f : Fin} {w0 : Way} {ws : List Way} : ∃ w ∈ w0 :: ws, PySem.W.minD (candED b f w0) (ws.map (candED b f)) = candED b f w ∧ ∀ v ∈ w0 :: ws, endCost b f w ≤ endCost b f v := by
  have e : ws.map (candED b f) = (ws.map (candE b f)).map PySem.W.Datum.toD := by rw [List.map_map]; rfl
  obtain ⟨w, hw, e2, h2⟩ := minOf_head (fun w => ((endCost b f w : Nat) : Int)) (fun w => ((w.f : Nat) : Int)) ws w0
  refine ⟨w, hw, ?_, fun v hv => by have := h2 v hv; omega⟩
  rw [show candED b f w0 = PySem.W.Datum.toD (candE b f w0) from rfl, e, PySem.W.minD_map]
  have e3 : PySem.W.minOf (candE b f w0) (ws.map (candE b f)) = candE b f w := e2
  rw [e3]
  rfl
theorem alike_candE (b : Beg) (f : Fin) (w0 : Way) (ws : List Way) : PySem.W.AlikeAll (candED b f w0 :: ws.map (candED b f)) := by
  have e : candED b f w0 :: ws.map (candED b f) = ((w0 :: ws).map (candE b f)).map PySem.W.Datum.toD := by rw [List.map_map]; rfl
  rw [e]
  exact PySem.W.alikeAll_datum _
theorem depth_candE (b : Beg) (f : Fin) (w0 : Way) (ws : List Way) : PyData.depthAll (candED b f w0 :: ws.map (candED b f)) ≤ 20 := by
  have e : candED b f w0 :: ws.map (candED b f) = ((w0 :: ws).map (candE b f)).map PySem.W.Datum.toD := by rw [List.map_map]; rfl
  rw [e]
  exact Nat.le_trans (PySem.W.depthAll_map _) (by decide)
def sp_best_end (K : PySem.W.Frag) : Sp := fun vs H Q _ => ∃ ms wd v2 bq b f ws kvs, vs = [.ref wd, v2, .ref bq] ∧ Tk H ms ∧ hide H ms wd = some (.dK kvs) ∧ KvD K (hide H ms) kvs (wayKv ws) ∧ ws ≠ [] ∧ ws.length ≤ 6 ∧ Dp K (hide H ms) v2 f.d ∧
  H bq = some (.dK (begKv b)) ∧ (∀ l ∈ f.labels, l ∈ b.map (·.1)) ∧ ∀ w ∈ ws, (∀ v ∈ ws, endCost b f w ≤ endCost b f v) → ∀ H' v, Same H H' → Dp K H' v (candED b f w) → Q v H'
theorem sum_cast {α : Type} (f : α → Nat) : ∀ xs : List α, (xs.map fun x => ((f x : Nat) : Int)).sum = (((xs.map f).sum : Nat) : Int)
  | [] => rfl
  | x :: xs => by
    rw [List.map_cons, List.sum_cons, List.map_cons, List.sum_cons, sum_cast f xs]
    omega
theorem KvD.away {K : PySem.W.Frag} {H : Hp} {a : Addr} (e : away H a) : ∀ {vs : List (Key × V)} {ds : List (Key × PyData)}, KvD K H vs ds → KvD K (hide H [a]) vs ds
  | _, _, .nil => .nil
  | _, _, .cons h t => .cons (Dp.away e h) (KvD.away e t)
section
variable {P : Program} {w : World} {K : PySem.W.Frag} {mg : Str → Option Value} {base : Heap}
theorem ok_best_end (T : Tx w K mg) : Cal P w K mg base 1 "best_end" (sp_best_end K) [] := by
  refine cal_of T.D_best_end T.g_best_end sc_best_end (fun _ _ _ _ _ _ us hl => match us, hl with | [_, _, _], _ => rfl) (by walk_at "len") fun cdv A outer s H vs Q E hr h => ?_
  refine ⟨_, (pss_cons (ps_set (i := 3) sc_best_end.nd rfl (by first | exact Or.inl rfl | exact Or.inr rfl) (pe_lst pa_nil))
    (pss_cons (ps_lock (ps_for PassesOwn.never rfl (pi_items (pv 0)) (pg_tupK (K := K) (n := 2) rfl (pgs_cons (pg_name (i := 4) sc_best_end.nd rfl (by first | exact Or.inl rfl | exact Or.inr rfl)) (pgs_cons (pg_tupK (K := K) (n := 2) rfl (pgs_cons (pg_name (i := 5) sc_best_end.nd rfl (by first | exact Or.inl rfl | exact Or.inr rfl)) (pgs_cons (pg_name (i := 6) sc_best_end.nd rfl (by first | exact Or.inl rfl | exact Or.inr rfl)) pgs_nil))) pgs_nil))) (pss_one (ps_expr (pe_bm PySem.F.plainAttrs_list PySem.F.slot_list_append PySem.F.type_list_append mt_append (pv 3) (pa_cons (pe_tup (pa_cons (pe_op op_add (pv 5) (pe_callB (r := rSum K) (cr_sum rfl) (by rfl) T.b_sum (by decide +kernel) (pa_cons (pe_lc rfl sc_best_end.nd (pi_tupK (K := K) (pe_slice (r := rSlT K) sl_tup (pv 1) (po_some pe_int) po_none)) (blkOk_by (own := [("there", 7)]) (N := ["ways", "end", "begins", "found", "full", "cost", "rows", "there"]) (sc := L2.defScope s_best_end) (by decide +kernel)) (fun _ _ _ _ _ => (pg_m (pg_name (i := 7) sc_best_end.nd rfl (by first | exact Or.inl rfl | exact Or.inr rfl)))) (fun _ _ _ _ _ => pts_nilM) (fun _ _ _ _ _ => (pe_m (pe_callB call_absI (by rfl) T.b_abs (by decide +kernel) (pa_cons (pe_op op_sub (pv 4) (pe_dget (hu_of hr) (pv 2) (pv 7) (fun _ _ => rfl))) pa_nil))))) pa_nil))) (pa_cons (pv 4) pa_nil))) pa_nil))))))
    (pss_one (ps_ret (pe_callB (r := rMinD K) (call_minD rfl hr) (by rfl) T.b_min (by decide +kernel) (pa_cons (pv 3) pa_nil)))))), ?_⟩
  obtain ⟨ms, wd, v2, bq, b, f, ws, kvs, rfl, tk, ewd, hkv, ne, h6, d2, ebq, hlb, q⟩ := h
  have big : ∀ n : Nat, n ≤ 1000000 → n ≤ sizeLine := fun n h => by rw [sizeLine_eq]; omega
  have ewd1 := (hide_of ewd).1
  have tkw : Tk H (wd :: ms) := Tk.cons ewd1 tk
  have hkw : KvD K (hide H (wd :: ms)) kvs (wayKv ws) := KvD.mono hide_hide (KvD.away ⟨_, ewd⟩ hkv)
  have d2w : Dp K (hide H (wd :: ms)) v2 f.d := Dp.mono hide_hide (Dp.away ⟨_, ewd⟩ d2)
  obtain ⟨ea, es, rfl, hes, hea⟩ := dp_tuple d2w
  cases hea with
  | cons hwd hel =>
  cases hwd
  cases DpAll.strs_inv hel
  have hkl : kvs.length = ws.length := by rw [KvD.length hkv]; unfold wayKv; rw [List.length_map]
  refine seq_mid (fun σ' H1 => ∃ p, σ' = [some (.ref wd), some (.ref ea), some (.ref bq), some (.ref p), none, none, none, none] ∧ H p = none ∧ H1 = upd H p (.lst [])) (fun Kx yes => ?_) ?_
  · walk_at "rd"
    exact ⟨big _ (by decide), fun p np => yes _ _ ⟨p, rfl, np, rfl⟩⟩
  rintro σ' H1 ⟨p, rfl, np, rfl⟩
  refine seq_mid (fun σ' H2 => ∃ o4 o5 o6 o7 xs, σ' = [some (.ref wd), some (.ref ea), some (.ref bq), some (.ref p), o4, o5, o6, o7] ∧ Same H H2 ∧ H2 p = some (.lst xs) ∧ DpAll K (hide H2 (p :: ms)) xs (ws.map (candED b f))) (fun Kx yes => ?_) ?_
  · have npw := tkw.out np
    have s1 := same_new (o := HO.lst []) np
    have e1 := s1 _ _ ewd1
    refine ⟨wd, _, e1, trivial, fun od => a_for ?_⟩
    have eL : upd (upd H p (.lst [])) wd (.frz od (.dK kvs)) wd = some (.frz od (.dK kvs)) := upd_same
    have sHL : Same (hide H (wd :: ms)) (hide (upd (upd H p (.lst [])) wd (.frz od (.dK kvs))) (p :: wd :: ms)) := by
      rw [hide_upd (List.mem_cons_of_mem _ (List.mem_cons_self ..))]
      exact hide_swap s1 fun z hz => (List.mem_cons.mp hz).elim (fun z2 => .inr (by rw [z2]; exact np)) .inl
    have tkL : Tk (upd (upd H p (.lst [])) wd (.frz od (.dK kvs))) (wd :: ms) := Tk.upd (tkw.same s1)
    have epL : upd (upd H p (.lst [])) wd (.frz od (.dK kvs)) p = some (.lst []) := by
      rw [upd_ne (fun z => npw (by rw [z]; exact List.mem_cons_self ..))]
      exact upd_same
    have outL : ∀ b o, b ≠ wd → b ≠ p → H b = some o → upd (upd H p (.lst [])) wd (.frz od (.dK kvs)) b = some o := fun b o nb nb2 e => by rw [upd_ne nb, upd_ne nb2]; exact e
    have rbq : Rd (upd (upd H p (.lst [])) wd (.frz od (.dK kvs))) bq (.dK (begKv b)) := by
      by_cases z : bq = wd
      · subst z
        rw [ewd1] at ebq
        cases ebq
        exact .inr ⟨od, eL⟩
      · exact .inl (outL _ _ z (fun z => by rw [z, np] at ebq; cases ebq) ebq)
    replace hkw := KvD.mono sHL hkw
    replace hes := sqT_same sHL hes
    have noL : ∀ b, upd (upd H p (.lst [])) wd (.frz od (.dK kvs)) b = none → H b = none := fun b e => by
      by_cases z : b = wd
      · rw [z, eL] at e; cases e
      · rw [upd_ne z] at e
        exact s1.free e
    generalize upd (upd H p (.lst [])) wd (.frz od (.dK kvs)) = HL at *
    unfold iItems
    refine ⟨_, rfl, wd, od, kvs, rfl, eL, ?_⟩
    refine for_go2 walk_items (fun i σ Hx => ∃ o4 o5 o6 o7 xs, σ = [some (.ref wd), some (.ref ea), some (.ref bq), some (.ref p), o4, o5, o6, o7] ∧ (∀ b o, b ≠ p → HL b = some o → Hx b = some o) ∧ Hx p = some (.lst xs) ∧ DpAll K (hide Hx (p :: wd :: ms)) xs ((ws.take i).map (candED b f))) ⟨_, _, _, _, [], rfl, fun _ _ _ e => e, epL, .nil⟩ (fun i σ Hx _ q => by
      obtain ⟨_, _, _, _, _, _, q, _⟩ := q
      exact q _ _ (fun z => npw (by rw [← z]; exact List.mem_cons_self ..)) eL) ?_ ?_
    · rintro Pw yes2 i x σ Hx Hx' hi ⟨o4, o5, o6, o7, xs, rfl, sx, ep, hxs⟩ ⟨T, y1, y2, rfl, nT, rfl, e1, e2⟩
      obtain ⟨⟨k0, v0⟩, ek0⟩ : ∃ q, kvs[i]? = some q := ⟨_, List.getElem?_eq_getElem hi⟩
      replace e1 : (kvs[i]?).map (fun kv => kV kv.1) = some y1 := e1
      replace e2 : (kvs[i]?).map Prod.snd = some y2 := e2
      rw [ek0] at e1 e2
      cases e1
      cases e2
      have sLx : Same (hide HL (p :: wd :: ms)) Hx := fun b o e => by
        obtain ⟨q1, q2⟩ := hide_of e
        exact sx _ _ (fun z => q2 (by rw [z]; exact List.mem_cons_self ..)) q1
      obtain ⟨d0, ed0, hd0⟩ := KvD.at hkw ek0
      unfold wayKv at ed0
      rw [List.getElem?_map] at ed0
      cases ehx : ws[i]? with
      | none => rw [ehx] at ed0; cases ed0
      | some v =>
        rw [ehx] at ed0
        cases ed0
        obtain ⟨pt, u1, u2, rfl, ht2, q1, q2⟩ := dp_t2 hd0
        cases q1
        have sT := same_new (o := HO.tup [kV (Sum.inl (v.f : Int)), .ref pt]) nT
        have etk : ws.take (i + 1) = ws.take i ++ [v] := by rw [List.take_succ, ehx]; rfl
        refine ⟨T, _, rfl, .inl (.inl upd_same), rfl, _, _, rfl, _, _, rfl, a_t2V (sqT_same (sLx.trans sT) ht2) ⟨rfl, ?_⟩⟩
        walk_at "rd"
        have npw2 : p ≠ wd := fun z => npw (by rw [z]; exact List.mem_cons_self ..)
        have tkx : Tk Hx (p :: wd :: ms) := Tk.cons ep (fun m hm => by
          by_cases z : m = p
          · rw [z, ep]; exact fun z => nomatch z
          · have q := tkL m hm
            cases e : HL m with
            | none => exact absurd e q
            | some o => rw [sx _ _ z e]; exact fun z => nomatch z)
        have ixs : DpAll K (hide (upd Hx T (HO.tup [kV (Sum.inl (v.f : Int)), .ref pt])) (p :: wd :: ms)) xs ((ws.take i).map (candED b f)) := DpAll.mono (Same.hide sT _) hxs
        have ep1 := sT _ _ ep
        have rb1 : Rd (upd Hx T (HO.tup [kV (Sum.inl (v.f : Int)), .ref pt])) bq (.dK (begKv b)) := by
          have nb : bq ≠ p := fun z => by rw [z, np] at ebq; cases ebq
          exact rbq.imp (fun e => sT _ _ (sx _ _ nb e)) fun ⟨o, e⟩ => ⟨o, sT _ _ (sx _ _ nb e)⟩
        have he1 := sqT_same (sLx.trans sT) hes
        have tk1 := tkx.same sT
        have sx1 : ∀ b o, b ≠ p → HL b = some o → upd Hx T (HO.tup [kV (Sum.inl (v.f : Int)), .ref pt]) b = some o := fun b o n e => sT _ _ (sx b o n e)
        generalize upd Hx T (HO.tup [kV (Sum.inl (v.f : Int)), .ref pt]) = Hy at *
        refine ⟨.inl ⟨rfl, _, SqL.of ep1⟩, a_lc ?_⟩
        walk_at "rd"
        refine ⟨ea, _, rfl, he1, cut1_not, fun p4 np4 => ?_⟩
        rw [cut1]
        walk_at "rd"
        have s7 := same_new (o := HO.tup (f.labels.map V.str)) np4
        have e4 : upd Hy p4 (HO.tup (f.labels.map V.str)) p4 = some (.tup (f.labels.map V.str)) := upd_same
        replace ixs := DpAll.mono (Same.hide s7 _) ixs
        replace ep1 := s7 _ _ ep1
        replace rb1 : Rd (upd Hy p4 (HO.tup (f.labels.map V.str))) bq (.dK (begKv b)) := rb1.imp (fun e => s7 _ _ e) fun ⟨o, e⟩ => ⟨o, s7 _ _ e⟩
        replace tk1 := tk1.same s7
        replace sx1 : ∀ b o, b ≠ p → HL b = some o → upd Hy p4 (HO.tup (f.labels.map V.str)) b = some o := fun b o n e => s7 _ _ (sx1 b o n e)
        generalize upd Hy p4 (HO.tup (f.labels.map V.str)) = Hz at *
        refine ⟨⟨_, SqT.of e4⟩, fun D nD => ?_⟩
        refine lc_data (K := K) (ms := p :: wd :: ms) (ds := f.labels.map PyData.str) walk_tup nD tk1 (by rw [List.length_map, sizeLine_eq]; have := fin_two f; omega) (DpAll.strs _) (fun H' s => SqT.of (s _ _ e4)) (fun _ => true) (fun d => match d with
          | .str l => .int (((v.f : Int) - (begAt b l : Nat)).natAbs : Nat)
          | _ => .none) ?_ ?_
        · rintro y d H' hd s' hD hy
          obtain ⟨l, hl, rfl⟩ := List.mem_map.mp hd
          cases hy
          walk_at "rd"
          refine ⟨fun z => z.elim, fun _ => ⟨_, .inl ⟨_, Sum.inr l, rb1.imp (fun e => s' _ _ e) fun ⟨o, e⟩ => ⟨o, s' _ _ e⟩, rfl, (begAt_val (hlb l hl)).symm⟩, ?_⟩⟩
          exact ⟨_, rfl, _, rfl, _, rfl, Same.refl _, .int _⟩
        · intro H' ys s' eD hys
          have eds : ((f.labels.map PyData.str).filter fun _ => true).map (fun d => match d with
            | .str l => PyData.int (((v.f : Int) - (begAt b l : Nat)).natAbs : Nat)
            | _ => .none) = (f.labels.map fun l => ((((v.f : Int) - (begAt b l : Nat)).natAbs : Nat) : Int)).map PyData.int := by
            rw [List.filter_eq_self.mpr fun _ _ => rfl, List.map_map, List.map_map]
            rfl
          rw [eds] at hys
          cases DpAll.ints_inv hys
          refine ⟨D, _, rfl, SqL.of eD, _, rfl, big _ (by decide), fun p5 np5 => ?_⟩
          have esum : ((v.c : Nat) : Int) + (f.labels.map fun l => ((((v.f : Int) - (begAt b l : Nat)).natAbs : Nat) : Int)).sum = (endCost b f v : Nat) := by
            unfold endCost
            rw [sum_cast]
            omega
          rw [esum]
          have s8 := s'.trans (same_new (o := HO.tup [V.int (endCost b f v : Nat), kV (Sum.inl (v.f : Int))]) np5)
          have np5p : p5 ≠ p := fun z => by rw [z, s' _ _ ep1] at np5; cases np5
          refine ⟨p, xs, _, rfl, rfl, s8 _ _ ep1, ?_, yes2 _ _ _ ⟨_, _, _, _, _, rfl, ?_, upd_same, ?_⟩⟩
          · have l1 := DpAll.length ixs
            rw [List.length_map, List.length_take] at l1
            rw [sizeLine_eq]
            omega
          · intro b2 o2 n2 e2
            rw [upd_ne n2]
            exact s8 _ _ (sx1 _ _ n2 e2)
          · rw [hide_upd (List.mem_cons_self ..), etk, List.map_append]
            exact DpAll.append (DpAll.mono (Same.hide s8 _) ixs) (.cons (.tup (.inl (.inl (new_at (tk1.same s') np5))) (.cons (.int _) (.cons (.int _) .nil))) .nil)
    · rintro σ Hx ⟨o4, o5, o6, o7, xs, rfl, sx, ep, hxs⟩
      have npw2 : wd ≠ p := fun z => npw (by rw [← z]; exact List.mem_cons_self ..)
      have ex := sx _ _ npw2 eL
      refine ⟨ex, yes _ _ ⟨_, _, _, _, xs, rfl, fun b o e => ?_, by rw [upd_ne npw2.symm]; exact ep, ?_⟩⟩
      · by_cases z : b = wd
        · rw [z, upd_same]; rw [z, ewd1] at e; exact e
        · rw [upd_ne z]
          have nb : b ≠ p := fun z => by rw [z, np] at e; cases e
          exact sx _ _ nb (outL _ _ z nb e)
      · rw [hkl, List.take_length] at hxs
        have hidU : hide (upd Hx wd (.dK kvs)) (p :: wd :: ms) = hide Hx (p :: wd :: ms) := hide_upd (List.mem_cons_of_mem _ (List.mem_cons_self ..))
        rw [← hidU] at hxs
        exact DpAll.mono (hide_swap (Same.refl _) fun z hz => by
          rcases List.mem_cons.mp hz with hz | hz
          · exact .inl (by rw [hz]; exact List.mem_cons_self ..)
          · exact .inl (List.mem_cons_of_mem _ (List.mem_cons_of_mem _ hz))) hxs
  rintro σ' H2 ⟨o4, o5, o6, o7, xs, rfl, s2, ep, hxs⟩
  walk_at "rd"
  obtain ⟨w0, wt, ews⟩ : ∃ w0 ws', ws = w0 :: ws' := by
    cases ws with
    | nil => exact absurd rfl ne
    | cons w0 ws => exact ⟨w0, ws, rfl⟩
  obtain ⟨wm, hwm, emin, hmin⟩ := minD_candE (b := b) (f := f) (w0 := w0) (ws := wt)
  rw [ews, List.map_cons] at hxs
  refine ⟨p, _, _, rfl, .lst (SqL.of ep) (DpAll.mono same_show hxs), alike_candE _ _ _ _, depth_candE _ _ _ _, fun v hv => ?_⟩
  rw [emin] at hv
  rw [← ews] at hwm hmin
  exact q wm hwm hmin _ _ s2 hv
end
end Pb

/-! W16a -/
set_option Elab.async false
set_option linter.all false
set_option maxRecDepth 100000
set_option maxHeartbeats 4000000
namespace Pb
open PySem PySem.Spec PyProof.Rows L2
open C8 (Cal Mak Met pe_c pe_mk pe_mt pe_mt0 pe_gc fnScope_by)
/-! short words -/
local macro_rules | `(tactic| walk_at "rd") => `(tactic| try simp only [tVar, tC, tAdd, tSub, t2I, tIsN, tNotN, tB, tAnd, tOr, tNot, tAndV, tOrV, tNotV, tIf, tSeq, tPar, tPar3, tNext, tBreak, tCont, tDrop, tRet, tRetN, tIfS, gName, gNil, gCons, gTup, gSub, tAsg, tAug, ipI, iList, iTup, iRng1, iRng2, iStr, iEnum, iZip,
  tOp, tUn, rI, rI0, rU, tTest, tChain, tFld, sFld, sFldAug, L2.rAdd, L2.rSub, tNil, tCons, tTup, tLst, tCall, tMeth, tMake, tCB, tNoPart, tPart, tSl, tBM0, tBM, tDGet, tDGet1, tDGet2, tDIn, tDNotIn, sDPut, tDNewK, rEq, rNe, scal_ii, scal_ss, scal_bb, scal_nn, scal_ni, scal_in, scal_ns, scal_sn, scal_is, scal_si, List.take_succ_cons, List.take_zero, List.drop_succ_cons, List.drop_zero, upd_same, upd_upd, and_assoc, tKGet, gStar, tDisp, tPairs, tYes,
  L2.start, List.map_cons, List.map_nil, List.length_cons, List.length_nil, List.cons_append, List.nil_append, List.append_nil, List.replicate, Nat.sub_self, Nat.add_sub_cancel, Nat.reduceAdd, Nat.reduceSub, List.set_cons_zero, List.set_cons_succ, List.getElem?_cons_zero, List.getElem?_cons_succ,
  Option.some.injEq, V.int.injEq, V.bl.injEq, V.str.injEq, V.ref.injEq, exists_eq_left', exists_eq_left, exists_eq', exists_eq, true_and, and_true, if_true, if_false, Bool.false_eq_true, List.cons.injEq, Bool.not_true, Bool.not_false, cxK, cxP, cxW, ite_true, ite_false, wipe, reduceCtorEq, and_self, decide_true, decide_false, exists_and_left, exists_const, decide_eq_true_eq])
local macro_rules | `(tactic| walk_at "len") => `(tactic| (intro vs H Q E h; repeat (first | (obtain ⟨e, _⟩ := h; subst e; rfl) | (obtain ⟨_, h⟩ := h))))
local macro_rules | `(tactic| walk_at "wd") => `(tactic| simp (config := {decide := true}) only [V.str.injEq, scal_ss, true_and, if_true, if_false])

/-! what the fewest moves are: rows that can be done -/
def MRow.ms : MRow → Ms
  | .r a => .r a
  | .m a => .m a
theorem ms_d {rs : List MRow} : (rs.map MRow.ms).map Ms.d = rs.map MRow.d := by
  rw [List.map_map]
  exact List.map_congr_left fun m _ => by cases m <;> rfl
def MRow.cost : MRow → Nat
  | .r _ => 0
  | .m _ => 1
def moves (rs : List MRow) : Nat := (rs.map MRow.cost).sum
theorem moves_append {a b : List MRow} : moves (a ++ b) = moves a + moves b := by
  unfold moves
  rw [List.map_append, List.sum_append]
theorem moves_m : ∀ (a : List Mv), moves (a.map MRow.m) = a.length
  | [] => rfl
  | x :: a => by
    have q := moves_m a
    unfold moves at q ⊢
    rw [List.map_cons, List.map_cons, List.sum_cons, q, List.length_cons]
    show 1 + _ = _
    omega
inductive Goes (B : Nat) : Nat → Int → List MRow → List Row → Nat → Int → Prop
  | nil {f : Nat} {h : Int} : Goes B f h [] [] f h
  | fill {f f' : Nat} {h h' : Int} {rs : List MRow} {ls : List Row} : f + 1 ≤ B → (f : Int) + 1 ≤ h → Goes B (f + 1) h rs ls f' h' → Goes B f h (.m .fill :: rs) ls f' h'
  | spill {f f' : Nat} {h h' : Int} {rs : List MRow} {ls : List Row} : Goes B f h rs ls f' h' → Goes B (f + 1) h (.m .spill :: rs) ls f' h'
  | row {f f' : Nat} {h h' : Int} {rs : List MRow} {ls : List Row} {r : Row} : r.touch ≤ f → (f : Int) + r.more ≤ B → Goes B ((f : Int) + r.more).toNat (h + r.more) rs ls f' h' → Goes B f h (.r r :: rs) (r :: ls) f' h'
theorem Goes.append {B : Nat} {f f1 f2 : Nat} {h h1 h2 : Int} {rs rs2 : List MRow} {ls ls2 : List Row} (a : Goes B f h rs ls f1 h1) (b : Goes B f1 h1 rs2 ls2 f2 h2) : Goes B f h (rs ++ rs2) (ls ++ ls2) f2 h2 := by
  induction a with
  | nil => exact b
  | fill p q _ ih => exact .fill p q (ih b)
  | spill _ ih => exact .spill (ih b)
  | row p q _ ih => exact .row p q (ih b)
theorem goes_fill {B : Nat} {h : Int} : ∀ (n f : Nat), f + n ≤ B → ((f + n : Nat) : Int) ≤ h → Goes B f h ((List.replicate n Mv.fill).map MRow.m) [] (f + n) h
  | 0, f, _, _ => .nil
  | n + 1, f, p, q => by
    have r := goes_fill (B := B) (h := h) n (f + 1) (by omega) (by rw [show f + 1 + n = f + (n + 1) by omega]; exact q)
    rw [show f + 1 + n = f + (n + 1) by omega] at r
    exact .fill (by omega) (by omega) r
theorem goes_spill {B : Nat} {h : Int} : ∀ (n f : Nat), Goes B (f + n) h ((List.replicate n Mv.spill).map MRow.m) [] f h
  | 0, f => .nil
  | n + 1, f => .spill (goes_spill n f)
theorem goes_between {B : Nat} {h : Int} {a b : Nat} (hb : b ≤ B) (hh : (b : Int) ≤ h) : Goes B a h ((between a b).map MRow.m) [] b h := by
  unfold between
  split
  · rename_i z
    have q := goes_fill (B := B) (h := h) (b - a) a (by omega) (by rw [show a + (b - a) = b by omega]; exact hh)
    rw [show a + (b - a) = b by omega] at q
    exact q
  · rename_i z
    have q := goes_spill (B := B) (h := h) (a - b) b
    rw [show b + (a - b) = a by omega] at q
    exact q
theorem between_abs {a b : Nat} : (between a b).length = ((a : Int) - b).natAbs := by
  unfold between
  split <;> rw [List.length_replicate] <;> omega
def rowStp (r : Row) : Stp := ⟨r.touch, r.more, .r r⟩
def Wy (B bg : Nat) (hi : Int) (rows : List Row) (high : Int) (w : Way) : Prop := ∃ rs, w.rs = rs.map MRow.ms ∧ Goes B bg hi rs rows w.f high ∧ w.c = moves rs ∧ w.f ≤ B
theorem wy_step {B bg n : Nat} {hi high : Int} {rows : List Row} {here : List Way} (I : WayI B n here) (h : ∀ w ∈ here, Wy B bg hi rows high w) (s : Stp) {w : Way} (hw : w ∈ stepWay B here high s) :
    ∃ rs, ∃ f1 : Nat, w.rs = rs.map MRow.ms ++ [s.x] ∧ Goes B bg hi rs rows f1 high ∧ w.c = moves rs ∧ s.t ≤ f1 ∧ (f1 : Int) + s.m ≤ B ∧ f1 ≤ B ∧ w.f = ((f1 : Int) + s.m).toNat := by
  rw [stepWay_eq] at hw
  obtain ⟨k, hk, rfl⟩ := List.mem_map.mp hw
  have hk2 := List.mem_range.mp hk
  have ht := topAt_le (B := B) (high := high) (m := s.m)
  obtain ⟨v, hv, _, e⟩ := wayK_of I s k
  obtain ⟨rs, e1, g, e2, l⟩ := h v hv
  rw [e]
  refine ⟨rs ++ (between v.f (s.t + k)).map MRow.m, s.t + k, ?_, ?_, ?_, by omega, by omega, by omega, rfl⟩
  · show v.rs ++ (between v.f (s.t + k)).map Ms.m ++ [s.x] = _
    rw [e1, List.map_append, List.map_map]
    rfl
  · have q := g.append (goes_between (B := B) (h := high) (a := v.f) (b := s.t + k) (by omega) (by omega))
    rwa [List.append_nil] at q
  · show v.c + ((v.f : Int) - ((s.t + k : Nat) : Int)).natAbs = _
    rw [moves_append, moves_m, between_abs, e2]
theorem wy_run {B : Nat} {b : Blk} {bg : Nat} {hi : Int} (ok : WayOk B b bg hi) : ∀ i, i ≤ b.rows.length → ∀ w ∈ (runW B ((stepsOf b).take i) ([⟨bg, 0, []⟩], hi)).1, Wy B bg hi (b.rows.take i) (runW B ((stepsOf b).take i) ([⟨bg, 0, []⟩], hi)).2 w
  | 0, _, w, hw => by
    have e : w = ⟨bg, 0, []⟩ := List.mem_singleton.mp hw
    rw [e]
    have := ok.bg
    exact ⟨[], rfl, .nil, rfl, by show bg ≤ B; omega⟩
  | i + 1, hi2, w, hw => by
    have es : (stepsOf b)[i]? = some (rowStp b.rows[i]) := by
      unfold stepsOf
      rw [List.getElem?_append_left (by rw [List.length_map]; exact hi2), List.getElem?_map, List.getElem?_eq_getElem hi2]
      rfl
    have et : (stepsOf b).take (i + 1) = (stepsOf b).take i ++ [rowStp b.rows[i]] := by rw [List.take_succ, es]; rfl
    have et2 : b.rows.take (i + 1) = b.rows.take i ++ [b.rows[i]] := by rw [List.take_succ, List.getElem?_eq_getElem hi2]; rfl
    obtain ⟨I, _, _⟩ := runW_ok ok i (by rw [stepsOf_len]; omega)
    have q := wy_run ok i (by omega)
    rw [et, runW_snoc] at hw ⊢
    obtain ⟨rs, f1, e1, g, e2, t1, t2, t3, e3⟩ := wy_step I q _ hw
    rw [et2]
    refine ⟨rs ++ [.r b.rows[i]], ?_, ?_, ?_, ?_⟩
    · rw [e1, List.map_append]
      rfl
    · rw [e3]
      exact g.append (.row t1 t2 .nil)
    · rw [moves_append, e2]
      rfl
    · rw [e3]
      omega
theorem way_goes {B : Nat} {b : Blk} {bg : Nat} {hi : Int} (ok : WayOk B b bg hi) {w : Way} (hw : w ∈ waysThrough B b bg hi) : ∃ rs high, ∃ f1 : Nat, w.rs = rs.map MRow.ms ∧ Goes B bg hi rs b.rows f1 high ∧ w.c = moves rs ∧ b.fin.touch ≤ f1 ∧ (f1 : Int) + b.fin.more ≤ B ∧ f1 ≤ B ∧ w.f = ((f1 : Int) + b.fin.more).toNat ∧ rs.length ≤ 99 := by
  have ish := (ways_ok ok).short w hw
  have ok2 := ok.many
  unfold waysThrough at hw
  obtain ⟨w2, hw2, rfl⟩ := List.mem_map.mp hw
  have et : stepsOf b = (stepsOf b).take b.rows.length ++ [⟨b.fin.touch, b.fin.more, .e b.fin⟩] := by
    unfold stepsOf
    rw [List.take_append_of_le_length (by rw [List.length_map]; exact Nat.le_refl _), List.take_of_length_le (by rw [List.length_map]; exact Nat.le_refl _)]
  rw [et, runW_snoc] at hw2
  obtain ⟨I, _, _⟩ := runW_ok ok b.rows.length (by rw [stepsOf_len]; omega)
  obtain ⟨rs, f1, e1, g, e2, t1, t2, t3, e3⟩ := wy_step I (wy_run ok b.rows.length (Nat.le_refl _)) _ hw2
  rw [List.take_of_length_le (Nat.le_refl _)] at g
  have e4 : w2.rs.dropLast = rs.map MRow.ms := by rw [e1, List.dropLast_concat]
  refine ⟨rs, _, f1, e4, g, e2, t1, t2, t3, e3, ?_⟩
  have e5 : rs.length ≤ 6 * 13 := by
    have := ish
    rw [show (⟨w2.f, w2.c, w2.rs.dropLast⟩ : Way).rs = w2.rs.dropLast from rfl, e4, List.length_map] at this
    exact this
  omega
/-! ### what brought tells -/
def leastE (g : Beg) (f : Fin) : List Way → Nat
  | [] => 0
  | w :: ws => (ws.map (endCost g f)).foldl min (endCost g f w)
theorem foldl_min_le : ∀ (xs : List Nat) (x : Nat), xs.foldl min x ≤ x ∧ ∀ y ∈ xs, xs.foldl min x ≤ y
  | [], x => ⟨Nat.le_refl _, fun y hy => nomatch hy⟩
  | z :: xs, x => by
    rw [List.foldl_cons]
    obtain ⟨a, b⟩ := foldl_min_le xs (min x z)
    refine ⟨by omega, fun y hy => ?_⟩
    rcases List.mem_cons.mp hy with hy | hy
    · rw [hy]; omega
    · exact b y hy
theorem foldl_min_mem : ∀ (xs : List Nat) (x : Nat), xs.foldl min x = x ∨ xs.foldl min x ∈ xs
  | [], x => .inl rfl
  | z :: xs, x => by
    rw [List.foldl_cons]
    rcases foldl_min_mem xs (min x z) with h | h
    · by_cases q : x ≤ z
      · exact .inl (by rw [h]; omega)
      · exact .inr (by rw [h, Nat.min_eq_right (by omega)]; exact List.mem_cons_self ..)
    · exact .inr (List.mem_cons_of_mem _ h)
theorem leastE_of {g : Beg} {f : Fin} {ws : List Way} {w : Way} (hw : w ∈ ws) (h : ∀ v ∈ ws, endCost g f w ≤ endCost g f v) : leastE g f ws = endCost g f w := by
  cases ws with
  | nil => cases hw
  | cons v vs =>
    unfold leastE
    have a := foldl_min_le (vs.map (endCost g f)) (endCost g f v)
    have l1 : (vs.map (endCost g f)).foldl min (endCost g f v) ≤ endCost g f w := by
      rcases List.mem_cons.mp hw with e | e
      · rw [e]; exact a.1
      · exact a.2 _ (List.mem_map.mpr ⟨w, e, rfl⟩)
    have l2 : endCost g f w ≤ (vs.map (endCost g f)).foldl min (endCost g f v) := by
      rcases foldl_min_mem (vs.map (endCost g f)) (endCost g f v) with e | e
      · rw [e]; exact h v (List.mem_cons_self ..)
      · obtain ⟨u, hu, e⟩ := List.mem_map.mp e
        rw [← e]
        exact h u (List.mem_cons_of_mem _ hu)
    exact Nat.le_antisymm l1 l2
def waysOf (B : Nat) (h : Str → Int) (g : Beg) (b : Blk) : List Way := waysThrough B b (begAt g b.label) (h b.label)
def total (B : Nat) (h : Str → Int) (bs : List Blk) (g : Beg) : Nat := (bs.map fun b => leastE g b.fin (waysOf B h g b)).sum
/-- the made block of b by the numbers g -/
def MadeOf (B : Nat) (h : Str → Int) (g : Beg) (b : Blk) (m : MBlk) : Prop := ∃ w ∈ waysOf B h g b, (∀ v ∈ waysOf B h g b, endCost g b.fin w ≤ endCost g b.fin v) ∧
  ∃ rs, w.rs = rs.map MRow.ms ∧ m = ⟨b.label, begAt g b.label, rs, b.fin, b.fin.labels.map fun l => between w.f (begAt g l)⟩
structure Brought (B : Nat) (h : Str → Int) (bs : List Blk) (g : Beg) (ms : List MBlk) : Prop where
  mem : g ∈ allB (limits B h bs)
  least : ∀ g' ∈ allB (limits B h bs), total B h bs g ≤ total B h bs g'
  made : Paired (MadeOf B h g) bs ms
end Pb

/-! W16 -/
set_option Elab.async false
set_option linter.all false
set_option maxRecDepth 100000
set_option maxHeartbeats 4000000
namespace Pb
open PySem PySem.Spec PyProof.Rows L2
open C8 (Cal Mak Met pe_c pe_mk pe_mt pe_mt0 pe_gc fnScope_by)
/-! short words -/
local macro_rules | `(tactic| walk_at "rd") => `(tactic| try simp only [tVar, tC, tAdd, tSub, t2I, tIsN, tNotN, tB, tAnd, tOr, tNot, tAndV, tOrV, tNotV, tIf, tSeq, tPar, tPar3, tNext, tBreak, tCont, tDrop, tRet, tRetN, tIfS, gName, gNil, gCons, gTup, gSub, tAsg, tAug, ipI, iList, iTup, iRng1, iRng2, iStr, iEnum, iZip,
  tOp, tUn, rI, rI0, rU, tTest, tChain, tFld, sFld, sFldAug, L2.rAdd, L2.rSub, tNil, tCons, tTup, tLst, tCall, tMeth, tMake, tCB, tNoPart, tPart, tSl, tBM0, tBM, tDGet, tDGet1, tDGet2, tDIn, tDNotIn, sDPut, tDNewK, rEq, rNe, scal_ii, scal_ss, scal_bb, scal_nn, scal_ni, scal_in, scal_ns, scal_sn, scal_is, scal_si, List.take_succ_cons, List.take_zero, List.drop_succ_cons, List.drop_zero, upd_same, upd_upd, and_assoc, tKGet, gStar, tDisp, tPairs, tYes,
  L2.start, List.map_cons, List.map_nil, List.length_cons, List.length_nil, List.cons_append, List.nil_append, List.append_nil, List.replicate, Nat.sub_self, Nat.add_sub_cancel, Nat.reduceAdd, Nat.reduceSub, List.set_cons_zero, List.set_cons_succ, List.getElem?_cons_zero, List.getElem?_cons_succ,
  Option.some.injEq, V.int.injEq, V.bl.injEq, V.str.injEq, V.ref.injEq, exists_eq_left', exists_eq_left, exists_eq', exists_eq, true_and, and_true, if_true, if_false, Bool.false_eq_true, List.cons.injEq, Bool.not_true, Bool.not_false, cxK, cxP, cxW, ite_true, ite_false, wipe, reduceCtorEq, and_self, decide_true, decide_false, exists_and_left, exists_const, decide_eq_true_eq])
local macro_rules | `(tactic| walk_at "len") => `(tactic| (intro vs H Q E h; repeat (first | (obtain ⟨e, _⟩ := h; subst e; rfl) | (obtain ⟨_, h⟩ := h))))
local macro_rules | `(tactic| walk_at "wd") => `(tactic| simp (config := {decide := true}) only [V.str.injEq, scal_ss, true_and, if_true, if_false])

def lim (B : Nat) (h : Str → Int) (b : Blk) : Nat := (min (B : Int) (h b.label)).toNat
/-- which ways stand in the table: of the first j blocks, and the first k of the j-th -/
def Seen (B : Nat) (h : Str → Int) (bs : List Blk) (j k : Nat) (b : Blk) (n : Nat) : Prop := (∃ i, i < j ∧ bs[i]? = some b ∧ n < lim B h b + 1) ∨ (bs[j]? = some b ∧ n < k)
def IsWays (K : PySem.W.Frag) (H : Hp) (v : V) (ws : List Way) : Prop := ∃ q kw, v = .ref q ∧ H q = some (.dK kw) ∧ KvD K H kw (wayKv ws)
theorem IsWays.mono {K : PySem.W.Frag} {H H' : Hp} (s : Same H H') {v : V} {ws : List Way} (a : IsWays K H v ws) : IsWays K H' v ws := by
  obtain ⟨q, kw, e, a, b⟩ := a
  exact ⟨q, kw, e, s _ _ a, KvD.mono s b⟩
def Tab (K : PySem.W.Frag) (H : Hp) (wD : Addr) (ms : List Addr) (B : Nat) (h : Str → Int) (n : Nat) (S : Blk → Nat → Prop) : Prop := ∃ kvs, H wD = some (.dT kvs) ∧ kvs.length ≤ n ∧
  ∀ b k, S b k → ∃ v, valV kvs [Sum.inr b.label, Sum.inl (k : Int)] = some v ∧ IsWays K (hide H (wD :: ms)) v (waysThrough B b k (h b.label))
theorem Tab.mono {K : PySem.W.Frag} {H H' : Hp} (s : Same H H') {wD : Addr} {ms : List Addr} {B : Nat} {h : Str → Int} {n : Nat} {S : Blk → Nat → Prop} (t : Tab K H wD ms B h n S) : Tab K H' wD ms B h n S := by
  obtain ⟨kvs, e, l, q⟩ := t
  exact ⟨kvs, s _ _ e, l, fun b k hs => (q b k hs).imp fun v a => ⟨a.1, a.2.mono (Same.hide s _)⟩⟩
def sp_brought (K : PySem.W.Frag) : Sp := fun vs H Q _ => ∃ ms p bs h, ∃ B : Nat, vs = [.ref p, .int B] ∧ Tk H ms ∧ IsCode K (hide H ms) p bs h ∧ Good bs h ∧ 3 ≤ B ∧ B ≤ 5 ∧
  ∀ H' q g mbs, Same H H' → H q = none → IsMade K (hide H' ms) q mbs B → Brought B h bs g mbs → MGood mbs → Q (.ref q) H'
theorem foldB_pos : ∀ (ls : List (Str × Nat)) (acc : List Beg), 0 < acc.length → 0 < (ls.foldl (fun found l => found.flatMap fun b => (List.range (l.2 + 1)).map fun k => b ++ [(l.1, k)]) acc).length
  | [], acc, h => h
  | l :: ls, acc, h => by
    rw [List.foldl_cons]
    refine foldB_pos ls _ ?_
    cases acc with
    | nil => exact absurd h (by simp)
    | cons b acc =>
      rw [List.flatMap_cons, List.length_append, List.length_map, List.length_range]
      omega
theorem allB_pos (ls : List (Str × Nat)) : 0 < (allB ls).length := foldB_pos ls [[]] (by simp)
/-- the numbers are no more than their limits -/
theorem foldB_le : ∀ (ls : List (Str × Nat)) (pre : List (Str × Nat)) (acc : List Beg), (∀ b ∈ acc, Paired (fun (x y : Str × Nat) => x.1 = y.1 ∧ x.2 ≤ y.2) b pre) → ∀ b ∈ ls.foldl (fun found l => found.flatMap fun b => (List.range (l.2 + 1)).map fun k => b ++ [(l.1, k)]) acc, Paired (fun (x y : Str × Nat) => x.1 = y.1 ∧ x.2 ≤ y.2) b (pre ++ ls)
  | [], pre, acc, h, b, hb => by rw [List.append_nil]; exact h b hb
  | l :: ls, pre, acc, h, b, hb => by
    rw [List.foldl_cons] at hb
    have q := foldB_le ls (pre ++ [l]) _ (fun c hc => by
      obtain ⟨d, hd, hc⟩ := List.mem_flatMap.mp hc
      obtain ⟨k, hk, rfl⟩ := List.mem_map.mp hc
      exact Paired.snoc (h d hd) ⟨rfl, Nat.le_of_lt_succ (List.mem_range.mp hk)⟩) b hb
    rw [List.append_assoc] at q
    exact q
theorem allB_le {ls : List (Str × Nat)} {b : Beg} (hb : b ∈ allB ls) : Paired (fun (x y : Str × Nat) => x.1 = y.1 ∧ x.2 ≤ y.2) b ls := foldB_le ls [] [[]] (fun c hc => by rw [List.mem_singleton.mp hc]; exact .nil) b hb
theorem begAt_le {f : Str → Nat} {l : Str} : ∀ {b ls : List (Str × Nat)}, Paired (fun (x y : Str × Nat) => x.1 = y.1 ∧ x.2 ≤ y.2) b ls → (∀ y ∈ ls, y.2 = f y.1) → begAt b l ≤ f l
  | _, _, .nil, _ => Nat.zero_le _
  | x :: b, y :: ls, .cons h t, hf => by
    unfold begAt
    by_cases e : x.1 = l
    · rw [List.find?_cons_of_pos (by exact decide_eq_true e)]
      show x.2 ≤ f l
      have q := hf y (List.mem_cons_self ..)
      rw [← e, h.1, ← q]
      exact h.2
    · rw [List.find?_cons_of_neg (by show ¬ decide (x.1 = l) = true; rw [decide_eq_false e]; exact Bool.false_ne_true)]
      exact begAt_le t fun z hz => hf z (List.mem_cons_of_mem _ hz)
theorem begAt_limit {B : Nat} {h : Str → Int} {bs : List Blk} {g : Beg} (hg : g ∈ allB (limits B h bs)) (l : Str) : begAt g l ≤ limitOf B h (firstL bs) l := begAt_le (f := limitOf B h (firstL bs)) (allB_le hg) fun y hy => by
  unfold limits at hy
  obtain ⟨c, _, rfl⟩ := List.mem_map.mp hy
  rfl
theorem begAt_lim {B : Nat} {h : Str → Int} {bs : List Blk} (G : Good bs h) (b5 : B ≤ 5) {g : Beg} (hg : g ∈ allB (limits B h bs)) {b : Blk} (hb : b ∈ bs) : begAt g b.label ≤ lim B h b := by
  have q := begAt_limit hg b.label
  unfold limitOf at q
  unfold lim
  split at q <;> omega
theorem wok_beg {B : Nat} {h : Str → Int} {bs : List Blk} (G : Good bs h) (b3 : 3 ≤ B) (b5 : B ≤ 5) {g : Beg} (hg : g ∈ allB (limits B h bs)) {b : Blk} (hb : b ∈ bs) : WayOk B b (begAt g b.label) (h b.label) := ⟨b3, b5, by have := begAt_lim G b5 hg hb; have := G.h0 hb; unfold lim at *; omega, G.rows b hb, G.many b hb⟩
theorem ms_inj : ∀ {a b : List MRow}, a.map MRow.ms = b.map MRow.ms → a = b
  | [], [], _ => rfl
  | [], _ :: _, e => by simp at e
  | _ :: _, [], e => by simp at e
  | x :: a, y :: b, e => by
    rw [List.map_cons, List.map_cons] at e
    injection e with e1 e2
    rw [ms_inj e2]
    congr 1
    cases x <;> cases y <;> simp_all [MRow.ms]
theorem goes_rows {B f f' : Nat} {h h' : Int} {rs : List MRow} {ls : List Row} (g : Goes B f h rs ls f' h') : ∀ r, MRow.r r ∈ rs → r ∈ ls := by
  induction g with
  | nil => intro r hr; cases hr
  | fill _ _ _ ih => intro r hr; exact ih r ((List.mem_cons.mp hr).elim (fun z => nomatch z) id)
  | spill _ ih => intro r hr; exact ih r ((List.mem_cons.mp hr).elim (fun z => nomatch z) id)
  | row _ _ _ ih =>
    intro r hr
    rcases List.mem_cons.mp hr with z | z
    · cases z
      exact List.mem_cons_self ..
    · exact List.mem_cons_of_mem _ (ih r z)
theorem Paired.mapEq {α β γ : Type} {F : α → β → Prop} (f : α → γ) (g : β → γ) (h : ∀ a b, F a b → f a = g b) : ∀ {xs : List α} {ys : List β}, Paired F xs ys → xs.map f = ys.map g
  | _, _, .nil => rfl
  | _, _, .cons a t => by rw [List.map_cons, List.map_cons, h _ _ a, Paired.mapEq f g h t]
theorem Paired.mem {α β : Type} {F : α → β → Prop} : ∀ {xs : List α} {ys : List β}, Paired F xs ys → ∀ y ∈ ys, ∃ x ∈ xs, F x y
  | _, _, .nil, y, hy => nomatch hy
  | _, _, .cons a t, y, hy => by
    rcases List.mem_cons.mp hy with z | z
    · rw [z]
      exact ⟨_, List.mem_cons_self .., a⟩
    · obtain ⟨x, hx, f⟩ := Paired.mem t y z
      exact ⟨x, List.mem_cons_of_mem _ hx, f⟩
theorem mgood_of {B : Nat} {h : Str → Int} {bs : List Blk} (G : Good bs h) (b3 : 3 ≤ B) (b5 : B ≤ 5) {g : Beg} (hg : g ∈ allB (limits B h bs)) {mbs : List MBlk} (p : Paired (MadeOf B h g) bs mbs) : MGood mbs := by
  have el := Paired.length p
  have labEq : bs.map Blk.label = mbs.map MBlk.label := Paired.mapEq _ _ (fun b m hm => by obtain ⟨w, _, _, rs, _, rfl⟩ := hm; rfl) p
  have all : ∀ m ∈ mbs, ∃ b ∈ bs, MadeOf B h g b m := Paired.mem p
  refine ⟨by rw [← el]; exact G.one, by rw [← el]; exact G.six, fun m hm => ?_, fun m hm => ?_, fun m hm => ?_, fun m hm => ?_, by rw [← labEq]; exact G.nodup, fun m hm => ?_, fun m hm => ?_, fun m hm => ?_⟩
  · obtain ⟨b, hb, w, hw, _, rs, ers, rfl⟩ := all m hm
    exact G.names b hb
  · obtain ⟨b, hb, w, hw, _, rs, ers, rfl⟩ := all m hm
    have := begAt_lim G b5 hg hb
    show begAt g b.label ≤ 5
    unfold lim at this
    omega
  · obtain ⟨b, hb, w, hw, _, rs, ers, rfl⟩ := all m hm
    obtain ⟨rs2, high, f1, e2, _, _, _, _, _, _, l⟩ := way_goes (wok_beg G b3 b5 hg hb) hw
    rw [ms_inj (ers.symm.trans e2)]
    exact l
  · obtain ⟨b, hb, w, hw, _, rs, ers, rfl⟩ := all m hm
    obtain ⟨rs2, high, f1, e2, gs, _⟩ := way_goes (wok_beg G b3 b5 hg hb) hw
    rw [ms_inj (ers.symm.trans e2)]
    intro r hr
    exact G.puts b hb r (goes_rows gs r hr)
  · obtain ⟨b, hb, w, hw, _, rs, ers, rfl⟩ := all m hm
    intro l hl
    rw [← labEq]
    exact (G.ends b hb l hl).1
  · obtain ⟨b, hb, w, hw, _, rs, ers, rfl⟩ := all m hm
    intro t ht
    obtain ⟨l, _, rfl⟩ := List.mem_map.mp ht
    have lwf := (ways_ok (wok_beg G b3 b5 hg hb)).le w hw
    have lbg := begAt_limit hg l
    have l5 := limitOf_le (h := h) (f := firstL bs) (l := l) b5
    exact Nat.le_trans (between_len (n := 5) (by omega) (by omega)) (by decide)
  · obtain ⟨b, hb, w, hw, _, rs, ers, rfl⟩ := all m hm
    show (b.fin.labels.map _).length ≤ 1000
    rw [List.length_map]
    have := fin_two b.fin
    omega
section
variable {P : Program} {w : World} {K : PySem.W.Frag} {mg : Str → Option Value} {base : Heap}
theorem ok_brought (T : Tx w K mg) (F_check_boxes : Cal P w K mg base 3 "check_boxes" (sp_check_boxes K) []) (F_ways_through : Cal P w K mg base 2 "ways_through" (sp_ways_through K) []) (F_all_begins : Cal P w K mg base 2 "all_begins" (sp_all_begins K) []) (F_best_end : Cal P w K mg base 1 "best_end" (sp_best_end K) []) (F_moves_between : Cal P w K mg base 1 "moves_between" (sp_moves_between K) []) (M_Made : KMak P w K mg base 8 "Made" (He.ga K "Made") (sp_Made___init__ K) ["self", "blocks", "boxes"] s_Made___init__ "Made.__init__" [("boxes", .int 3)]) : KDef P w K mg base 10 "brought" (sp_brought K) ["code", "boxes"] s_brought [("boxes", .int 3)] := by
  refine kdef_of T.D_brought T.g_brought sc_brought (by walk_at "len") fun cdv A outer s H vs Q E hr h => ?_
  refine ⟨_, (pss_cons (ps_expr (pe_c F_check_boxes hr (by decide) (by rfl) (pa_cons (pv 1) pa_nil)))
    (pss_cons (ps_set (i := 2) sc_brought.nd rfl (by first | exact Or.inl rfl | exact Or.inr rfl) pe_dnewT)
    (pss_cons (ps_for PassesOwn.never rfl (pi_listK (K := K) (pe_fldK (K := K) (pv 0) rfl)) (pg_tupK (K := K) (n := 3) rfl (pgs_cons (pg_name (i := 3) sc_brought.nd rfl (by first | exact Or.inl rfl | exact Or.inr rfl)) (pgs_cons (pg_name (i := 4) sc_brought.nd rfl (by first | exact Or.inl rfl | exact Or.inr rfl)) (pgs_cons (pg_name (i := 5) sc_brought.nd rfl (by first | exact Or.inl rfl | exact Or.inr rfl)) pgs_nil)))) (pss_one (ps_for PassesOwn.never rfl (pi_range1 (by rfl) T.b_range (pa_cons (pe_op op_add (pe_callB (call_min2' rfl) (by rfl) T.b_min (by decide +kernel) (pa_cons (pv 1) (pa_cons (pe_dget (hu_of hr) (pe_fldK (K := K) (pv 0) rfl) (pv 3) (fun _ _ => rfl)) pa_nil))) pe_int) pa_nil)) (pg_name (i := 6) sc_brought.nd rfl (by first | exact Or.inl rfl | exact Or.inr rfl)) (pss_one (ps_dput (hu_of hr) (pv 2) (pe_tup (pa_cons (pv 3) (pa_cons (pv 6) pa_nil))) (pe_c F_ways_through hr (by decide) (by rfl) (pa_cons (pv 4) (pa_cons (pv 5) (pa_cons (pv 6) (pa_cons (pe_dget (hu_of hr) (pe_fldK (K := K) (pv 0) rfl) (pv 3) (fun _ _ => rfl)) (pa_cons (pv 1) pa_nil)))))) rfl)))))
    (pss_cons (ps_asg (pe_tup (pa_cons pe_non (pa_cons pe_non pa_nil))) (pg_tupK (K := K) (n := 2) rfl (pgs_cons (pg_name (i := 7) sc_brought.nd rfl (by first | exact Or.inl rfl | exact Or.inr rfl)) (pgs_cons (pg_name (i := 8) sc_brought.nd rfl (by first | exact Or.inl rfl | exact Or.inr rfl)) pgs_nil))))
    (pss_cons (ps_for PassesOwn.never rfl (pi_listK (K := K) (pe_c F_all_begins hr (by decide) (by rfl) (pa_cons (pv 0) (pa_cons (pv 1) pa_nil)))) (pg_name (i := 9) sc_brought.nd rfl (by first | exact Or.inl rfl | exact Or.inr rfl)) (pss_cons (ps_set (i := 10) sc_brought.nd rfl (by first | exact Or.inl rfl | exact Or.inr rfl) (pe_callB (r := rSum K) (cr_sum rfl) (by rfl) T.b_sum (by decide +kernel) (pa_cons (pe_lc rfl sc_brought.nd (pi_listK (K := K) (pe_fldK (K := K) (pv 0) rfl)) (blkOk_by (own := [("label", 3), ("rows", 4), ("end", 5)]) (N := ["code", "boxes", "ways", "label", "rows", "end", "begin", "best", "most", "begins", "total", "blocks", "table", "full", "tails", "there"]) (sc := L2.defScope s_brought) (by decide +kernel)) (fun _ _ _ _ _ => (pg_m (pg_tupK (K := K) (n := 3) rfl (pgs_cons (pg_name (i := 3) sc_brought.nd rfl (by first | exact Or.inl rfl | exact Or.inr rfl)) (pgs_cons (pg_name (i := 4) sc_brought.nd rfl (by first | exact Or.inl rfl | exact Or.inr rfl)) (pgs_cons (pg_name (i := 5) sc_brought.nd rfl (by first | exact Or.inl rfl | exact Or.inr rfl)) pgs_nil)))))) (fun _ _ _ _ _ => pts_nilM) (fun _ _ _ _ _ => (pe_m (pe_ix (r := rIx K) ix_seq (pe_c F_best_end hr (by decide) (by rfl) (pa_cons (pe_dget (hu_of hr) (pv 2) (pe_tup (pa_cons (pv 3) (pa_cons (pe_dget (hu_of hr) (pv 9) (pv 3) (fun _ _ => rfl)) pa_nil))) (fun _ _ => rfl)) (pa_cons (pv 5) (pa_cons (pv 9) pa_nil)))) pe_int (fun _ _ => rfl))))) pa_nil)))
    (pss_one (ps_if (PW.pt (pw_or (pt_cmpR op_isN (pv 8) pe_non (nomark _)) (pw_or1 (pt_cmpR op_lt (pv 10) (pv 8) (nomark _))))) (pss_one (ps_asg (pe_tup (pa_cons (pv 9) (pa_cons (pv 10) pa_nil))) (pg_tupK (K := K) (n := 2) rfl (pgs_cons (pg_name (i := 7) sc_brought.nd rfl (by first | exact Or.inl rfl | exact Or.inr rfl)) (pgs_cons (pg_name (i := 8) sc_brought.nd rfl (by first | exact Or.inl rfl | exact Or.inr rfl)) pgs_nil))))) pss_nil))))
    (pss_cons (ps_set (i := 11) sc_brought.nd rfl (by first | exact Or.inl rfl | exact Or.inr rfl) (pe_lst pa_nil))
    (pss_cons (ps_for PassesOwn.never rfl (pi_listK (K := K) (pe_fldK (K := K) (pv 0) rfl)) (pg_tupK (K := K) (n := 3) rfl (pgs_cons (pg_name (i := 3) sc_brought.nd rfl (by first | exact Or.inl rfl | exact Or.inr rfl)) (pgs_cons (pg_name (i := 4) sc_brought.nd rfl (by first | exact Or.inl rfl | exact Or.inr rfl)) (pgs_cons (pg_name (i := 5) sc_brought.nd rfl (by first | exact Or.inl rfl | exact Or.inr rfl)) pgs_nil)))) (pss_cons (ps_set (i := 12) sc_brought.nd rfl (by first | exact Or.inl rfl | exact Or.inr rfl) (pe_dget (hu_of hr) (pv 2) (pe_tup (pa_cons (pv 3) (pa_cons (pe_dget (hu_of hr) (pv 7) (pv 3) (fun _ _ => rfl)) pa_nil))) (fun _ _ => rfl)))
    (pss_cons (ps_set (i := 13) sc_brought.nd rfl (by first | exact Or.inl rfl | exact Or.inr rfl) (pe_ix (r := rIx K) ix_seq (pe_c F_best_end hr (by decide) (by rfl) (pa_cons (pv 12) (pa_cons (pv 5) (pa_cons (pv 7) pa_nil)))) pe_int (fun _ _ => rfl)))
    (pss_cons (ps_setLc (i := 14) rfl sc_brought.nd rfl rfl (sw_true rfl rfl rfl (by decide +kernel)) (pi_tupK (K := K) (pe_slice (r := rSlT K) sl_tup (pv 5) (po_some pe_int) po_none)) (blkOk_by (own := [("there", 15)]) (N := ["code", "boxes", "ways", "label", "rows", "end", "begin", "best", "most", "begins", "total", "blocks", "table", "full", "tails", "there"]) (sc := L2.defScope s_brought) (by decide +kernel)) (fun _ _ _ _ _ => (pg_m (pg_name (i := 15) sc_brought.nd rfl (by first | exact Or.inl rfl | exact Or.inr rfl)))) (fun _ _ _ _ _ => pts_nilM) (fun _ _ _ _ _ => (pe_m (pe_c F_moves_between hr (by decide) (by rfl) (pa_cons (pv 13) (pa_cons (pe_dget (hu_of hr) (pv 7) (pv 15) (fun _ _ => rfl)) pa_nil))))))
    (pss_one (ps_expr (pe_bm PySem.F.plainAttrs_list PySem.F.slot_list_append PySem.F.type_list_append mt_append (pv 11) (pa_cons (pe_tup (pa_cons (pv 3) (pa_cons (pe_dget (hu_of hr) (pv 7) (pv 3) (fun _ _ => rfl)) (pa_cons (pe_ix (r := rIx K) ix_seq (pe_dget (hu_of hr) (pv 12) (pv 13) (fun _ _ => rfl)) pe_int (fun _ _ => rfl)) (pa_cons (pv 5) (pa_cons (pv 14) pa_nil)))))) pa_nil))))))))
    (pss_one (ps_ret (pe_mkK M_Made hr (by decide) (by rfl) 1 ["boxes"] [] (fun us mv ws => (us ++ ws)) (fun z => by cases z) (fun q hq => by simp at hq) (fun r1 r2 r3 => (r1.append r3)) (fun _ _ _ _ _ _ us mv ws l1 l2 l3 => match us, mv, ws, l1, l2, l3 with | [_, _], [], [_], _, _, _ => (by (show _ = _); rfl)) (pa_cons (pv 11) pa_nil) (pk_cons (pv 1) pk_nil))))))))))), ?_⟩
  obtain ⟨ms, p, bs, h, B, rfl, tk, c, G, b3, b5, q⟩ := h
  have big : ∀ n : Nat, n ≤ 1000000 → n ≤ sizeLine := fun n h => by rw [sizeLine_eq]; omega
  have h6 := G.six
  refine seq_mid (fun σ' H1 => σ' = [some (.ref p), some (.int B), none, none, none, none, none, none, none, none, none, none, none, none, none, none] ∧ Same H H1) (fun Kx yes => ?_) ?_
  · walk_at "rd"
    exact ⟨B, rfl, b3, b5, fun H1 s1 => yes _ _ ⟨rfl, s1⟩⟩
  rintro σ' H1 ⟨rfl, s1⟩
  refine seq_mid (fun σ' H2 => ∃ wD, σ' = [some (.ref p), some (.int B), some (.ref wD), none, none, none, none, none, none, none, none, none, none, none, none, none] ∧ H1 wD = none ∧ H2 = upd H1 wD (.dT [])) (fun Kx yes => ?_) ?_
  · walk_at "rd"
    exact fun wD nd => yes _ _ ⟨wD, rfl, nd, rfl⟩
  rintro σ' H2 ⟨wD, rfl, nw, rfl⟩
  have s2 : Same H (upd H1 wD (.dT [])) := s1.trans (same_new nw)
  have tk2 : Tk (upd H1 wD (.dT [])) (wD :: ms) := Tk.cons upd_same (tk.same s2)
  have c2 : IsCode K (hide (upd H1 wD (.dT [])) (wD :: ms)) p bs h := c.mono (hide_swap s2 fun z hz => (List.mem_cons.mp hz).elim (fun e => .inr (by rw [e]; exact s1.free nw)) .inl)
  have t2 : Tab K (upd H1 wD (.dT [])) wD ms B h 0 (Seen B h bs 0 0) := ⟨[], upd_same, Nat.le_refl _, fun b k hs => by
    rcases hs with ⟨i, hi, _⟩ | ⟨_, hk⟩
    · omega
    · omega⟩
  have nwH : H wD = none := s1.free nw
  generalize upd H1 wD (.dT []) = H2 at *
  obtain ⟨dx, pa, ta, ha, kvs, c3, c4, _, _, c7⟩ := id c2
  have c3' := same_show _ _ c3
  have c7' := same_show _ _ c7
  obtain ⟨pl, pxs, e, hps, hpa⟩ := dp_list c4
  cases e
  have hpl : pxs.length = bs.length := by rw [DpAll.length hpa, List.length_map]
  refine seq_mid (fun σ' H3 => ∃ o3 o4 o5 o6, σ' = [some (.ref p), some (.int B), some (.ref wD), o3, o4, o5, o6, none, none, none, none, none, none, none, none, none] ∧ Same H H3 ∧ Same (hide H2 (wD :: ms)) (hide H3 (wD :: ms)) ∧ Tab K H3 wD ms B h 36 (Seen B h bs bs.length 0)) (fun Kx yes => ?_) ?_
  · refine a_for ?_
    walk_at "rd"
    refine ⟨_, _, _, c3', T.c_Code, T.n_Code_parts, _, rfl, pa, rfl, ⟨pxs, sqL_same same_show hps⟩, ?_⟩
    refine for_go2 (walk_list (xs := pxs)) (fun j σ Hx => ∃ o3 o4 o5 o6, σ = [some (.ref p), some (.int B), some (.ref wD), o3, o4, o5, o6, none, none, none, none, none, none, none, none, none] ∧ Same H Hx ∧ Same (hide H2 (wD :: ms)) (hide Hx (wD :: ms)) ∧ Tab K Hx wD ms B h (j * 6) (Seen B h bs j 0)) ⟨none, none, none, none, rfl, s2, Same.refl _, by rw [Nat.zero_mul]; exact t2⟩ (fun i σ Hx _ q => by
      obtain ⟨_, _, _, _, _, _, q, _⟩ := q
      exact sqL_same (q.trans same_show) hps) ?_ ?_
    · rintro Pw yes2 j x σ Hx Hx' hj ⟨o3, o4, o5, o6, rfl, sx, sh, tx⟩ ⟨e1, ex⟩
      subst e1
      obtain ⟨d, ed, hd⟩ := DpAll.at hpa ex
      rw [List.getElem?_map] at ed
      cases eb : bs[j]? with
      | none => rw [eb] at ed; cases ed
      | some b =>
        rw [eb] at ed
        cases ed
        have hb := List.mem_of_getElem? eb
        obtain ⟨pt, u1, u2, u3, rfl, ht3, q1, q2, q3⟩ := dp_t3 hd
        cases q1
        have shx : Same (hide H2 (wD :: ms)) Hx' := sh.trans same_show
        refine a_t3V (sqT_same shx ht3) ?_
        refine a_for ?_
        walk_at "rd"
        refine ⟨_, _, _, shx _ _ c3, T.c_Code, T.n_Code_high, _, rfl, ha, rfl, _, .inl ⟨_, Sum.inr b.label, .inl (shx _ _ c7), rfl, (highs_at (List.mem_map.mpr ⟨b, hb, rfl⟩)).symm⟩, ?_⟩
        have h0 := G.h0 hb
        have elim : ((min (B : Int) (h b.label)) + 1).toNat = lim B h b + 1 := by unfold lim; omega
        refine ⟨_, _, rfl, _, rfl, by omega, by omega, ?_⟩
        rw [elim]
        have l5 : lim B h b ≤ 5 := by unfold lim; omega
        have hj6 : j < 6 := by omega
        refine for_go2 walk_range (fun k σ Hy => ∃ o6, σ = [some (.ref p), some (.int B), some (.ref wD), some (.str b.label), some u2, some u3, o6, none, none, none, none, none, none, none, none, none] ∧ Same H Hy ∧ Same (hide H2 (wD :: ms)) (hide Hy (wD :: ms)) ∧ Tab K Hy wD ms B h (j * 6 + k) (Seen B h bs j k)) ⟨o6, rfl, sx, sh, tx⟩ (fun _ _ _ _ _ => trivial) ?_ ?_
        · rintro Pw3 yes3 k y σ Hy Hy' hk ⟨o6, rfl, sy, shy, ty⟩ ⟨e6, e7⟩
          subst e6
          obtain rfl : y = V.int (k : Nat) := by
            rw [← show ((0 : Int) + (k : Nat)) = (k : Nat) by omega]
            exact e7
          refine g_name ?_
          have shz : Same (hide H2 (wD :: ms)) Hy' := shy.trans same_show
          walk_at "rd"
          obtain ⟨kvt, ew, lw, fw⟩ := ty
          have tky : Tk Hy' (wD :: ms) := Tk.cons ew (tk.same sy)
          have ok : WayOk B b k (h b.label) := ⟨b3, b5, by unfold lim at hk; omega, G.rows b hb, G.many b hb⟩
          refine ⟨_, _, _, shz _ _ c3, T.c_Code, T.n_Code_high, _, rfl, ha, rfl, _, .inl ⟨_, Sum.inr b.label, .inl (shz _ _ c7), rfl, (highs_at (List.mem_map.mpr ⟨b, hb, rfl⟩)).symm⟩, ?_⟩
          refine ⟨wD :: ms, _, _, b, k, h b.label, B, rfl, tky, Dp.mono shy q2, Dp.mono shy q3, ok, fun H4 q4 kw s4 nq4 e4 hkw => ?_⟩
          refine ⟨big _ (by decide), fun p5 np5 => ?_⟩
          have s5 := same_new (o := HO.tup [V.str b.label, V.int (k : Nat)]) np5
          have ew5 := s5 _ _ (s4 _ _ ew)
          have tk4 := tky.same s4
          have iw : IsWays K (hide (upd H4 p5 (.tup [.str b.label, .int (k : Nat)])) (wD :: ms)) (.ref q4) (waysThrough B b k (h b.label)) := by
            refine ⟨q4, kw, rfl, ?_, ?_⟩
            · rw [hide_at (tky.out nq4)]
              exact s5 _ _ e4
            · exact KvD.mono (hide_swap s5 fun z hz => .inl (List.mem_cons_of_mem _ hz)) hkw
          have s45 := s4.trans s5
          have ep5 : upd H4 p5 (.tup [.str b.label, .int (k : Nat)]) p5 = some (.tup ([Sum.inr b.label, Sum.inl (k : Int)].map kV)) := upd_same
          generalize upd H4 p5 (.tup [.str b.label, .int (k : Nat)]) = H5 at *
          refine ⟨_, DPut.t ew5 ep5 (by rw [sizeLine_eq]; omega), yes3 _ _ _ ⟨_, rfl, ?_, ?_, ?_⟩⟩
          · exact same_own (sy.trans s45) (ms := [wD]) Sx.at fun z hz => by rw [List.mem_singleton.mp hz]; exact nwH
          · rw [hide_upd (List.mem_cons_self ..)]
            exact shy.trans (Same.hide s45 _)
          · refine ⟨_, upd_same, ?_, fun b2 k2 hs => ?_⟩
            · have := length_putK kvt [Sum.inr b.label, Sum.inl (k : Int)] (V.ref q4)
              omega
            · rw [hide_upd (List.mem_cons_self ..), valV_put]
              by_cases z : ([Sum.inr b2.label, Sum.inl (k2 : Int)] : List Key) = [Sum.inr b.label, Sum.inl (k : Int)]
              · rw [if_pos z]
                have z1 : b2.label = b.label := by injection z with z _; exact Sum.inr.inj z
                have z2 : k2 = k := by
                  injection z with _ z
                  injection z with z _
                  have := Sum.inl.inj z
                  omega
                have hb2 : b2 ∈ bs := by
                  rcases hs with ⟨i, _, e, _⟩ | ⟨e, _⟩
                  · exact List.mem_of_getElem? e
                  · exact List.mem_of_getElem? e
                obtain rfl := nodup_label G.nodup hb2 hb z1
                subst z2
                exact ⟨_, rfl, iw⟩
              · rw [if_neg z]
                have hs2 : Seen B h bs j k b2 k2 := by
                  rcases hs with hs | ⟨e, hk2⟩
                  · exact .inl hs
                  · rw [eb] at e
                    cases e
                    exact .inr ⟨eb, by
                      by_cases z2 : k2 = k
                      · exact absurd (by rw [z2]) z
                      · omega⟩
                obtain ⟨v, e, iv⟩ := fw b2 k2 hs2
                exact ⟨v, e, iv.mono (Same.hide s45 _)⟩
        · rintro σ Hy ⟨o6, rfl, sy, shy, ty⟩
          refine yes2 _ _ _ ⟨_, _, _, _, rfl, sy, shy, ?_⟩
          obtain ⟨kvt, ew, lw, fw⟩ := ty
          refine ⟨kvt, ew, by omega, fun b2 k2 hs => fw b2 k2 ?_⟩
          rcases hs with ⟨i, hi, e, hk2⟩ | ⟨_, hk2⟩
          · by_cases z : i = j
            · subst z
              rw [eb] at e
              cases e
              exact .inr ⟨eb, hk2⟩
            · exact .inl ⟨i, by omega, e, hk2⟩
          · omega
    · rintro σ Hx ⟨o3, o4, o5, o6, rfl, sx, sh, tx⟩
      rw [hpl] at tx
      obtain ⟨kvs2, e2, l2, f2⟩ := tx
      exact yes _ _ ⟨_, _, _, _, rfl, sx, sh, kvs2, e2, by omega, f2⟩
  rintro σ' H3 ⟨o3, o4, o5, o6, rfl, s3, s23, t3⟩
  obtain ⟨kvt, ew3, lw3, fw3⟩ := id t3
  have tk3 : Tk H3 (wD :: ms) := Tk.cons ew3 (tk.same s3)
  have cc := c2.mono s23
  have hpa3 := DpAll.mono s23 hpa
  have hps3 := sqL_same s23 hps
  have f3 := s23 _ _ c3
  have g3 := s23 _ _ c7
  have hll : ∀ {H' : Hp} {b : Blk} {g : Beg}, Same H3 H' → b ∈ bs → g ∈ allB (limits B h bs) → ∃ v, valV kvt [Sum.inr b.label, Sum.inl (begAt g b.label : Int)] = some v ∧ IsWays K (hide H' (wD :: ms)) v (waysOf B h g b) := fun {H' b g} s hb hg => by
    obtain ⟨i, hi, e⟩ := List.getElem_of_mem hb
    obtain ⟨v, e1, e2⟩ := fw3 b (begAt g b.label) (.inl ⟨i, hi, by rw [← e]; exact List.getElem?_eq_getElem hi, Nat.lt_succ_of_le (begAt_lim G b5 hg hb)⟩)
    exact ⟨v, e1, e2.mono (Same.hide s _)⟩
  refine seq_mid (fun σ' H4 => σ' = [some (.ref p), some (.int B), some (.ref wD), o3, o4, o5, o6, some .non, some .non, none, none, none, none, none, none, none] ∧ Same H3 H4) (fun Kx yes => ?_) ?_
  · walk_at "rd"
    exact ⟨big _ (by decide), fun p1 np1 => a_t2V (SqT.of upd_same) (yes _ _ ⟨rfl, same_new np1⟩)⟩
  rintro σ' H4 ⟨rfl, s4⟩
  refine seq_mid (fun σ' H5 => ∃ o3 o4 o5 o6 qb g o8 o9 o10, σ' = [some (.ref p), some (.int B), some (.ref wD), o3, o4, o5, o6, some (.ref qb), o8, o9, o10, none, none, none, none, none] ∧ Same H3 H5 ∧ H5 qb = some (.dK (begKv g)) ∧ g ∈ allB (limits B h bs) ∧ ∀ g' ∈ allB (limits B h bs), total B h bs g ≤ total B h bs g') (fun Kx yes => ?_) ?_
  · refine a_for ?_
    walk_at "rd"
    refine ⟨wD :: ms, p, bs, h, B, rfl, tk3.same s4, cc.mono (Same.hide s4 _), G, b5, fun H5 v s5 hv => ?_⟩
    obtain ⟨la, xs, rfl, hla, hxs⟩ := hv
    have s35 := s4.trans s5
    have hla5 := same_show _ _ hla
    have hxl := Paired.length hxs
    have hfne : 0 < (allB (limits B h bs)).length := allB_pos _
    have hfm : ∀ g ∈ allB (limits B h bs), ∀ b ∈ bs, b.label ∈ g.map (·.1) := fun g hg b hb => by
      rw [keys_allB hg]
      unfold limits
      rw [List.map_map]
      exact List.mem_map.mpr ⟨b.label, List.mem_map.mpr ⟨b, hb, rfl⟩, rfl⟩
    have wok1 : ∀ g ∈ allB (limits B h bs), ∀ b ∈ bs, WayOk B b (begAt g b.label) (h b.label) := fun g hg b hb => wok_beg G b3 b5 hg hb
    generalize hfd : allB (limits B h bs) = found at *
    refine ⟨la, rfl, ⟨xs, SqL.of hla5⟩, ?_⟩
    refine for_go2 walk_list (fun i σ Hx => ∃ o3 o4 o5 o6 v7 v8 o9 o10, σ = [some (.ref p), some (.int B), some (.ref wD), o3, o4, o5, o6, some v7, some v8, o9, o10, none, none, none, none, none] ∧ Same H5 Hx ∧ (i = 0 → v8 = .non) ∧ (0 < i → ∃ qb g, v7 = .ref qb ∧ Hx qb = some (.dK (begKv g)) ∧ v8 = .int (total B h bs g : Nat) ∧ g ∈ found ∧ ∀ g' ∈ found.take i, total B h bs g ≤ total B h bs g')) ⟨_, _, _, _, _, _, _, _, rfl, Same.refl _, fun _ => rfl, fun z => by omega⟩ (fun i σ Hx _ q => by
      obtain ⟨_, _, _, _, _, _, _, _, _, q, _⟩ := q
      exact SqL.of (q _ _ hla5)) ?_ ?_
    · rintro Pw yes2 i x σ Hx Hx' hi ⟨o3, o4, o5, o6, v7, v8, o9, o10, rfl, sx, hz, hp⟩ ⟨e1, ex⟩
      subst e1
      obtain ⟨g1, eg1, qb1, rfl, eq1⟩ := Paired.at hxs ex
      have hg1 := List.mem_of_getElem? eg1
      have eq5 := same_show _ _ eq1
      have s3x := s35.trans sx
      have tkx := tk3.same s3x
      refine g_name ?_
      refine seq_mid (fun σ' H6 => σ' = [some (.ref p), some (.int B), some (.ref wD), o3, o4, o5, o6, some v7, some v8, some (.ref qb1), some (.int (total B h bs g1 : Nat)), none, none, none, none, none] ∧ Same Hx' H6) (fun Kx2 yes3 => ?_) ?_
      · walk_at "rd"
        refine a_lc ?_
        walk_at "rd"
        refine ⟨_, _, _, s3x _ _ (same_show _ _ f3), T.c_Code, T.n_Code_parts, _, rfl, pa, rfl, ⟨pxs, sqL_same ((Same.hide s3x _).trans same_show) hps3⟩, fun D nD => ?_⟩
        refine lc_pure (K := K) (ms := wD :: ms) (walk_list (xs := pxs)) nD tkx (by rw [hpl, sizeLine_eq]; omega) (fun H' s' => sqL_same ((Same.hide (s3x.trans s') _).trans same_show) hps3) (fun _ => true) (fun i => ((bs[i]?).map fun b => PyData.int (leastE g1 b.fin (waysOf B h g1 b) : Nat)).getD .none) ?_ ?_
        · rintro j y H6 H7 hj s6 hD6 ⟨e1, ey⟩
          subst e1
          obtain ⟨d, ed, hd⟩ := DpAll.at hpa3 ey
          rw [List.getElem?_map] at ed
          cases eb : bs[j]? with
          | none => rw [eb] at ed; cases ed
          | some b =>
            rw [eb] at ed
            cases ed
            have hb := List.mem_of_getElem? eb
            have s37 := s3x.trans s6
            obtain ⟨pt, u1, u2, u3, rfl, ht3, q1, q2, q3⟩ := dp_t3 hd
            cases q1
            refine a_t3V (sqT_same ((Same.hide s37 _).trans same_show) ht3) ⟨rfl, ?_⟩
            walk_at "rd"
            refine ⟨fun z => z.elim, fun _ => ⟨_, .inl ⟨_, Sum.inr b.label, .inl (s6 _ _ (sx _ _ eq5)), rfl, (begAt_val (hfm g1 hg1 b hb)).symm⟩, big _ (by decide), fun p6 np6 => ?_⟩⟩
            have sp := same_new (o := HO.tup [V.str b.label, V.int (begAt g1 b.label : Nat)]) np6
            have s8 := s37.trans sp
            obtain ⟨tv, etv, q6, kw6, rfl, ekw, hkw⟩ := hll s8 hb hg1
            refine ⟨.ref q6, .inr ⟨kvt, [Sum.inr b.label, Sum.inl (begAt g1 b.label : Int)], p6, .inl (s8 _ _ ew3), rfl, upd_same, etv.symm⟩, ?_⟩
            have wi := ways_ok (wok1 g1 hg1 b hb)
            refine ⟨wD :: ms, q6, u3, qb1, g1, b.fin, waysOf B h g1 b, kw6, rfl, tk3.same s8, ekw, hkw, wi.ne, wi.six, Dp.mono (Same.hide s8 _) q3, sp _ _ (s6 _ _ (sx _ _ eq5)), fun l hl => ?_, fun w hw hmin H8 v s9 hv => ?_⟩
            · obtain ⟨b2, hb2, e2⟩ := List.mem_map.mp (G.ends b hb l hl).1
              rw [← e2]
              exact hfm g1 hg1 b2 hb2
            · refine a_ixT hv atI_0 fun u hu => ?_
              cases hu
              refine ⟨sp.trans s9, ?_⟩
              show Dp K _ _ (PyData.int (leastE g1 b.fin (waysOf B h g1 b) : Nat))
              rw [leastE_of hw hmin]
              exact .int _
        · intro H' ys s' eD hys
          have emap : ((List.range pxs.length).filter fun _ => true).map (fun i => ((bs[i]?).map fun b => PyData.int (leastE g1 b.fin (waysOf B h g1 b) : Nat)).getD .none) = (bs.map fun b => ((leastE g1 b.fin (waysOf B h g1 b) : Nat) : Int)).map PyData.int := by
            rw [List.filter_eq_self.mpr fun _ _ => rfl, hpl, List.map_map]
            refine List.ext_getElem (by simp) fun n h1 h2 => ?_
            rw [List.length_map, List.length_range] at h1
            rw [List.getElem_map, List.getElem_range, List.getElem?_eq_getElem h1, List.getElem_map]
            rfl
          rw [emap] at hys
          cases DpAll.ints_inv hys
          refine ⟨D, _, rfl, SqL.of eD, ?_⟩
          rw [sum_cast]
          exact yes3 _ _ ⟨rfl, s'⟩
      rintro σ' H6 ⟨rfl, s6⟩
      have etk : found.take (i + 1) = found.take i ++ [g1] := by rw [List.take_succ, eg1]; rfl
      have eq6 := s6 _ _ (sx _ _ eq5)
      have fin : ∀ H7, Same H6 H7 → (∀ g' ∈ found.take i, total B h bs g1 ≤ total B h bs g') → Pw (i + 1) [some (.ref p), some (.int B), some (.ref wD), o3, o4, o5, o6, some (.ref qb1), some (.int (total B h bs g1 : Nat)), some (.ref qb1), some (.int (total B h bs g1 : Nat)), none, none, none, none, none] H7 := fun H7 s7 hl => yes2 _ _ _ ⟨_, _, _, _, _, _, _, _, rfl, sx.trans (s6.trans s7), fun z => by omega, fun _ => ⟨qb1, g1, rfl, s7 _ _ eq6, rfl, hg1, fun g' hg' => by
        rw [etk] at hg'
        rcases List.mem_append.mp hg' with hg' | hg'
        · exact hl g' hg'
        · rw [List.mem_singleton.mp hg']; exact Nat.le_refl _⟩⟩
      walk_at "rd"
      by_cases i0 : i = 0
      · rw [if_pos (hz i0)]
        refine ⟨big _ (by decide), fun p1 np1 => a_t2V (SqT.of upd_same) (fin _ (same_new np1) fun g' hg' => ?_)⟩
        rw [i0, List.take_zero] at hg'
        cases hg'
      · obtain ⟨qb, g, rfl, e1, rfl, e2, e3⟩ := hp (by omega)
        rw [if_neg (fun z => nomatch z)]
        refine ⟨_, rfl, ?_⟩
        by_cases lt : total B h bs g1 < total B h bs g
        · rw [if_pos (by omega)]
          exact ⟨big _ (by decide), fun p1 np1 => a_t2V (SqT.of upd_same) (fin _ (same_new np1) fun g' hg' => Nat.le_trans (Nat.le_of_lt lt) (e3 g' hg'))⟩
        · rw [if_neg (by omega)]
          refine yes2 _ _ _ ⟨_, _, _, _, _, _, _, _, rfl, sx.trans s6, fun z => by omega, fun _ => ⟨qb, g, rfl, s6 _ _ e1, rfl, e2, fun g' hg' => ?_⟩⟩
          rw [etk] at hg'
          rcases List.mem_append.mp hg' with hg' | hg'
          · exact e3 g' hg'
          · rw [List.mem_singleton.mp hg']; omega
    · rintro σ Hx ⟨o3, o4, o5, o6, v7, v8, o9, o10, rfl, sx, hz, hp⟩
      rw [hxl] at hp
      obtain ⟨qb, g, rfl, e1, rfl, e2, e3⟩ := hp hfne
      rw [List.take_length] at e3
      exact yes _ _ ⟨_, _, _, _, qb, g, _, _, _, rfl, s35.trans sx, e1, e2, e3⟩
  rintro σ' H5 ⟨o3, o4, o5, o6, qb, g, o8, o9, o10, rfl, s5, eqb, hgm, hgl⟩
  have hfm : ∀ b ∈ bs, b.label ∈ g.map (·.1) := fun b hb => by
    rw [keys_allB hgm]
    unfold limits
    rw [List.map_map]
    exact List.mem_map.mpr ⟨b.label, List.mem_map.mpr ⟨b, hb, rfl⟩, rfl⟩
  have hfl : ∀ b ∈ bs, ∀ l ∈ b.fin.labels, l ∈ g.map (·.1) := fun b hb l hl => by
    obtain ⟨b2, hb2, e2⟩ := List.mem_map.mp (G.ends b hb l hl).1
    rw [← e2]
    exact hfm b2 hb2
  have wok1 := fun b hb => wok_beg G b3 b5 hgm (b := b) hb
  refine seq_mid (fun σ' H6 => ∃ bl, σ' = [some (.ref p), some (.int B), some (.ref wD), o3, o4, o5, o6, some (.ref qb), o8, o9, o10, some (.ref bl), none, none, none, none] ∧ H5 bl = none ∧ H6 = upd H5 bl (.lst [])) (fun Kx yes => ?_) ?_
  · walk_at "rd"
    exact ⟨big _ (by decide), fun bl nbl => yes _ _ ⟨bl, rfl, nbl, rfl⟩⟩
  rintro σ' H6 ⟨bl, rfl, nbl, rfl⟩
  have tk5 := tk3.same s5
  have s56 := same_new (o := HO.lst []) nbl
  have e6 : upd H5 bl (.lst []) bl = some (.lst []) := upd_same
  have nbl3 := s5.free nbl
  generalize upd H5 bl (.lst []) = H6 at *
  refine seq_mid (fun σ' H7 => ∃ o3 o4 o5 o6 o8 o9 o10 o12 o13 o14 o15 mbs xs, σ' = [some (.ref p), some (.int B), some (.ref wD), o3, o4, o5, o6, some (.ref qb), o8, o9, o10, some (.ref bl), o12, o13, o14, o15] ∧ Same H5 H7 ∧ H7 bl = some (.lst xs) ∧ DpAll K (hide H7 (bl :: wD :: ms)) xs (mbs.map MBlk.d) ∧ Paired (MadeOf B h g) bs mbs) (fun Kx yes => ?_) ?_
  · refine a_for ?_
    walk_at "rd"
    have s36 := s5.trans s56
    have up3 : ∀ {H' : Hp}, Same H5 H' → Same (hide H3 (wD :: ms)) (hide H' (bl :: wD :: ms)) := fun s => hide_swap (s5.trans s) fun z hz => (List.mem_cons.mp hz).elim (fun e => .inr (by rw [e]; exact nbl3)) .inl
    refine ⟨_, _, _, s36 _ _ (same_show _ _ f3), T.c_Code, T.n_Code_parts, _, rfl, pa, rfl, ⟨pxs, sqL_same ((Same.hide s36 _).trans same_show) hps3⟩, ?_⟩
    refine for_go2 (walk_list (xs := pxs)) (fun i σ Hx => ∃ o3 o4 o5 o6 o8 o9 o10 o12 o13 o14 o15 mbs xs, σ = [some (.ref p), some (.int B), some (.ref wD), o3, o4, o5, o6, some (.ref qb), o8, o9, o10, some (.ref bl), o12, o13, o14, o15] ∧ Same H5 Hx ∧ Hx bl = some (.lst xs) ∧ DpAll K (hide Hx (bl :: wD :: ms)) xs (mbs.map MBlk.d) ∧ Paired (MadeOf B h g) (bs.take i) mbs) ⟨_, _, _, _, _, _, _, _, _, _, _, [], [], rfl, s56, e6, .nil, .nil⟩ (fun i σ Hx _ q => by
      obtain ⟨_, _, _, _, _, _, _, _, _, _, _, _, _, _, q, _⟩ := q
      exact sqL_same ((up3 q).trans same_show) hps3) ?_ ?_
    · rintro Pw yes2 i x σ Hx Hx' hi ⟨o3, o4, o5, o6, o8, o9, o10, o12, o13, o14, o15, mbs, xs, rfl, sx, ex, hxs, hmb⟩ ⟨e1, ey⟩
      subst e1
      obtain ⟨d, ed, hd⟩ := DpAll.at hpa3 ey
      rw [List.getElem?_map] at ed
      cases eb : bs[i]? with
      | none => rw [eb] at ed; cases ed
      | some b =>
        rw [eb] at ed
        cases ed
        have hb := List.mem_of_getElem? eb
        have etk : bs.take (i + 1) = bs.take i ++ [b] := by rw [List.take_succ, eb]; rfl
        have s3x := s5.trans sx
        obtain ⟨pt, u1, u2, u3, rfl, ht3, q1, q2, q3⟩ := dp_t3 hd
        cases q1
        refine a_t3V (sqT_same ((up3 sx).trans same_show) ht3) ?_
        have wi := ways_ok (wok1 b hb)
        have tkx : Tk Hx' (bl :: wD :: ms) := Tk.cons ex (tk3.same s3x)
        refine seq_mid (fun σ' H8 => ∃ q6, σ' = [some (.ref p), some (.int B), some (.ref wD), some (.str b.label), some u2, some u3, o6, some (.ref qb), o8, o9, o10, some (.ref bl), some (.ref q6), o13, o14, o15] ∧ Same Hx' H8 ∧ IsWays K (hide H3 (wD :: ms)) (.ref q6) (waysOf B h g b)) (fun Kx2 yes3 => ?_) ?_
        · walk_at "rd"
          refine ⟨_, .inl ⟨_, Sum.inr b.label, .inl (sx _ _ eqb), rfl, (begAt_val (hfm b hb)).symm⟩, big _ (by decide), fun p6 np6 => ?_⟩
          have sp := same_new (o := HO.tup [V.str b.label, V.int (begAt g b.label : Nat)]) np6
          have s8 := s3x.trans sp
          obtain ⟨tv, etv, q6, kw6, rfl, ekw, hkw⟩ := hll (Same.refl H3) hb hgm
          exact ⟨.ref q6, .inr ⟨kvt, [Sum.inr b.label, Sum.inl (begAt g b.label : Int)], p6, .inl (s8 _ _ ew3), rfl, upd_same, etv.symm⟩, yes3 _ _ ⟨q6, rfl, sp, q6, kw6, rfl, ekw, hkw⟩⟩
        rintro σ' H8 ⟨q6, rfl, s8, q6', kw6, e66, ekw, hkw⟩
        cases e66
        have sx8 := sx.trans s8
        refine seq_mid (fun σ' H9 => ∃ w ∈ waysOf B h g b, (∀ v ∈ waysOf B h g b, endCost g b.fin w ≤ endCost g b.fin v) ∧ σ' = [some (.ref p), some (.int B), some (.ref wD), some (.str b.label), some u2, some u3, o6, some (.ref qb), o8, o9, o10, some (.ref bl), some (.ref q6), some (.int (w.f : Nat)), o14, o15] ∧ Same H8 H9) (fun Kx2 yes3 => ?_) ?_
        · walk_at "rd"
          refine ⟨wD :: ms, q6, u3, qb, g, b.fin, waysOf B h g b, kw6, rfl, tk3.same (s5.trans sx8), Same.hide (s5.trans sx8) _ _ _ ekw, KvD.mono (Same.hide (s5.trans sx8) _) hkw, wi.ne, wi.six, Dp.mono (Same.hide (s5.trans sx8) _) q3, sx8 _ _ eqb, hfl b hb, fun w hw hmin H9 v s9 hv => ?_⟩
          refine a_ixT hv atI_1 fun u hu => ?_
          cases hu
          exact yes3 _ _ ⟨w, hw, hmin, rfl, s9⟩
        rintro σ' H9 ⟨w, hw, hmin, rfl, s9⟩
        have sx9 := sx8.trans s9
        have tk9 := tkx.same (s8.trans s9)
        refine seq_mid (fun σ' H10 => ∃ D, σ' = [some (.ref p), some (.int B), some (.ref wD), some (.str b.label), some u2, some u3, o6, some (.ref qb), o8, o9, o10, some (.ref bl), some (.ref q6), some (.int (w.f : Nat)), some (.ref D), o15] ∧ Same H9 H10 ∧ Dp K (hide H10 (bl :: wD :: ms)) (.ref D) (.list ((b.fin.labels.map fun l => between w.f (begAt g l)).map tailD))) (fun Kx2 yes3 => ?_) ?_
        · walk_at "rd"
          obtain ⟨ea, es, rfl, hes, hea⟩ := dp_tuple (Dp.mono (up3 sx9) q3)
          cases hea with
          | cons hwd hel =>
          cases hwd
          cases DpAll.strs_inv hel
          refine a_lc ?_
          walk_at "rd"
          refine ⟨ea, _, rfl, sqT_same same_show hes, cut1_not, fun p4 np4 => ?_⟩
          rw [cut1]
          walk_at "rd"
          have sp4 := same_new (o := HO.tup (b.fin.labels.map V.str)) np4
          have e4 : upd H9 p4 (HO.tup (b.fin.labels.map V.str)) p4 = some (.tup (b.fin.labels.map V.str)) := upd_same
          have tk10 := tk9.same sp4
          have eq10 := sp4 _ _ (sx9 _ _ eqb)
          generalize upd H9 p4 (HO.tup (b.fin.labels.map V.str)) = Hz at *
          refine ⟨⟨_, SqT.of e4⟩, fun D nD => ?_⟩
          refine lc_data (K := K) (ms := bl :: wD :: ms) (ds := b.fin.labels.map PyData.str) walk_tup nD tk10 (by rw [List.length_map, sizeLine_eq]; have := fin_two b.fin; omega) (DpAll.strs _) (fun H' s => SqT.of (s _ _ e4)) (fun _ => true) (fun d => match d with
            | .str l => tailD (between w.f (begAt g l))
            | _ => .none) ?_ ?_
          · rintro y d H' hd s' hD hy
            obtain ⟨l, hl, rfl⟩ := List.mem_map.mp hd
            cases hy
            walk_at "rd"
            have lwf := wi.le w hw
            have lbg := begAt_limit hgm l
            have l5 := limitOf_le (h := h) (f := firstL bs) (l := l) b5
            have tkD : Tk H' (D :: bl :: wD :: ms) := fun m hm => (List.mem_cons.mp hm).elim (fun z => by rw [z]; exact hD) fun hm => (tk10.same s') m hm
            exact ⟨fun z => z.elim, fun _ => ⟨_, .inl ⟨_, Sum.inr l, .inl (s' _ _ eq10), rfl, (begAt_val (hfl b hb l hl)).symm⟩, D :: bl :: wD :: ms, w.f, begAt g l, rfl, tkD, by omega, by omega, fun H'' q s'' nq dq => ⟨s'', dq⟩⟩⟩
          · intro H' ys s' eD hys
            have eds : ((b.fin.labels.map PyData.str).filter fun _ => true).map (fun d => match d with
              | .str l => tailD (between w.f (begAt g l))
              | _ => PyData.none) = (b.fin.labels.map fun l => between w.f (begAt g l)).map tailD := by
              rw [List.filter_eq_self.mpr fun _ _ => rfl, List.map_map, List.map_map]
              rfl
            rw [eds] at hys
            exact yes3 _ _ ⟨D, rfl, sp4.trans s', .lst (.inl (.inl (by rw [hide_at (tk10.out nD)]; exact eD))) (DpAll.mono (hide_swap (Same.refl _) fun z hz => .inl (List.mem_cons_of_mem _ hz)) hys)⟩
        rintro σ' H10 ⟨D, rfl, s10, dtl⟩
        walk_at "rd"
        have sx10 := sx9.trans s10
        have s810 := s8.trans (s9.trans s10)
        have ex10 := s810 _ _ ex
        have tk11 := tk9.same s10
        have ekw10 := up3 sx10 _ _ ekw
        have hkw10 := KvD.mono (up3 sx10) hkw
        obtain ⟨uv, euv, huv⟩ := KvD.get hkw10 (look_way wi.nd hw)
        refine ⟨.inl ⟨rfl, _, SqL.of ex10⟩, _, .inl ⟨_, Sum.inr b.label, .inl (sx10 _ _ eqb), rfl, (begAt_val (hfm b hb)).symm⟩, uv, .inl ⟨kw6, Sum.inl (w.f : Nat), .inl (same_show _ _ ekw10), rfl, euv.symm⟩, ?_⟩
        refine a_ixTh huv atI_1 fun u hu => ⟨big _ (by decide), fun p7 np7 => ?_⟩
        obtain ⟨rs, high, f1, ers, _⟩ := way_goes (wok1 b hb) hw
        rw [ers, ms_d] at hu
        have s7 := same_new (o := HO.tup [V.str b.label, V.int (begAt g b.label : Nat), u, u3, V.ref D]) np7
        have np7b : p7 ≠ bl := fun z => by rw [z, ex10] at np7; cases np7
        have dm : Dp K (hide (upd H10 p7 (HO.tup [V.str b.label, V.int (begAt g b.label : Nat), u, u3, V.ref D])) (bl :: wD :: ms)) (.ref p7) (⟨b.label, begAt g b.label, rs, b.fin, b.fin.labels.map fun l => between w.f (begAt g l)⟩ : MBlk).d :=
          .tup (.inl (.inl (new_at tk11 np7))) (.cons (.str _) (.cons (.int _) (.cons (Dp.mono (Same.hide s7 _) hu) (.cons (Dp.mono (up3 (sx10.trans s7)) q3) (.cons (Dp.mono (Same.hide s7 _) dtl) .nil)))))
        have hxs7 := DpAll.mono (Same.hide (s810.trans s7) _) hxs
        have lxs : xs.length ≤ 6 := by
          rw [DpAll.length hxs, List.length_map, ← Paired.length hmb, List.length_take]
          omega
        refine ⟨bl, xs, _, rfl, rfl, s7 _ _ ex10, by rw [sizeLine_eq]; omega, yes2 _ _ _ ⟨_, _, _, _, _, _, _, _, _, _, _, mbs ++ [⟨b.label, begAt g b.label, rs, b.fin, b.fin.labels.map fun l => between w.f (begAt g l)⟩], _, rfl, ?_, upd_same, ?_, ?_⟩⟩
        · exact same_own (sx10.trans s7) (ms := [bl]) Sx.at fun z hz => by rw [List.mem_singleton.mp hz]; exact nbl
        · rw [hide_upd (List.mem_cons_self ..), List.map_append]
          exact DpAll.append hxs7 (.cons dm .nil)
        · rw [etk]
          exact Paired.snoc hmb ⟨w, hw, hmin, rs, ers, rfl⟩
    · rintro σ Hx ⟨o3, o4, o5, o6, o8, o9, o10, o12, o13, o14, o15, mbs, xs, rfl, sx, ex, hxs, hmb⟩
      rw [hpl, List.take_length] at hmb
      exact yes _ _ ⟨_, _, _, _, _, _, _, _, _, _, _, mbs, xs, rfl, sx, ex, hxs, hmb⟩
  rintro σ' H7 ⟨o3, o4, o5, o6, o8, o9, o10, o12, o13, o14, o15, mbs, xs, rfl, s7, e7, hxs, hmb⟩
  walk_at "rd"
  unfold tMakeK
  walk_at "rd"
  intro x dx1 nx ndx hne
  have s07 := s3.trans (s5.trans s7)
  have mg := mgood_of G b3 b5 hgm hmb
  refine ⟨wD :: ms, x, dx1, H7, .ref bl, mbs, B, rfl, ⟨rfl, nx, ndx, hne⟩, tk5.same s7, .lst (.inl (.inl (by rw [hide_at (tk5.out nbl)]; exact e7))) (DpAll.mono (hide_swap (Same.refl _) fun z hz => .inl (List.mem_cons_of_mem _ hz)) hxs), mg, b3, b5, fun H8 s8 im => ⟨rfl, q H8 x g mbs (s07.trans s8) (s07.free nx) (im.mono (hide_swap (Same.refl _) fun z hz => .inl (List.mem_cons_of_mem _ hz))) ⟨hgm, hgl, hmb⟩ mg⟩⟩
end
end Pb

/-! W10 -/
set_option Elab.async false
set_option linter.all false
set_option maxRecDepth 100000
set_option maxHeartbeats 4000000
namespace Pb
open PySem PySem.Spec PyProof.Rows L2
open C8 (Cal Mak Met pe_c pe_mk pe_mt pe_mt0 pe_gc fnScope_by)
/-! short words -/
local macro_rules | `(tactic| walk_at "rd") => `(tactic| try simp only [tVar, tC, tAdd, tSub, t2I, tIsN, tNotN, tB, tAnd, tOr, tNot, tAndV, tOrV, tNotV, tIf, tSeq, tPar, tPar3, tNext, tBreak, tCont, tDrop, tRet, tRetN, tIfS, gName, gNil, gCons, gTup, gSub, tAsg, tAug, ipI, iList, iTup, iRng1, iRng2, iStr, iEnum, iZip,
  tOp, tUn, rI, rI0, rU, tTest, tChain, tFld, sFld, sFldAug, L2.rAdd, L2.rSub, tNil, tCons, tTup, tLst, tCall, tMeth, tMake, tCB, tNoPart, tPart, tSl, tBM0, tBM, tDGet, tDGet1, tDGet2, tDIn, tDNotIn, sDPut, tDNewK, rEq, rNe, scal_ii, scal_ss, scal_bb, scal_nn, scal_ni, scal_in, scal_ns, scal_sn, scal_is, scal_si, List.take_succ_cons, List.take_zero, List.drop_succ_cons, List.drop_zero, upd_same, upd_upd, and_assoc, tKGet, gStar, tDisp, tPairs, tYes,
  L2.start, List.map_cons, List.map_nil, List.length_cons, List.length_nil, List.cons_append, List.nil_append, List.append_nil, List.replicate, Nat.sub_self, Nat.add_sub_cancel, Nat.reduceAdd, Nat.reduceSub, List.set_cons_zero, List.set_cons_succ, List.getElem?_cons_zero, List.getElem?_cons_succ,
  Option.some.injEq, V.int.injEq, V.bl.injEq, V.str.injEq, V.ref.injEq, exists_eq_left', exists_eq_left, exists_eq', exists_eq, true_and, and_true, if_true, if_false, Bool.false_eq_true, List.cons.injEq, Bool.not_true, Bool.not_false, cxK, cxP, cxW, ite_true, ite_false, wipe, reduceCtorEq, and_self, decide_true, decide_false, exists_and_left, exists_const, decide_eq_true_eq])
local macro_rules | `(tactic| walk_at "len") => `(tactic| (intro vs H Q E h; repeat (first | (obtain ⟨e, _⟩ := h; subst e; rfl) | (obtain ⟨_, h⟩ := h))))
local macro_rules | `(tactic| walk_at "wd") => `(tactic| simp (config := {decide := true}) only [V.str.injEq, scal_ss, true_and, if_true, if_false])

def IsAns (K : PySem.W.Frag) (H0 H' : Hp) (q : Addr) : Outcome → Prop
  | .ran told pile n => ∃ dx tl pl, H' q = some (.ins (He.ga K "Ran") dx (ranF tl pl n)) ∧ H0 tl = none ∧ H0 pl = none ∧ tl ≠ pl ∧ H' tl = some (.lst (told.map V.int)) ∧ H' pl = some (.lst (pile.map V.int))
  | .dry told l i => ∃ dx tl, H' q = some (.ins (He.ga K "Dry") dx (dryF tl l i)) ∧ H0 tl = none ∧ H' tl = some (.lst (told.map V.int))
  | .spent told => ∃ dx tl, H' q = some (.ins (He.ga K "Spent") dx (spentF tl)) ∧ H0 tl = none ∧ H' tl = some (.lst (told.map V.int))
def sp_run (K : PySem.W.Frag) : Sp := fun vs H Q _ => ∃ p wv bs h ns, ∃ most : Nat, vs = [.ref p, wv, .int most] ∧ IsCode K H p bs h ∧ Good bs h ∧ IntSeq K H wv ns ∧ ns.length < sizeLine ∧ Worths ns ∧ most ≤ 100000 ∧ ∀ H' q, Same H H' → H q = none → IsAns K H H' q (outcome bs ns most) → Q (.ref q) H'
/-- what stands while a run goes on -/
structure Going (K : PySem.W.Frag) (H0 H : Hp) (most : Nat) (tp dx wl tl pl : Addr) (s : RSt) : Prop where
  same : Same H0 H
  ntp : H0 tp = none
  nwl : H0 wl = none
  ntl : H0 tl = none
  npl : H0 pl = none
  atp : H tp = some (.ins (He.ga K "Tally") dx (tallyF wl tl most s.steps .non))
  awl : H wl = some (.lst (s.ws.map V.int))
  atl : H tl = some (.lst (s.told.map V.int))
  apl : H pl = some (.lst (s.pile.map V.int))
  wt : wl ≠ tl
  wp : wl ≠ pl
  tp' : tl ≠ pl
  le : s.steps ≤ most
  told : s.told.length ≤ s.steps
  pw : Worths s.pile
  ww : Worths s.ws
  deep : s.pile.length ≤ 1000
section
variable {K : PySem.W.Frag} {H0 H H' : Hp} {most : Nat} {tp dx wl tl pl pl' : Addr} {s s' : RSt}
theorem Going.next (g : Going K H0 H most tp dx wl tl pl s) (sx : Sx [tp, wl, tl, pl] H H') (n : H0 pl' = none) (a1 : H' tp = some (.ins (He.ga K "Tally") dx (tallyF wl tl most s'.steps .non))) (a2 : H' wl = some (.lst (s'.ws.map V.int))) (a3 : H' tl = some (.lst (s'.told.map V.int)))
    (a4 : H' pl' = some (.lst (s'.pile.map V.int))) (d1 : wl ≠ pl') (d2 : tl ≠ pl') (e1 : s'.steps ≤ most) (e2 : s'.told.length ≤ s'.steps) (e3 : Worths s'.pile) (e4 : Worths s'.ws) (e5 : s'.pile.length ≤ 1000) : Going K H0 H' most tp dx wl tl pl' s' where
  same := fun b o e => sx b o (fun z => by
    rcases List.mem_cons.mp z with z | z
    · rw [z, g.ntp] at e; cases e
    rcases List.mem_cons.mp z with z | z
    · rw [z, g.nwl] at e; cases e
    rcases List.mem_cons.mp z with z | z
    · rw [z, g.ntl] at e; cases e
    · rw [List.mem_singleton.mp z, g.npl] at e; cases e) (g.same b o e)
  ntp := g.ntp
  nwl := g.nwl
  ntl := g.ntl
  npl := n
  atp := a1
  awl := a2
  atl := a3
  apl := a4
  wt := g.wt
  wp := d1
  tp' := d2
  le := e1
  told := e2
  pw := e3
  ww := e4
  deep := e5
theorem Going.tw (g : Going K H0 H most tp dx wl tl pl s) : tp ≠ wl := ne_of g.atp g.awl (by intro z; cases z)
theorem Going.tt (g : Going K H0 H most tp dx wl tl pl s) : tp ≠ tl := ne_of g.atp g.atl (by intro z; cases z)
theorem Going.tq (g : Going K H0 H most tp dx wl tl pl s) : tp ≠ pl := ne_of g.atp g.apl (by intro z; cases z)
theorem Going.grow (g : Going K H0 H most tp dx wl tl pl s) (x : Same H H') : Going K H0 H' most tp dx wl tl pl s :=
  g.next (Sx.of x) g.npl (x _ _ g.atp) (x _ _ g.awl) (x _ _ g.atl) (x _ _ g.apl) g.wp g.tp' g.le g.told g.pw g.ww g.deep
/-- a step is counted -/
theorem Going.step (g : Going K H0 H most tp dx wl tl pl s) (h : s.steps ≠ most) : Going K H0 (upd H tp (.ins (He.ga K "Tally") dx (tallyF wl tl most ((s.steps : Int) + 1) .non))) most tp dx wl tl pl ⟨s.told, s.ws, s.pile, s.steps + 1⟩ :=
  g.next (Sx.upd (List.mem_cons_self ..)) g.npl upd_same ((upd_ne g.tw.symm).trans g.awl) ((upd_ne g.tt.symm).trans g.atl) ((upd_ne g.tq.symm).trans g.apl) g.wp g.tp' (by have := g.le; show s.steps + 1 ≤ most; omega) (by have := g.told; show s.told.length ≤ s.steps + 1; omega) g.pw g.ww g.deep
end
theorem Row.word_tell {r : Row} (h : r ≠ .tell) : ¬ V.str r.word = V.str (Str.ofString "tell") := by
  cases r <;> first
    | exact absurd rfl h
    | (simp only [Row.word]; decide +kernel)
theorem Row.word_hear {r : Row} (h : r ≠ .hear) : ¬ V.str r.word = V.str (Str.ofString "hear") := by
  cases r <;> first
    | exact absurd rfl h
    | (simp only [Row.word]; decide +kernel)
theorem Row.plain_of {r : Row} (h1 : r ≠ .tell) (h2 : r ≠ .hear) : r.plain = true := by
  cases r <;> first
    | rfl
    | exact absurd rfl h1
    | exact absurd rfl h2
theorem rowsRun_stop {most : Nat} {l : Str} {r : Row} {rs : List Row} {i : Nat} {s : RSt} (hs : s.steps = most) : rowsRun most l (r :: rs) i s = .inl (.spent s.told) := by
  cases r <;> simp [rowsRun, hs]
theorem rowsRun_tell {most : Nat} {l : Str} {rs : List Row} {i : Nat} {s : RSt} (hs : s.steps ≠ most) : rowsRun most l (.tell :: rs) i s = rowsRun most l rs (i + 1) ⟨s.told ++ [topN s.pile 0], s.ws, popped s.pile, s.steps + 1⟩ := by
  simp [rowsRun, hs]
theorem rowsRun_dry {most : Nat} {l : Str} {rs : List Row} {i : Nat} {s : RSt} (hs : s.steps ≠ most) (e : s.ws = []) : rowsRun most l (.hear :: rs) i s = .inl (.dry s.told l i) := by
  simp [rowsRun, hs, e]
theorem rowsRun_hear {most : Nat} {l : Str} {rs : List Row} {i : Nat} {s : RSt} {w : Int} {ws : List Int} (hs : s.steps ≠ most) (e : s.ws = w :: ws) : rowsRun most l (.hear :: rs) i s = rowsRun most l rs (i + 1) ⟨s.told, ws, s.pile ++ [w], s.steps + 1⟩ := by
  simp [rowsRun, hs, e]
theorem rowsRun_plain {most : Nat} {l : Str} {r : Row} {rs : List Row} {i : Nat} {s : RSt} (h1 : r ≠ .tell) (h2 : r ≠ .hear) (hs : s.steps ≠ most) : rowsRun most l (r :: rs) i s = rowsRun most l rs (i + 1) ⟨s.told, s.ws, doneOn s.pile r, s.steps + 1⟩ := by
  cases r <;> first
    | exact absurd rfl h1
    | exact absurd rfl h2
    | simp [rowsRun, hs]
def RunInv (K : PySem.W.Frag) (H : Hp) (bs : List Blk) (h : Str → Int) (ns : List Int) (most : Nat) (p : Addr) (wv : V) (tp dx wl tl : Addr) (m : Nat) (σ : L2.St) (H2 : Hp) : Prop := ∃ pl b s o6 o7 o8 o9 o10, σ = [some (.ref p), some wv, some (.int most), some (.ref tp), some (.ref pl), some (.str b.label), o6, o7, o8, o9, o10] ∧
  Going K H H2 most tp dx wl tl pl s ∧ runFrom bs most m b.label s = outcome bs ns most ∧ most < m + s.steps ∧ b ∈ bs ∧ (s.pile.length : Int) = h b.label
section
variable {P : Program} {w : World} {K : PySem.W.Frag} {mg : Str → Option Value} {base : Heap}
theorem ok_run (T : Tx w K mg) (F_check_run : Cal P w K mg base 4 "check_run" (sp_check_run K) []) (M_Tally : Mak P w K mg base 1 "Tally" (He.ga K "Tally") (sp_Tally___init__ K) []) (F_Code_first : Met P w K mg base 1 (He.ga K "Code") "first" (sp_Code_first K) []) (F_Tally_step : Met P w K mg base 1 (He.ga K "Tally") "step" (sp_Tally_step K) []) (F_Tally_tell : Met P w K mg base 1 (He.ga K "Tally") "tell" (sp_Tally_tell K) []) (F_Tally_hear : Met P w K mg base 1 (He.ga K "Tally") "hear" (sp_Tally_hear K) []) (F_done_on : Cal P w K mg base 3 "done_on" (sp_done_on K) []) (F_next_label : Cal P w K mg base 1 "next_label" (sp_next_label K) []) (M_Ran : Mak P w K mg base 1 "Ran" (He.ga K "Ran") (sp_Ran___init__ K) []) (M_Dry : Mak P w K mg base 1 "Dry" (He.ga K "Dry") (sp_Dry___init__ K) []) (M_Spent : Mak P w K mg base 1 "Spent" (He.ga K "Spent") (sp_Spent___init__ K) []) : KDef P w K mg base 5 "run" (sp_run K) ["code", "worths", "most"] s_run [("worths", .ref (kwdAt (He.ga K "run") "worths" K)), ("most", .int 500)] := by
  refine kdef_of T.D_run T.g_run sc_run (by walk_at "len") fun cdv A outer s H vs Q E hr h => ?_
  refine ⟨_, (pss_cons (ps_expr (pe_c F_check_run hr (by decide) (by rfl) (pa_cons (pv 1) (pa_cons (pv 2) pa_nil))))
    (pss_cons (ps_par3 (i := 3) (j := 4) (l := 5) rfl sc_run.nd rfl rfl rfl (by decide) (by decide) (by decide) rfl rfl rfl (pa_cons (pe_mk M_Tally hr (by decide) (by rfl) (pa_cons (pv 1) (pa_cons (pv 2) (pa_cons pe_non pa_nil)))) (pa_cons (pe_lst pa_nil) (pa_cons (pe_mt0 F_Code_first hr (by decide) (pv 0)) pa_nil))) rfl)
    (pss_one (ps_while PassesOwn.never (pt_val pe_bl) (pss_cons (ps_asg (pe_dget (hu_of hr) (pe_fldK (K := K) (pv 0) rfl) (pv 5) (fun _ _ => rfl)) (pg_tupK (K := K) (n := 2) rfl (pgs_cons (pg_name (i := 6) sc_run.nd rfl (by first | exact Or.inl rfl | exact Or.inr rfl)) (pgs_cons (pg_name (i := 7) sc_run.nd rfl (by first | exact Or.inl rfl | exact Or.inr rfl)) pgs_nil))))
    (pss_cons (ps_for PassesOwn.never rfl (pi_enum (by rfl) T.b_enumerate (pa_cons (pv 6) pa_nil)) (pg_tupK (K := K) (n := 2) rfl (pgs_cons (pg_name (i := 8) sc_run.nd rfl (by first | exact Or.inl rfl | exact Or.inr rfl)) (pgs_cons (pg_name (i := 9) sc_run.nd rfl (by first | exact Or.inl rfl | exact Or.inr rfl)) pgs_nil))) (pss_cons (ps_if (pt_not (pt_val (pe_mt0 F_Tally_step hr (by decide) (pv 3)))) (pss_one (ps_ret (pe_mk M_Spent hr (by decide) (by rfl) (pa_cons (pe_fldK (K := K) (pv 3) rfl) pa_nil)))) pss_nil)
    (pss_one (ps_if (pt_cmpR op_eq (pe_ix (r := rIx K) ix_seq (pv 9) pe_int (fun _ _ => rfl)) pe_str (nomark _)) (pss_one (ps_expr (pe_mt F_Tally_tell hr (by decide) (pv 3) (pa_cons (pe_bm0 PySem.F.plainAttrs_list PySem.F.slot_list_pop PySem.F.type_list_pop mt_pop (pv 4)) pa_nil)))) (pss_one (ps_if (pt_cmpR op_eq (pe_ix (r := rIx K) ix_seq (pv 9) pe_int (fun _ _ => rfl)) pe_str (nomark _)) (pss_cons (ps_set (i := 10) sc_run.nd rfl (by first | exact Or.inl rfl | exact Or.inr rfl) (pe_mt0 F_Tally_hear hr (by decide) (pv 3)))
    (pss_cons (ps_if (pt_cmpR op_isN (pv 10) pe_non (nomark _)) (pss_one (ps_ret (pe_mk M_Dry hr (by decide) (by rfl) (pa_cons (pe_fldK (K := K) (pv 3) rfl) (pa_cons (pv 5) (pa_cons (pv 8) pa_nil)))))) pss_nil)
    (pss_one (ps_expr (pe_bm PySem.F.plainAttrs_list PySem.F.slot_list_append PySem.F.type_list_append mt_append (pv 4) (pa_cons (pv 10) pa_nil)))))) (pss_one (ps_set (i := 4) sc_run.nd rfl (by first | exact Or.inl rfl | exact Or.inr rfl) (pe_c F_done_on hr (by decide) (by rfl) (pa_cons (pv 4) (pa_cons (pv 9) pa_nil)))))))))))
    (pss_cons (ps_if (pt_not (pt_val (pe_mt0 F_Tally_step hr (by decide) (pv 3)))) (pss_one (ps_ret (pe_mk M_Spent hr (by decide) (by rfl) (pa_cons (pe_fldK (K := K) (pv 3) rfl) pa_nil)))) pss_nil)
    (pss_cons (ps_if (pt_cmpR op_eq (pe_ix (r := rIx K) ix_seq (pv 7) pe_int (fun _ _ => rfl)) pe_str (nomark _)) (pss_one (ps_ret (pe_mk M_Ran hr (by decide) (by rfl) (pa_cons (pe_fldK (K := K) (pv 3) rfl) (pa_cons (pv 4) (pa_cons (pe_fldK (K := K) (pv 3) rfl) pa_nil)))))) pss_nil)
    (pss_one (ps_set (i := 5) sc_run.nd rfl (by first | exact Or.inl rfl | exact Or.inr rfl) (pe_c F_next_label hr (by decide) (by rfl) (pa_cons (pv 7) (pa_cons (pe_ifExp (pt_cmpR op_eq (pe_ix (r := rIx K) ix_seq (pv 7) pe_int (fun _ _ => rfl)) pe_str (nomark _)) (pe_bm0 PySem.F.plainAttrs_list PySem.F.slot_list_pop PySem.F.type_list_pop mt_pop (pv 4)) pe_non) pa_nil))))))))))))), ?_⟩
  obtain ⟨p, wv, bs, h, ns, most, rfl, c, G, hw, hz, hws, hm, k⟩ := h
  walk_at "rd"
  refine ⟨[], wv, ns, most, rfl, Tk.nil, by rw [hide_nil]; exact hw, hz, hws, by omega, by omega, fun H1 s1 => ?_⟩
  walk_at "rd"
  intro tp dx htp hdx hne
  refine ⟨tp, dx, H1, wv, ns, most, .non, rfl, ⟨rfl, htp, hdx, hne⟩, hw.mono s1, fun H2 wl tl s2 hwl htl nwt at2 aw2 al2 => ?_⟩
  walk_at "rd"
  refine ⟨by rw [sizeLine_eq]; omega, fun pl hpl => ?_⟩
  have s3 := s2.trans (same_new (o := HO.lst []) hpl)
  have c3 := c.mono (s1.trans s3)
  have at3 := keep_at (u := HO.lst []) at2 hpl
  have aw3 := keep_at (u := HO.lst []) aw2 hpl
  have al3 := keep_at (u := HO.lst []) al2 hpl
  have ap3 : upd H2 pl (HO.lst []) pl = some (.lst []) := upd_same
  generalize upd H2 pl (HO.lst []) = H3 at *
  obtain ⟨b0, tl0, rfl⟩ : ∃ b0 tl0, bs = b0 :: tl0 := by
    cases bs with
    | nil => exact absurd G.one (by simp)
    | cons b tl => exact ⟨b, tl, rfl⟩
  obtain ⟨cdx, pa, ta, ha, kvs, c1, c2, c4, c5, c6⟩ := id c3
  refine ⟨_, _, c1, rfl, [], p, b0, tl0, rfl, Tk.nil, by rw [hide_nil]; exact c3.parts, ?_⟩
  walk_at "rd"
  generalize hbs : b0 :: tl0 = bs at *
  have hb0 : b0 ∈ bs := by rw [← hbs]; exact List.mem_cons_self ..
  have s03 := s1.trans s3
  have g0 : Going K H H3 most tp dx wl tl pl ⟨[], ns, [], 0⟩ := ⟨s03, s1.free htp, s1.free hwl, s1.free htl, (s1.trans s2).free hpl, at3, aw3, al3, ap3, nwt, ne_of_none aw2 hpl, ne_of_none al2 hpl, Nat.zero_le _, Nat.zero_le _, (fun n hn => nomatch hn), hws, Nat.zero_le _⟩
  refine ⟨RunInv K H bs h ns most p wv tp dx wl tl, ⟨most + 1, pl, b0, ⟨[], ns, [], 0⟩, _, _, _, _, _, rfl, g0, by rw [← hbs]; rfl, by show most < most + 1 + 0; omega, hb0, ?_⟩, ?_⟩
  · show ((0 : Nat) : Int) = _
    rw [G.zero b0 (by rw [← hbs]; rfl)]
    rfl
  obtain ⟨cdx, pa, ta, ha, kvs, c1, c2, c4, c5, c6⟩ := c
  have spent : ∀ (H2 : Hp) (s : RSt) (pl : Addr), Going K H H2 most tp dx wl tl pl s → outcome bs ns most = .spent s.told → ∀ x dx1, H2 x = none → H2 dx1 = none → dx1 ≠ x → sp_Spent___init__ K [.ref x, .ref tl] (upd (upd H2 dx1 (.own x)) x (.ins (He.ga K "Spent") dx1 [])) (fun v H3 => v = .non ∧ Q (.ref x) H3) C8.E0 := by
    intro H2 s pl g e x dx1 hx hd hne
    refine ⟨x, dx1, H2, .ref tl, s.told, rfl, ⟨rfl, hx, hd, hne⟩, ⟨tl, rfl, .inl (SqL.of g.atl)⟩, fun H3 t3 s3 ht3 hx3 hl3 => ⟨rfl, k _ _ (g.same.trans s3) (g.same.free hx) ?_⟩⟩
    rw [e]
    exact ⟨dx1, t3, hx3, g.same.free ht3, hl3⟩
  clear g0 hpl s3 at3 aw3 al3 ap3 s03 c3
  rintro m σ H4 ⟨pl, b, s, o6, o7, o8, o9, o10, rfl, g, eO, hlt, hb, hlen⟩
  obtain ⟨f, rfl⟩ : ∃ f, m = f + 1 := ⟨m - 1, by have := g.le; omega⟩
  rw [runFrom, blkAt_of G.nodup hb] at eO
  walk_at "rd"
  refine ⟨_, fun σ' H' q => q, ?_⟩
  obtain ⟨tv, htv, hdv⟩ := KvD.get c5 (look_table G.nodup hb)
  have q := DGet.k (k := Sum.inr b.label) (g.same _ _ c4)
  rw [htv] at q
  refine ⟨_, _, _, g.same _ _ c1, T.c_Code, T.n_Code_table, _, rfl, ta, rfl, tv, q, ?_⟩
  obtain ⟨tp2, ur, ue, rfl, hts, hur, hue⟩ := dp_t2 hdv
  refine a_t2V (sqT_same g.same hts) ?_
  walk_at "rd"
  obtain ⟨ra, rs, rfl, hrs, hra⟩ := dp_list hur
  have hlr := DpAll.length hra
  rw [List.length_map] at hlr
  refine a_for ?_
  walk_at "rd"
  refine ⟨_, sqL_same g.same hrs, ?_⟩
  refine for_go2 (walk_enum (xs := rs)) (fun i σ H5 => ∃ pl s' o8 o9 o10, σ = [some (.ref p), some wv, some (.int most), some (.ref tp), some (.ref pl), some (.str b.label), some (.ref ra), some ue, o8, o9, o10] ∧ Going K H H5 most tp dx wl tl pl s' ∧
    behind most b.fin (fun l s => runFrom bs most f l s) (rowsRun most b.label (b.rows.drop i) i s') = outcome bs ns most ∧ most < f + 1 + s'.steps ∧ (s'.pile.length : Int) = after (h b.label) (b.words.take i))
    ⟨pl, s, _, _, _, rfl, g, eO, hlt, by rw [hlen, List.take_zero, after_nil]⟩ (fun i σ H5 _ q => by
      obtain ⟨_, _, _, _, _, _, q, _⟩ := q
      exact sqL_same q.same hrs) ?_ ?_
  · rintro Pw yes i y σ H5 H6 hi ⟨pl, s', o8, o9, o10, rfl, g, eO, hlt, hlen⟩ yy
    obtain ⟨p3, y1, y2, rfl, hp3, rfl, ey1, ey2⟩ := yy
    cases ey1
    obtain ⟨d, ed, hdd⟩ := DpAll.at hra ey2
    rw [List.getElem?_map] at ed
    cases er : b.rows[i]? with
    | none => rw [er] at ed; cases ed
    | some r =>
      rw [er] at ed
      cases ed
      have hil : i < b.rows.length := by omega
      have ew : b.words[i]? = some r.word := by
        unfold Blk.words
        rw [List.getElem?_append_left (by rw [List.length_map]; exact hil), List.getElem?_map, er]
        rfl
      have hok := wok_at (G.rows b hb) ew
      rw [Row.touch_eq, Row.more_eq, ← hlen] at hok
      have nx : after (h b.label) (b.words.take (i + 1)) = s'.pile.length + r.more := by
        rw [List.take_succ, ew, hlen, ← Row.more_eq]
        exact after_snoc
      have hdrop : b.rows.drop i = r :: b.rows.drop (i + 1) := by
        rw [List.drop_eq_getElem_cons hil]
        rw [List.getElem?_eq_getElem hil] at er
        rw [Option.some.inj er]
      rw [hdrop] at eO
      refine a_t2V (.inl (.inl upd_same)) ?_
      have sg := same_new (o := HO.tup [V.int (i : Nat), y2]) hp3
      replace g := g.grow sg
      clear sg
      generalize upd H5 p3 (HO.tup [V.int (i : Nat), y2]) = H6 at *
      walk_at "rd"
      refine ⟨_, _, g.atp, rfl, tp, dx, wl, tl, most, s'.steps, .non, rfl, g.atp, ?_⟩
      by_cases hs : s'.steps = most
      · rw [if_pos (congrArg _ hs)]
        walk_at "rd"
        rw [rowsRun_stop hs] at eO
        refine ⟨_, _, _, g.atp, T.c_Tally, T.n_Tally_told_so_far, _, rfl, fun x dx1 hx hd hne => ?_⟩
        exact spent _ s' pl g eO.symm x dx1 hx hd hne
      · rw [if_neg fun z => hs (by omega)]
        walk_at "rd"
        have g1 := g.step hs
        generalize upd H6 tp (HO.ins (He.ga K "Tally") dx (tallyF wl tl most ((s'.steps : Int) + 1) .non)) = H7 at *
        refine a_ixT (Dp.mono g1.same hdd) atI_0 fun u hu => ?_
        cases hu
        refine ⟨rfl, ?_⟩
        by_cases ht : r = .tell
        · subst ht
          rw [if_pos (show V.str Row.tell.word = V.str (Str.ofString "tell") from rfl)]
          rw [rowsRun_tell hs] at eO
          have h1 : 1 ≤ s'.pile.length := by have := hok.1; simp only [Row.touch] at this; omega
          walk_at "rd"
          refine ⟨_, _, g1.atp, rfl, .inl ⟨rfl, _, SqL.of g1.apl⟩, pl, _, _, rfl, rfl, g1.apl, last_top h1, ?_⟩
          rw [popped_drop]
          refine ⟨tp, dx, wl, tl, most, _, s'.told, _, rfl, (upd_ne g1.tq).trans g1.atp, (upd_ne g1.tp').trans g1.atl, by have := g1.told; have := g1.le; rw [sizeLine_eq]; simp only at *; omega, ?_⟩
          refine yes _ _ _ ⟨pl, ⟨s'.told ++ [topN s'.pile 0], s'.ws, popped s'.pile, s'.steps + 1⟩, _, _, _, rfl, g1.next ((Sx.upd (by simp)).trans (Sx.upd (by simp))) g1.npl ((upd_ne g1.tt).trans ((upd_ne g1.tq).trans g1.atp)) ((upd_ne g1.wt).trans ((upd_ne g1.wp).trans g1.awl)) upd_same
            ((upd_ne g1.tp'.symm).trans upd_same) g1.wp g1.tp' g1.le ?_ (popped_worths g.pw) g.ww ?_, eO, by show most < f + 1 + (s'.steps + 1); omega, ?_⟩
          · show (s'.told ++ [topN s'.pile 0]).length ≤ s'.steps + 1
            rw [List.length_append, List.length_singleton]
            have := g.told
            omega
          · show (popped s'.pile).length ≤ 1000
            have := popped_len h1
            have := g.deep
            omega
          · rw [nx]
            exact popped_len h1
        · rw [if_neg (Row.word_tell ht)]
          refine a_ixT (Dp.mono g1.same hdd) atI_0 fun u hu => ?_
          cases hu
          refine ⟨rfl, ?_⟩
          by_cases hh : r = .hear
          · subst hh
            rw [if_pos (show V.str Row.hear.word = V.str (Str.ofString "hear") from rfl)]
            walk_at "rd"
            refine ⟨_, _, g1.atp, rfl, tp, dx, wl, tl, most, _, .non, s'.ws, rfl, g1.atp, g1.awl, ?_⟩
            cases ews : s'.ws with
            | nil =>
              intro H8 s8
              rw [if_pos rfl]
              refine ⟨_, _, _, s8 _ _ g1.atp, T.c_Tally, T.n_Tally_told_so_far, _, rfl, fun x dx1 hx hd hne => ?_⟩
              refine ⟨x, dx1, H8, .ref tl, s'.told, b.label, i, rfl, ⟨rfl, hx, hd, hne⟩, ⟨tl, rfl, .inl (SqL.of (s8 _ _ g1.atl))⟩, fun H9 t9 s9 ht9 hx9 hl9 => ⟨rfl, k _ _ ((g1.same.trans s8).trans s9) ((g1.same.trans s8).free hx) ?_⟩⟩
              rw [← eO, rowsRun_dry hs ews]
              exact ⟨dx1, t9, hx9, (g1.same.trans s8).free ht9, hl9⟩
            | cons wn ws =>
              intro H8 s8
              rw [if_neg (by intro z; cases z)]
              rw [rowsRun_hear hs ews] at eO
              have hww : Worths (wn :: ws) := by rw [← ews]; exact g.ww
              have ap : upd H8 wl (.lst (ws.map V.int)) pl = some (.lst (s'.pile.map V.int)) := (upd_ne g1.wp.symm).trans (s8 _ _ g1.apl)
              refine ⟨.inl ⟨rfl, _, SqL.of ap⟩, pl, _, _, rfl, rfl, ap, by have := g.deep; rw [List.length_map, sizeLine_eq]; omega, ?_⟩
              have em : s'.pile.map V.int ++ [V.int wn] = (s'.pile ++ [wn]).map V.int := by rw [List.map_append]; rfl
              rw [em]
              have hlen2 : ((s'.pile ++ [wn]).length : Int) = s'.pile.length + Row.hear.more := by rw [List.length_append]; rfl
              refine yes _ _ _ ⟨pl, ⟨s'.told, ws, s'.pile ++ [wn], s'.steps + 1⟩, _, _, _, rfl, g1.next (((Sx.of s8).trans (Sx.upd (by simp))).trans (Sx.upd (by simp))) g1.npl ((upd_ne g1.tq).trans ((upd_ne g1.tw).trans (s8 _ _ g1.atp)))
                ((upd_ne g1.wp).trans upd_same) ((upd_ne g1.tp').trans ((upd_ne g1.wt.symm).trans (s8 _ _ g1.atl))) upd_same g1.wp g1.tp' g1.le g1.told (g.pw.append (.one (hww _ (List.mem_cons_self ..)))) (fun n hn => hww n (List.mem_cons_of_mem _ hn)) ?_, eO, by show most < f + 1 + (s'.steps + 1); omega, ?_⟩
              · show (s'.pile ++ [wn]).length ≤ 1000
                have := hok.2
                omega
              · rw [nx]
                exact hlen2
          · rw [if_neg (Row.word_hear hh)]
            walk_at "rd"
            rw [rowsRun_plain ht hh hs] at eO
            have hpl := Row.plain_of ht hh
            have hto : r.touch ≤ s'.pile.length := by have := hok.1; omega
            have hlen2 := doneOn_len hto hpl
            refine ⟨[], pl, s'.pile, y2, r, rfl, g1.apl, Tk.nil, by rw [hide_nil]; exact Dp.mono g1.same hdd, hpl, hto, g.deep, g.pw.small, fun H8 q s8 hq hq8 => ?_⟩
            refine yes _ _ _ ⟨q, ⟨s'.told, s'.ws, doneOn s'.pile r, s'.steps + 1⟩, _, _, _, rfl, g1.next (Sx.of s8) (g1.same.free hq) (s8 _ _ g1.atp) (s8 _ _ g1.awl) (s8 _ _ g1.atl) hq8 (ne_of_none g1.awl hq) (ne_of_none g1.atl hq) g1.le g1.told
              (doneOn_worths g.pw hto (G.puts b hb r (List.mem_of_getElem? er))) g.ww ?_, eO, by show most < f + 1 + (s'.steps + 1); omega, ?_⟩
            · show (doneOn s'.pile r).length ≤ 1000
              have := hok.2
              omega
            · rw [nx]
              exact hlen2
  · rintro σ H5 ⟨pl, s', o8, o9, o10, rfl, g, eO, hlt, hlen⟩
    rw [hlr] at eO hlen
    rw [List.drop_length] at eO
    rw [rowsRun] at eO
    have eO2 : finRun most b.fin (fun l s => runFrom bs most f l s) s' = outcome bs ns most := eO
    have ew : b.words[b.rows.length]? = some b.fin.word := by
      unfold Blk.words
      rw [List.getElem?_append_right (by rw [List.length_map]; omega), List.length_map, Nat.sub_self]
      rfl
    have hok := wok_at (G.rows b hb) ew
    rw [Fin.touch_eq, Fin.more_eq, ← hlen] at hok
    have hout : out h b = s'.pile.length + b.fin.more := by
      unfold out
      rw [hlen, ← Fin.more_eq]
      have e : b.words = b.words.take b.rows.length ++ [b.fin.word] := by
        have hl : b.words.length = b.rows.length + 1 := by unfold Blk.words; simp
        have q := List.take_succ (l := b.words) (i := b.rows.length)
        rw [ew, List.take_of_length_le (by omega)] at q
        exact q
      have e2 : after (h b.label) b.words = after (h b.label) (b.words.take b.rows.length ++ [b.fin.word]) := by rw [← e]
      rw [e2]
      exact after_snoc
    walk_at "rd"
    refine ⟨_, _, g.atp, rfl, tp, dx, wl, tl, most, s'.steps, .non, rfl, g.atp, ?_⟩
    by_cases hs : s'.steps = most
    · rw [if_pos (congrArg _ hs)]
      walk_at "rd"
      refine ⟨_, _, _, g.atp, T.c_Tally, T.n_Tally_told_so_far, _, rfl, fun x dx1 hx hd hne => ?_⟩
      refine spent _ s' pl g ?_ x dx1 hx hd hne
      rw [← eO2]
      unfold finRun
      rw [if_pos hs]
    · rw [if_neg fun z => hs (by omega)]
      walk_at "rd"
      unfold finRun at eO2
      rw [if_neg hs] at eO2
      have g1 := g.step hs
      generalize upd H5 tp (HO.ins (He.ga K "Tally") dx (tallyF wl tl most ((s'.steps : Int) + 1) .non)) = H7 at *
      have hue7 : Dp K H7 ue b.fin.d := Dp.mono g1.same hue
      refine a_ixT hue7 atI_0 fun u hu => ?_
      cases hu
      refine ⟨rfl, ?_⟩
      have ends := G.ends b hb
      cases ef : b.fin with
      | stop =>
        rw [ef] at eO2 hue7
        rw [if_pos (show V.str Fin.stop.word = V.str (Str.ofString "stop") from rfl)]
        refine ⟨_, _, _, g1.atp, T.c_Tally, T.n_Tally_told_so_far, _, rfl, _, _, _, g1.atp, T.c_Tally, T.n_Tally_steps_done, _, rfl, fun x dx1 hx hd hne => ?_⟩
        refine ⟨x, dx1, H7, .ref tl, .ref pl, s'.told, s'.pile, _, rfl, ⟨rfl, hx, hd, hne⟩, ⟨tl, rfl, .inl (SqL.of g1.atl)⟩, ⟨pl, rfl, .inl (SqL.of g1.apl)⟩, fun H8 t8 p8 s8 ht8 hp8 ntp8 hx8 ht8' hp8' => ⟨rfl, k _ _ (g1.same.trans s8) (g1.same.free hx) ?_⟩⟩
        rw [← eO2]
        exact ⟨dx1, t8, p8, hx8, g1.same.free ht8, g1.same.free hp8, ntp8, ht8', hp8'⟩
      | go l =>
        rw [ef] at eO2 hue7 ends hout hok
        rw [if_neg (show ¬ V.str (Fin.go l).word = V.str (Str.ofString "stop") by simp only [Fin.word]; decide +kernel)]
        refine a_ixT hue7 atI_0 fun u hu => ?_
        cases hu
        refine ⟨rfl, ?_⟩
        rw [if_neg (show ¬ V.str (Fin.go l).word = V.str (Str.ofString "if") by simp only [Fin.word]; decide +kernel)]
        refine ⟨[], ue, .go l, .non, rfl, Tk.nil, by rw [hide_nil]; exact hue7, ?_⟩
        have hl := ends l (List.mem_singleton.mpr rfl)
        obtain ⟨b2, hb2, rfl⟩ := get_label hl.1
        refine ⟨f, by omega, pl, b2, _, _, _, _, _, _, rfl, g1, eO2, by show most < f + (s'.steps + 1); omega, hb2, ?_⟩
        rw [hl.2, hout]
        show (s'.pile.length : Int) = s'.pile.length + 0
        omega
      | iff l1 l2 =>
        rw [ef] at eO2 hue7 ends hout hok
        rw [if_neg (show ¬ V.str (Fin.iff l1 l2).word = V.str (Str.ofString "stop") by simp only [Fin.word]; decide +kernel)]
        refine a_ixT hue7 atI_0 fun u hu => ?_
        cases hu
        refine ⟨rfl, ?_⟩
        rw [if_pos (show V.str (Fin.iff l1 l2).word = V.str (Str.ofString "if") from rfl)]
        have h1 : 1 ≤ s'.pile.length := by have := hok.1; simp only [Fin.touch] at this; omega
        refine ⟨.inl ⟨rfl, _, SqL.of g1.apl⟩, pl, _, _, rfl, rfl, g1.apl, last_top h1, ?_⟩
        rw [popped_drop]
        have g2 : Going K H (upd H7 pl (.lst ((popped s'.pile).map V.int))) most tp dx wl tl pl ⟨s'.told, s'.ws, popped s'.pile, s'.steps + 1⟩ :=
          g1.next (Sx.upd (by simp)) g1.npl ((upd_ne g1.tq).trans g1.atp) ((upd_ne g1.wp).trans g1.awl) ((upd_ne g1.tp').trans g1.atl) upd_same g1.wp g1.tp' g1.le g1.told (popped_worths g.pw) g.ww (by
            show (popped s'.pile).length ≤ 1000
            have := popped_len h1
            have := g.deep
            omega)
        refine ⟨[], ue, .iff l1 l2, .int (topN s'.pile 0), rfl, Tk.nil, by rw [hide_nil]; exact Dp.mono g2.same hue |> (ef ▸ ·), topN s'.pile 0, rfl, ?_⟩
        have hl : (if topN s'.pile 0 ≠ 0 then l1 else l2) ∈ [l1, l2] := by
          split
          · exact List.mem_cons_self ..
          · exact List.mem_cons_of_mem _ (List.mem_singleton.mpr rfl)
        change runFrom bs most f (if topN s'.pile 0 ≠ 0 then l1 else l2) ⟨s'.told, s'.ws, popped s'.pile, s'.steps + 1⟩ = outcome bs ns most at eO2
        generalize (if topN s'.pile 0 ≠ 0 then l1 else l2) = l at *
        have hl := ends l hl
        obtain ⟨b2, hb2, rfl⟩ := get_label hl.1
        refine ⟨f, by omega, pl, b2, _, _, _, _, _, _, rfl, g2, eO2, by show most < f + (s'.steps + 1); omega, hb2, ?_⟩
        rw [hl.2, hout]
        exact popped_len h1
end
end Pb

/-! W17 -/
set_option Elab.async false
set_option linter.all false
set_option maxRecDepth 100000
set_option maxHeartbeats 4000000
namespace Pb
open PySem PySem.Spec PyProof.Rows L2
open C8 (Cal Mak Met pe_c pe_mk pe_mt pe_mt0 pe_gc fnScope_by)
/-! short words -/
local macro_rules | `(tactic| walk_at "rd") => `(tactic| try simp only [tVar, tC, tAdd, tSub, t2I, tIsN, tNotN, tB, tAnd, tOr, tNot, tAndV, tOrV, tNotV, tIf, tSeq, tPar, tPar3, tNext, tBreak, tCont, tDrop, tRet, tRetN, tIfS, gName, gNil, gCons, gTup, gSub, tAsg, tAug, ipI, iList, iTup, iRng1, iRng2, iStr, iEnum, iZip,
  tOp, tUn, rI, rI0, rU, tTest, tChain, tFld, sFld, sFldAug, L2.rAdd, L2.rSub, tNil, tCons, tTup, tLst, tCall, tMeth, tMake, tCB, tNoPart, tPart, tSl, tBM0, tBM, tDGet, tDGet1, tDGet2, tDIn, tDNotIn, sDPut, tDNewK, rEq, rNe, scal_ii, scal_ss, scal_bb, scal_nn, scal_ni, scal_in, scal_ns, scal_sn, scal_is, scal_si, List.take_succ_cons, List.take_zero, List.drop_succ_cons, List.drop_zero, upd_same, upd_upd, and_assoc, tKGet, gStar, tDisp, tPairs, tYes,
  L2.start, List.map_cons, List.map_nil, List.length_cons, List.length_nil, List.cons_append, List.nil_append, List.append_nil, List.replicate, Nat.sub_self, Nat.add_sub_cancel, Nat.reduceAdd, Nat.reduceSub, List.set_cons_zero, List.set_cons_succ, List.getElem?_cons_zero, List.getElem?_cons_succ,
  Option.some.injEq, V.int.injEq, V.bl.injEq, V.str.injEq, V.ref.injEq, exists_eq_left', exists_eq_left, exists_eq', exists_eq, true_and, and_true, if_true, if_false, Bool.false_eq_true, List.cons.injEq, Bool.not_true, Bool.not_false, cxK, cxP, cxW, ite_true, ite_false, wipe, reduceCtorEq, and_self, decide_true, decide_false, exists_and_left, exists_const, decide_eq_true_eq])
local macro_rules | `(tactic| walk_at "len") => `(tactic| (intro vs H Q E h; repeat (first | (obtain ⟨e, _⟩ := h; subst e; rfl) | (obtain ⟨_, h⟩ := h))))
local macro_rules | `(tactic| walk_at "wd") => `(tactic| simp (config := {decide := true}) only [V.str.injEq, scal_ss, true_and, if_true, if_false])

/-! boxes and a cellar -/
def storeF (bf ce : Addr) : List (Str × V) := [("boxes_full", .ref bf), ("cellar", .ref ce)]
def IsStore (K : PySem.W.Frag) (H : Hp) (st sdx bf ce : Addr) (box cel : List Int) : Prop := H st = some (.ins (He.ga K "Store") sdx (storeF bf ce)) ∧ H bf = some (.lst (box.map V.int)) ∧ H ce = some (.lst (cel.map V.int)) ∧ bf ≠ ce
def sp_Store___init__ (K : PySem.W.Frag) : Sp := fun vs H Q _ => ∃ st sdx H0, vs = [.ref st] ∧ NewAt H0 H (He.ga K "Store") st sdx ∧ ∀ H' bf ce, Same H0 H' → H0 bf = none → H0 ce = none → st ≠ bf → st ≠ ce → IsStore K H' st sdx bf ce [] [] → Q .non H'
def moved (m : Mv) (box cel : List Int) : List Int × List Int := match m with
  | .fill => (topN cel 0 :: box, popped cel)
  | .spill => (box.drop 1, cel ++ box.take 1)
def sp_Store_move (K : PySem.W.Frag) : Sp := fun vs H Q _ => ∃ ms st sdx bf ce v m box cel, vs = [.ref st, v] ∧ Tk H ms ∧ Dp K (hide H ms) v (Mv.d m) ∧ IsStore K H st sdx bf ce box cel ∧ (m = .fill → 1 ≤ cel.length) ∧ (m = .spill → 1 ≤ box.length) ∧ box.length ≤ 1000 ∧ cel.length ≤ 1000 ∧
  ∀ H' bf', Sx [st, ce] H H' → H bf' = none → IsStore K H' st sdx bf' ce (moved m box cel).1 (moved m box cel).2 → Q .non H'
theorem moved_pile {m : Mv} {box cel : List Int} (h1 : m = .fill → 1 ≤ cel.length) (h2 : m = .spill → 1 ≤ box.length) : (moved m box cel).2 ++ (moved m box cel).1 = cel ++ box := by
  cases m with
  | fill =>
    have h := h1 rfl
    show popped cel ++ topN cel 0 :: box = cel ++ box
    have e : popped cel ++ [topN cel 0] = cel := by
      unfold popped topN
      have hl : cel.length - 1 < cel.length := by omega
      rw [List.getD_eq_getElem?_getD, Nat.sub_zero, List.getElem?_eq_getElem hl, Option.getD_some]
      have q := List.take_append_drop (cel.length - 1) cel
      rw [List.drop_eq_getElem_cons hl, List.drop_of_length_le (by omega)] at q
      exact q
    rw [show popped cel ++ topN cel 0 :: box = popped cel ++ [topN cel 0] ++ box by simp, e]
  | spill =>
    show cel ++ box.take 1 ++ box.drop 1 = cel ++ box
    rw [List.append_assoc, List.take_append_drop]
theorem moved_len {m : Mv} {box cel : List Int} (h2 : m = .spill → 1 ≤ box.length) : (moved m box cel).1.length = match m with
    | .fill => box.length + 1
    | .spill => box.length - 1 := by
  cases m with
  | fill => rfl
  | spill =>
    show (box.drop 1).length = _
    rw [List.length_drop]
section
variable {P : Program} {w : World} {K : PySem.W.Frag} {mg : Str → Option Value} {base : Heap}
theorem ok_Store_init (T : Tx w K mg) : Mak P w K mg base 1 "Store" (He.ga K "Store") (sp_Store___init__ K) [] := by
  refine mak_of T.mk_Store T.g_Store T.D_Store___init__ sc_Store___init__ (fun _ _ _ _ _ _ us hl => match us, hl with | [_], _ => rfl) (by walk_at "len") fun cdv A outer s H vs Q E hr h => ?_
  refine ⟨_, (pss_cons (ps_fld (pv 0) (pe_lst pa_nil) rfl)
    (pss_one (ps_fld (pv 0) (pe_lst pa_nil) rfl))), ?_⟩
  obtain ⟨st, sdx, H0, rfl, new, q⟩ := h
  walk_at "rd"
  have hst := new.at
  refine ⟨by decide, fun bf nbf => ?_⟩
  have e1 := keep_at (u := HO.lst []) hst nbf
  have bs : bf ≠ st := fun z => by rw [z, hst] at nbf; cases nbf
  refine ⟨_, _, _, e1, T.c_Store, T.n_Store_boxes_full, by decide, by decide, fun ce nce => ?_⟩
  have cs : ce ≠ st := fun z => by rw [z, upd_same] at nce; cases nce
  have cb : ce ≠ bf := fun z => by rw [z, upd_ne bs, upd_same] at nce; cases nce
  have nce0 : H ce = none := by rw [upd_ne cs, upd_ne cb] at nce; exact nce
  refine ⟨_, _, _, keep_at upd_same nce, T.c_Store, T.n_Store_cellar, by show 1 < 1000; decide, ?_⟩
  have np0 := new.2.1
  refine q _ bf ce ?_ (new.same.free nbf) (new.same.free nce0) bs.symm cs.symm ⟨upd_same, ?_, ?_, cb.symm⟩
  · intro b o e
    have e2 := new.same _ _ e
    have n1 : b ≠ st := fun z => by rw [z, np0] at e; cases e
    have n2 : b ≠ ce := fun z => by rw [z, nce0] at e2; cases e2
    have n3 : b ≠ bf := fun z => by rw [z, nbf] at e2; cases e2
    rw [upd_ne n1, upd_ne n2, upd_ne n1, upd_ne n3]
    exact e2
  · rw [upd_ne bs, upd_ne cb.symm, upd_ne bs, upd_same]
    rfl
  · rw [upd_ne cs, upd_same]
    rfl
theorem ok_Store_move (T : Tx w K mg) : Met P w K mg base 1 (He.ga K "Store") "move" (sp_Store_move K) [] := by
  refine met_of T.c_Store T.me_Store_move T.D_Store_move sc_Store_move (fun _ _ _ _ _ _ us hl => match us, hl with | [_, _], _ => rfl) (by walk_at "len") fun cdv A outer s H vs Q E hr h => ?_
  refine ⟨_, (pss_one (ps_if (pt_cmpR op_eq (pe_ix (r := rIx K) ix_seq (pv 1) pe_int (fun _ _ => rfl)) pe_str (nomark _)) (pss_one (ps_fld (pv 0) (pe_op (r := rCatS K) op_catS (pe_lst (pa_cons (pe_bm0 PySem.F.plainAttrs_list PySem.F.slot_list_pop PySem.F.type_list_pop mt_pop (pe_fldK (K := K) (pv 0) rfl)) pa_nil)) (pe_fldK (K := K) (pv 0) rfl)) rfl)) (pss_cons (ps_asg (pe_fldK (K := K) (pv 0) rfl) (pg_starK (K := K) (i := 1) rfl (pgs_cons (pg_name (i := 2) sc_Store_move.nd rfl (by first | exact Or.inl rfl | exact Or.inr rfl)) (pgs_star (pg_name (i := 3) sc_Store_move.nd rfl (by first | exact Or.inl rfl | exact Or.inr rfl)) pgs_nil))))
    (pss_cons (ps_expr (pe_bm PySem.F.plainAttrs_list PySem.F.slot_list_append PySem.F.type_list_append mt_append (pe_fldK (K := K) (pv 0) rfl) (pa_cons (pv 2) pa_nil)))
    (pss_one (ps_fld (pv 0) (pv 3) rfl)))))), ?_⟩
  obtain ⟨ms, st, sdx, bf, ce, v, m, box, cel, rfl, tk, dv, ⟨a1, a2, a3, nbc⟩, h1, h2, lb, lc, q⟩ := h
  walk_at "rd"
  refine a_ixTh dv atI_0 fun u hu => ?_
  have sb : st ≠ bf := ne_of a1 a2 (by intro z; cases z)
  have sc : st ≠ ce := ne_of a1 a3 (by intro z; cases z)
  cases m with
  | fill =>
    cases hu
    have hc := h1 rfl
    refine ⟨rfl, ?_⟩
    rw [if_pos (show V.str Mv.fill.word = V.str (Str.ofString "fill") from rfl)]
    refine ⟨_, _, _, a1, T.c_Store, T.n_Store_cellar, _, rfl, .inl ⟨rfl, _, SqL.of a3⟩, ce, _, _, rfl, rfl, a3, last_top hc, by decide, fun p np => ?_⟩
    have npc : p ≠ ce := fun z => by rw [z, upd_same] at np; cases np
    have np0 : H p = none := by rw [upd_ne npc] at np; exact np
    have nps : p ≠ st := fun z => by rw [z, a1] at np0; cases np0
    have npb : p ≠ bf := fun z => by rw [z, a2] at np0; cases np0
    have b1 : upd (upd H ce (.lst ((cel.map V.int).dropLast))) p (.lst [.int (topN cel 0)]) st = some (.ins (He.ga K "Store") sdx (storeF bf ce)) := by rw [upd_ne nps.symm, upd_ne sc]; exact a1
    have b2 : upd (upd H ce (.lst ((cel.map V.int).dropLast))) p (.lst [.int (topN cel 0)]) bf = some (.lst (box.map V.int)) := by rw [upd_ne npb.symm, upd_ne nbc]; exact a2
    refine ⟨_, _, _, b1, T.c_Store, T.n_Store_boxes_full, _, rfl, p, bf, _, _, rfl, rfl, SqL.of upd_same, SqL.of b2, by rw [List.length_map, sizeLine_eq]; show 1 + _ ≤ _; omega, fun r nr => ?_⟩
    have nrp : r ≠ p := fun z => by rw [z, upd_same] at nr; cases nr
    have nr1 : upd H ce (.lst ((cel.map V.int).dropLast)) r = none := by rw [upd_ne nrp] at nr; exact nr
    have nrc : r ≠ ce := fun z => by rw [z, upd_same] at nr1; cases nr1
    have nr0 : H r = none := by rw [upd_ne nrc] at nr1; exact nr1
    have nrs : r ≠ st := fun z => by rw [z, a1] at nr0; cases nr0
    refine ⟨_, _, _, (upd_ne nrs.symm).trans b1, T.c_Store, T.n_Store_boxes_full, by show 2 < 1000; decide, q _ r (fun b o n e => ?_) nr0 ⟨upd_same, ?_, ?_, nrc⟩⟩
    · have m1 : b ≠ st := fun z => n (by rw [z]; exact List.mem_cons_self ..)
      have m2 : b ≠ ce := fun z => n (by rw [z]; simp)
      rw [upd_ne m1, upd_ne (fun z => by rw [z, nr0] at e; cases e), upd_ne (fun z => by rw [z, np0] at e; cases e), upd_ne m2]
      exact e
    · rw [upd_ne nrs, upd_same]
      rfl
    · rw [upd_ne sc.symm, upd_ne nrc.symm, upd_ne npc.symm, upd_same, popped_drop]
      rfl
  | spill =>
    cases hu
    have hb := h2 rfl
    refine ⟨by decide +kernel, ?_⟩
    rw [if_neg (show ¬ V.str Mv.spill.word = V.str (Str.ofString "fill") by decide +kernel)]
    refine ⟨_, _, _, a1, T.c_Store, T.n_Store_boxes_full, _, rfl, bf, rfl, _, .inr (SqL.of a2), by rw [List.length_map]; exact hb, by rw [List.length_map]; omega, fun D nD => ?_⟩
    cases box with
    | nil => exact absurd hb (by simp)
    | cons x box =>
    have nDs : D ≠ st := fun z => by rw [z, a1] at nD; cases nD
    have nDc : D ≠ ce := fun z => by rw [z, a3] at nD; cases nD
    refine ⟨_, _, rfl, _, _, rfl, rfl, _, _, _, (upd_ne nDs.symm).trans a1, T.c_Store, T.n_Store_cellar, _, rfl, .inl ⟨rfl, _, SqL.of ((upd_ne nDc.symm).trans a3)⟩, ce, _, _, rfl, rfl, (upd_ne nDc.symm).trans a3, by rw [List.length_map, sizeLine_eq]; omega, ?_⟩
    refine ⟨_, _, _, (upd_ne sc).trans ((upd_ne nDs.symm).trans a1), T.c_Store, T.n_Store_boxes_full, by show 2 < 1000; decide, q _ D (fun b o n e => ?_) nD ⟨upd_same, ?_, ?_, nDc⟩⟩
    · have m1 : b ≠ st := fun z => n (by rw [z]; exact List.mem_cons_self ..)
      have m2 : b ≠ ce := fun z => n (by rw [z]; simp)
      rw [upd_ne m1, upd_ne m2, upd_ne (fun z => by rw [z, nD] at e; cases e)]
      exact e
    · rw [upd_ne nDs, upd_ne nDc, upd_same]
      rfl
    · rw [upd_ne sc.symm, upd_same]
      show some (HO.lst (cel.map V.int ++ [V.int x])) = some (HO.lst ((cel ++ [x]).map V.int))
      rw [List.map_append]
      rfl
end
end Pb

/-! W18a -/
set_option Elab.async false
set_option linter.all false
set_option maxRecDepth 100000
set_option maxHeartbeats 4000000
namespace Pb
open PySem PySem.Spec PyProof.Rows L2
open C8 (Cal Mak Met pe_c pe_mk pe_mt pe_mt0 pe_gc fnScope_by)
/-! short words -/
local macro_rules | `(tactic| walk_at "rd") => `(tactic| try simp only [tVar, tC, tAdd, tSub, t2I, tIsN, tNotN, tB, tAnd, tOr, tNot, tAndV, tOrV, tNotV, tIf, tSeq, tPar, tPar3, tNext, tBreak, tCont, tDrop, tRet, tRetN, tIfS, gName, gNil, gCons, gTup, gSub, tAsg, tAug, ipI, iList, iTup, iRng1, iRng2, iStr, iEnum, iZip,
  tOp, tUn, rI, rI0, rU, tTest, tChain, tFld, sFld, sFldAug, L2.rAdd, L2.rSub, tNil, tCons, tTup, tLst, tCall, tMeth, tMake, tCB, tNoPart, tPart, tSl, tBM0, tBM, tDGet, tDGet1, tDGet2, tDIn, tDNotIn, sDPut, tDNewK, rEq, rNe, scal_ii, scal_ss, scal_bb, scal_nn, scal_ni, scal_in, scal_ns, scal_sn, scal_is, scal_si, List.take_succ_cons, List.take_zero, List.drop_succ_cons, List.drop_zero, upd_same, upd_upd, and_assoc, tKGet, gStar, tDisp, tPairs, tYes,
  L2.start, List.map_cons, List.map_nil, List.length_cons, List.length_nil, List.cons_append, List.nil_append, List.append_nil, List.replicate, Nat.sub_self, Nat.add_sub_cancel, Nat.reduceAdd, Nat.reduceSub, List.set_cons_zero, List.set_cons_succ, List.getElem?_cons_zero, List.getElem?_cons_succ,
  Option.some.injEq, V.int.injEq, V.bl.injEq, V.str.injEq, V.ref.injEq, exists_eq_left', exists_eq_left, exists_eq', exists_eq, true_and, and_true, if_true, if_false, Bool.false_eq_true, List.cons.injEq, Bool.not_true, Bool.not_false, cxK, cxP, cxW, ite_true, ite_false, wipe, reduceCtorEq, and_self, decide_true, decide_false, exists_and_left, exists_const, decide_eq_true_eq])
local macro_rules | `(tactic| walk_at "len") => `(tactic| (intro vs H Q E h; repeat (first | (obtain ⟨e, _⟩ := h; subst e; rfl) | (obtain ⟨_, h⟩ := h))))
local macro_rules | `(tactic| walk_at "wd") => `(tactic| simp (config := {decide := true}) only [V.str.injEq, scal_ss, true_and, if_true, if_false])

/-! made code that fits, and its run -/
theorem topN_box {cel box : List Int} {i : Nat} (h : i < box.length) : topN (cel ++ box) i = topN box i := by
  unfold topN
  rw [List.length_append, List.getD_eq_getElem?_getD, List.getD_eq_getElem?_getD, List.getElem?_append_right (by omega)]
  congr 2
  omega
theorem take_box {cel box : List Int} {k : Nat} (h : k ≤ box.length) : (cel ++ box).take ((cel ++ box).length - k) = cel ++ box.take (box.length - k) := by
  have e : (cel ++ box).length - k = cel.length + (box.length - k) := by rw [List.length_append]; omega
  rw [e]
  first
    | exact List.take_length_add_append _
    | exact List.take_length_add_append
    | exact List.take_append _
    | (rw [List.take_append, List.take_of_length_le (by omega), Nat.add_sub_cancel_left])
theorem popped_box {cel box : List Int} (h : 1 ≤ box.length) : popped (cel ++ box) = cel ++ popped box := take_box h
theorem two_box {cel box : List Int} {f : Int → Int → Int} (h : 2 ≤ box.length) : two (cel ++ box) f = cel ++ two box f := by
  unfold two
  rw [take_box h, topN_box (by omega), topN_box (by omega), List.append_assoc]
theorem doneOn_box {cel box : List Int} {r : Row} (ht : r.touch ≤ box.length) : doneOn (cel ++ box) r = cel ++ doneOn box r := by
  cases r <;> simp only [Row.touch] at ht <;> simp only [doneOn]
  case put n => rw [List.append_assoc]
  case same => rw [topN_box (by omega), List.append_assoc]
  case over => rw [topN_box (by omega), List.append_assoc]
  case swap => rw [take_box ht, topN_box (by omega), topN_box (by omega), List.append_assoc]
  case drop => exact take_box ht
  case plus => exact two_box ht
  case less => exact two_box ht
  case times => exact two_box ht
  case under => exact two_box ht
structure Fit1 (B : Nat) (h : Str → Int) (beg : Str → Nat) (b : Blk) (m : MBlk) : Prop where
  label : m.label = b.label
  begs : m.beg = beg b.label
  fin : m.fin = b.fin
  tails : m.tails.length = b.fin.labels.length
  run : ∃ f1 : Nat, ∃ h1 : Int, Goes B m.beg (h b.label) m.rows b.rows f1 h1 ∧ b.fin.touch ≤ f1 ∧ (f1 : Int) + b.fin.more ≤ B ∧
    ∀ (i : Nat) (l : Str) (t : List Mv), b.fin.labels[i]? = some l → m.tails[i]? = some t → Goes B ((f1 : Int) + b.fin.more).toNat (h l) (t.map MRow.m) [] (beg l) (h l)
structure FitsM (B : Nat) (h : Str → Int) (bs : List Blk) (mbs : List MBlk) (beg : Str → Nat) : Prop where
  first : beg (firstL bs) = 0
  all : Paired (Fit1 B h beg) bs mbs
structure GoingM (K : PySem.W.Frag) (H0 H : Hp) (most : Nat) (tp dx wl tl st sdx ce bf : Addr) (s : RSt) (cel box : List Int) : Prop where
  same : Same H0 H
  ntp : H0 tp = none
  nwl : H0 wl = none
  ntl : H0 tl = none
  nst : H0 st = none
  nce : H0 ce = none
  nbf : H0 bf = none
  atp : H tp = some (.ins (He.ga K "Tally") dx (tallyF wl tl most s.steps .non))
  awl : H wl = some (.lst (s.ws.map V.int))
  atl : H tl = some (.lst (s.told.map V.int))
  ast : H st = some (.ins (He.ga K "Store") sdx (storeF bf ce))
  abf : H bf = some (.lst (box.map V.int))
  ace : H ce = some (.lst (cel.map V.int))
  ts : tp ≠ st
  wt : wl ≠ tl
  wc : wl ≠ ce
  wb : wl ≠ bf
  tc : tl ≠ ce
  tb : tl ≠ bf
  bc : bf ≠ ce
  le : s.steps ≤ most
  told : s.told.length ≤ s.steps
  pw : Worths s.pile
  ww : Worths s.ws
  deep : s.pile.length ≤ 1000
  pile : s.pile = cel ++ box
section
variable {K : PySem.W.Frag} {H0 H H' : Hp} {most : Nat} {tp dx wl tl st sdx ce bf bf' : Addr} {s s' : RSt} {cel box cel' box' : List Int}
theorem GoingM.next (g : GoingM K H0 H most tp dx wl tl st sdx ce bf s cel box) (sx : Sx [tp, wl, tl, st, ce, bf] H H') (n : H0 bf' = none) (a1 : H' tp = some (.ins (He.ga K "Tally") dx (tallyF wl tl most s'.steps .non))) (a2 : H' wl = some (.lst (s'.ws.map V.int))) (a3 : H' tl = some (.lst (s'.told.map V.int)))
    (a4 : IsStore K H' st sdx bf' ce box' cel') (d1 : wl ≠ bf') (d2 : tl ≠ bf') (e1 : s'.steps ≤ most) (e2 : s'.told.length ≤ s'.steps) (e3 : Worths s'.pile) (e4 : Worths s'.ws) (e5 : s'.pile.length ≤ 1000) (e6 : s'.pile = cel' ++ box') : GoingM K H0 H' most tp dx wl tl st sdx ce bf' s' cel' box' where
  same := fun b o e => sx b o (fun z => by
    rcases List.mem_cons.mp z with z | z
    · rw [z, g.ntp] at e; cases e
    rcases List.mem_cons.mp z with z | z
    · rw [z, g.nwl] at e; cases e
    rcases List.mem_cons.mp z with z | z
    · rw [z, g.ntl] at e; cases e
    rcases List.mem_cons.mp z with z | z
    · rw [z, g.nst] at e; cases e
    rcases List.mem_cons.mp z with z | z
    · rw [z, g.nce] at e; cases e
    · rw [List.mem_singleton.mp z, g.nbf] at e; cases e) (g.same b o e)
  ntp := g.ntp
  nwl := g.nwl
  ntl := g.ntl
  nst := g.nst
  nce := g.nce
  nbf := n
  atp := a1
  awl := a2
  atl := a3
  ast := a4.1
  abf := a4.2.1
  ace := a4.2.2.1
  ts := g.ts
  wt := g.wt
  wc := g.wc
  wb := d1
  tc := g.tc
  tb := d2
  bc := a4.2.2.2
  le := e1
  told := e2
  pw := e3
  ww := e4
  deep := e5
  pile := e6
variable (g : GoingM K H0 H most tp dx wl tl st sdx ce bf s cel box)
include g
theorem GoingM.store : IsStore K H st sdx bf ce box cel := ⟨g.ast, g.abf, g.ace, g.bc⟩
theorem GoingM.tw : tp ≠ wl := ne_of g.atp g.awl (by intro z; cases z)
theorem GoingM.tt : tp ≠ tl := ne_of g.atp g.atl (by intro z; cases z)
theorem GoingM.tq : tp ≠ bf := ne_of g.atp g.abf (by intro z; cases z)
theorem GoingM.tce : tp ≠ ce := ne_of g.atp g.ace (by intro z; cases z)
theorem GoingM.sw : st ≠ wl := ne_of g.ast g.awl (by intro z; cases z)
theorem GoingM.st' : st ≠ tl := ne_of g.ast g.atl (by intro z; cases z)
theorem GoingM.sb : st ≠ bf := ne_of g.ast g.abf (by intro z; cases z)
theorem GoingM.sc : st ≠ ce := ne_of g.ast g.ace (by intro z; cases z)
theorem GoingM.grow (x : Same H H') : GoingM K H0 H' most tp dx wl tl st sdx ce bf s cel box :=
  g.next (Sx.of x) g.nbf (x _ _ g.atp) (x _ _ g.awl) (x _ _ g.atl) ⟨x _ _ g.ast, x _ _ g.abf, x _ _ g.ace, g.bc⟩ g.wb g.tb g.le g.told g.pw g.ww g.deep g.pile
theorem GoingM.step (h : s.steps ≠ most) : GoingM K H0 (upd H tp (.ins (He.ga K "Tally") dx (tallyF wl tl most ((s.steps : Int) + 1) .non))) most tp dx wl tl st sdx ce bf ⟨s.told, s.ws, s.pile, s.steps + 1⟩ cel box :=
  g.next (Sx.upd (List.mem_cons_self ..)) g.nbf upd_same ((upd_ne g.tw.symm).trans g.awl) ((upd_ne g.tt.symm).trans g.atl) ⟨(upd_ne g.ts.symm).trans g.ast, (upd_ne g.tq.symm).trans g.abf, (upd_ne g.tce.symm).trans g.ace, g.bc⟩ g.wb g.tb (by have := g.le; show s.steps + 1 ≤ most; omega) (by have := g.told; show s.told.length ≤ s.steps + 1; omega) g.pw g.ww g.deep g.pile
/-- a fill or a spill -/
theorem GoingM.move {m : Mv} (h1 : m = .fill → 1 ≤ cel.length) (h2 : m = .spill → 1 ≤ box.length) (sx : Sx [st, ce] H H') (nb : H bf' = none) (a : IsStore K H' st sdx bf' ce (moved m box cel).1 (moved m box cel).2) : GoingM K H0 H' most tp dx wl tl st sdx ce bf' s (moved m box cel).2 (moved m box cel).1 := by
  have o : ∀ {b : Addr} {o : HO}, b ≠ st → b ≠ ce → H b = some o → H' b = some o := fun {b o} n1 n2 e => sx b o (fun z => (List.mem_cons.mp z).elim n1 fun z => n2 (List.mem_singleton.mp z)) e
  refine g.next (fun b o n e => sx b o (fun z => n ?_) e) (g.same.free nb) (o g.ts g.tce g.atp) (o g.sw.symm g.wc g.awl) (o g.st'.symm g.tc g.atl) a (ne_of_none g.awl nb) (ne_of_none g.atl nb) g.le g.told g.pw g.ww g.deep ?_
  · rcases List.mem_cons.mp z with z | z
    · rw [z]; simp
    · rw [List.mem_singleton.mp z]; simp
  · rw [moved_pile h1 h2]
    exact g.pile
end
theorem Goes.inv {B f f' : Nat} {h h' : Int} {m : MRow} {rs : List MRow} {ls : List Row} (g : Goes B f h (m :: rs) ls f' h') : match (generalizing := false) m with
    | .m .fill => f + 1 ≤ B ∧ (f : Int) + 1 ≤ h ∧ Goes B (f + 1) h rs ls f' h'
    | .m .spill => 1 ≤ f ∧ Goes B (f - 1) h rs ls f' h'
    | .r r => ∃ ls', ls = r :: ls' ∧ r.touch ≤ f ∧ (f : Int) + r.more ≤ B ∧ Goes B ((f : Int) + r.more).toNat (h + r.more) rs ls' f' h' := by
  cases g with
  | fill a b c => exact ⟨a, b, c⟩
  | spill c => exact ⟨by omega, c⟩
  | row a b c => exact ⟨_, rfl, a, b, c⟩
theorem Goes.none {B f f' : Nat} {h h' : Int} {ls : List Row} (g : Goes B f h [] ls f' h') : ls = [] ∧ f = f' ∧ h = h' := by
  cases g
  exact ⟨rfl, rfl, rfl⟩
def sp_run_heard (K : PySem.W.Frag) : Sp := fun vs H Q _ => ∃ p tp dx wl tl bs h mbs beg ns H0, ∃ B most : Nat, vs = [.ref p, .ref tp] ∧ Same H0 H ∧ H0 tp = none ∧ H0 wl = none ∧ H0 tl = none ∧ wl ≠ tl ∧ H tp = some (.ins (He.ga K "Tally") dx (tallyF wl tl most 0 .non)) ∧ H wl = some (.lst (ns.map V.int)) ∧ H tl = some (.lst []) ∧
  IsMade K H0 p mbs B ∧ MGood mbs ∧ Good bs h ∧ FitsM B h bs mbs beg ∧ Worths ns ∧ most ≤ 100000 ∧ ∀ H' q, Same H0 H' → H0 q = none → IsAns K H0 H' q (outcome bs ns most) → Q (.ref q) H'
def sp_run_made (K : PySem.W.Frag) : Sp := fun vs H Q _ => ∃ p wv bs h mbs beg ns, ∃ B most : Nat, vs = [.ref p, wv, .int most] ∧ IsMade K H p mbs B ∧ MGood mbs ∧ Good bs h ∧ FitsM B h bs mbs beg ∧ IntSeq K H wv ns ∧ ns.length < sizeLine ∧ Worths ns ∧ most ≤ 100000 ∧ ∀ H' q, Same H H' → H q = none → IsAns K H H' q (outcome bs ns most) → Q (.ref q) H'
def RunM (K : PySem.W.Frag) (H : Hp) (bs : List Blk) (h : Str → Int) (mbs : List MBlk) (beg : Str → Nat) (ns : List Int) (most : Nat) (p tp dx wl tl st sdx ce : Addr) (m : Nat) (σ : L2.St) (H2 : Hp) : Prop := ∃ bf cel box b s, ∃ i : Nat, ∃ o4 o5 o6 o7 o8 o9 o10 o11 o12 o13, σ = [some (.ref p), some (.ref tp), some (.ref st), some (.int i), o4, o5, o6, o7, o8, o9, o10, o11, o12, o13] ∧
  GoingM K H H2 most tp dx wl tl st sdx ce bf s cel box ∧ runFrom bs most m b.label s = outcome bs ns most ∧ most < m + s.steps ∧ bs[i]? = some b ∧ (s.pile.length : Int) = h b.label ∧ box.length = beg b.label
end Pb

/-! PbTi -/
set_option Elab.async false
set_option linter.all false
set_option maxRecDepth 100000
set_option maxHeartbeats 4000000
/-! Pb: a method of a part of a tuple -/
namespace Pb
open PySem PySem.Spec PyProof.Rows L2
def Tight (v : Value) (s : Shared) : Prop := s.TypeIs v "tuple" ∧ ∀ a, v = .ref a → ∃ ob, s.heap.get? a = some ob ∧ ob.dict = none
section
variable {X : Cx} {o e e1 : Expr} {es : List Expr} {te : TE} {t : TA} {name : Str} {apos cpos pos p2 : Pos} {id : String} {r : V → List V → Hp → VK → Prop} {lo hi : Option Expr} {tl th : TO}
theorem sl_tight : ∀ (pins : List (Addr × Obj)) (s : Shared) (σ : L2.St) (H : Hp) (x : V) (v vl vu : Value) (lo hi : Option Int) (sl : Addr) (Q : VK), Inv X pins σ H s → RelV x v → s.heap.IsSliceOf sl vl vu .none → IsPart vl lo → IsPart vu hi → rSlT X.K x lo hi H Q →
    ∃ T id, typeLookup (.type T) "__getitem__" = pure (some (.builtin id)) ∧ s.TypeIs v T ∧ wpAny (model X.prog X.w) X.A (getItem v (.ref sl)) (fun u s' => EP X pins σ Q u s' ∧ Tight u s') X.xe s := by
  intro pins s σ H x v vl vu lo hi sl Q I rx hs pl pu h
  obtain ⟨a, xs, rfl, hx, hw, q⟩ := h
  cases rx
  obtain ⟨its, r, ht, hz⟩ := I.tuple hx
  have hlen : its.toArray.size = xs.length := by rw [List.size_toArray]; exact r.length.symm
  refine ⟨"tuple", _, PyProof.Rows.slot_tuple_getitem.lookup, ht.typeIs, ?_⟩
  refine HT.getItem_tuple_cut ht hs pl pu (by rw [hlen]; exact hw) ?_ (by rw [hlen]; exact hz)
  rw [hlen]
  have nt := IsTup.new s.heap ((its.drop (HT.sIx xs.length 0 lo)).take (HT.sIx xs.length xs.length hi - HT.sIx xs.length 0 lo)).toArray
  refine ⟨⟨.ref s.heap.objs.size, _, I.laid (t' := s.toks) (o := .tup (cutV xs lo hi)) (fun b ob q => Heap.get?_push_of_some _ q) (Nat.le_refl _) ?_, rfl, q _ (I.hok.fresh (Nat.le_refl _))⟩, ?_, ?_⟩
  · exact ⟨Nat.le_trans (cutV_length xs lo hi) hz, _, (r.drop (HT.sIx xs.length 0 lo)).take (HT.sIx xs.length xs.length hi - HT.sIx xs.length 0 lo), IsTup.new _ _⟩
  · exact nt.typeIs
  · intro b e
    cases e
    exact ⟨_, Heap.get?_push_size _ rfl, rfl⟩
theorem pe_bmSl (pa : PlainAttrs "tuple") (slot : Slot "tuple" name id) (hty : typeOf (.builtin id) = pure (.type "method_descriptor")) (hm : MtR X id r) (he : PE X e te) (hl : PO X lo tl) (hu : PO X hi th) (ha : PA X (e1 :: es) t)
    (hbase : attributeBase (.Subscript e (.Slice lo hi none p2) pos) name X.env (eval (.Subscript e (.Slice lo hi none p2) pos) X.env) = eval (.Subscript e (.Slice lo hi none p2) pos) X.env := by rfl)
    (hfew : ((backTo cpos (starEach (e1 :: es) X.env)).all (fun x => !x.1) && (backToKw cpos (keywordEach [] X.env)).all (fun x => x.1.isSome)
      && decide ((e1 :: es).length + ([] : List Keyword).length + (if ([] : List Keyword).isEmpty then 0 else 1) < 30)) = true := by rfl)
    (hline : (apos.endLine == cpos.line) = true := by rfl) (hs : starEach (e1 :: es) X.env = (false, eval e1 X.env) :: starEach es X.env := by rfl) (hplain : (backTo cpos (starEach es X.env)).any (·.1) = false := by rfl) :
    PE X (.Call (.Attribute (.Subscript e (.Slice lo hi none p2) pos) name apos) (e1 :: es) [] cpos) (fun σ H Q => tSl (rSlT X.K) te tl th σ H fun x H1 => t σ H1 fun xs H2 => r x xs H2 Q) := by
  refine ⟨fun pins s σ H Q I h => ?_⟩
  have strong : wpAny (model X.prog X.w) X.A (eval (.Subscript e (.Slice lo hi none p2) pos) X.env) (fun u s' => EP X pins σ (fun x H1 => t σ H1 fun xs H2 => r x xs H2 Q) u s' ∧ Tight u s') X.xe s := by
    refine Subscript_ (thn (he.run pins s σ H _ I h) fun v s1 ⟨x, H1, I1, r1, q1⟩ => ?_)
    refine wpAny_Slice (thn (hl.run pins s1 σ H1 _ I1 q1) fun vl s2 ⟨l, H2, I2, pl, q2⟩ => thn (hu.run pins s2 σ H2 _ I2 q2) fun vu s3 ⟨u, H3, I3, pu, q3⟩ => ?_)
    rw [evalPart_none]
    refine wpAny_pure ?_
    have I4 : Inv X pins σ H3 { s3 with heap := s3.heap.push { cls := .type "slice", data := .fields #[vl, vu, .none] } } := I3.kept (t' := s3.toks) fun b ob q => Heap.get?_push_of_some _ q
    obtain ⟨T, id, hT, ht, hg⟩ := sl_tight pins { s3 with heap := s3.heap.push { cls := .type "slice", data := .fields #[vl, vu, .none] } } σ H3 x v vl vu l u s3.heap.objs.size _ I4 r1 (Heap.IsSliceOf.new ..) pl pu q3
    show wpAny (model X.prog X.w) X.A (subscriptTail e (.Slice lo hi none p2) v (.ref s3.heap.objs.size)) _ X.xe { s3 with heap := s3.heap.push { cls := .type "slice", data := .fields #[vl, vu, .none] } }
    exact tail_any (ops := [.ref s3.heap.objs.size, v]) ht hT hg (by with_unfolding_all rfl)
  refine wpAny_Call_method_late hbase hfew hline rfl (thn strong fun v s1 ⟨⟨x, H1, I1, r1, q1⟩, h1, h2⟩ => ?_)
  refine ⟨"tuple", id, pa, slot, hty, h1, h2, ?_⟩
  have hA := ha.run cpos pins s1 σ H1 _ I1 q1
  rw [hs] at hA ⊢
  refine Calls.callWith_builtin (by show (false || (backTo cpos (starEach es X.env)).any (·.1)) = false; rw [hplain] <;> rfl) (Calls.evalArgs_plain ?_)
  exact thn hA fun us s2 ⟨vs, H2, I2, r2, q2⟩ => hm pins s2 σ H2 x vs v us Q I2 r1 r2 q2
end
end Pb

/-! W19a -/
set_option Elab.async false
set_option linter.all false
set_option maxRecDepth 100000
set_option maxHeartbeats 4000000
namespace Pb
open PySem PySem.Spec PyProof.Rows L2
open C8 (Cal Mak Met pe_c pe_mk pe_mt pe_mt0 pe_gc fnScope_by)
/-! short words -/
local macro_rules | `(tactic| walk_at "rd") => `(tactic| try simp only [tVar, tC, tAdd, tSub, t2I, tIsN, tNotN, tB, tAnd, tOr, tNot, tAndV, tOrV, tNotV, tIf, tSeq, tPar, tPar3, tNext, tBreak, tCont, tDrop, tRet, tRetN, tIfS, gName, gNil, gCons, gTup, gSub, tAsg, tAug, ipI, iList, iTup, iRng1, iRng2, iStr, iEnum, iZip,
  tOp, tUn, rI, rI0, rU, tTest, tChain, tFld, sFld, sFldAug, L2.rAdd, L2.rSub, tNil, tCons, tTup, tLst, tCall, tMeth, tMake, tCB, tNoPart, tPart, tSl, tBM0, tBM, tDGet, tDGet1, tDGet2, tDIn, tDNotIn, sDPut, tDNewK, rEq, rNe, scal_ii, scal_ss, scal_bb, scal_nn, scal_ni, scal_in, scal_ns, scal_sn, scal_is, scal_si, List.take_succ_cons, List.take_zero, List.drop_succ_cons, List.drop_zero, upd_same, upd_upd, and_assoc, tKGet, gStar, tDisp, tPairs, tYes,
  L2.start, List.map_cons, List.map_nil, List.length_cons, List.length_nil, List.cons_append, List.nil_append, List.append_nil, List.replicate, Nat.sub_self, Nat.add_sub_cancel, Nat.reduceAdd, Nat.reduceSub, List.set_cons_zero, List.set_cons_succ, List.getElem?_cons_zero, List.getElem?_cons_succ,
  Option.some.injEq, V.int.injEq, V.bl.injEq, V.str.injEq, V.ref.injEq, exists_eq_left', exists_eq_left, exists_eq', exists_eq, true_and, and_true, if_true, if_false, Bool.false_eq_true, List.cons.injEq, Bool.not_true, Bool.not_false, cxK, cxP, cxW, ite_true, ite_false, wipe, reduceCtorEq, and_self, decide_true, decide_false, exists_and_left, exists_const, decide_eq_true_eq])
local macro_rules | `(tactic| walk_at "len") => `(tactic| (intro vs H Q E h; repeat (first | (obtain ⟨e, _⟩ := h; subst e; rfl) | (obtain ⟨_, h⟩ := h))))
local macro_rules | `(tactic| walk_at "wd") => `(tactic| simp (config := {decide := true}) only [V.str.injEq, scal_ss, true_and, if_true, if_false])

/-! what brought tells fits, and how many moves it has -/
theorem fits_of {B : Nat} {h : Str → Int} {bs : List Blk} {g : Beg} {mbs : List MBlk} (G : Good bs h) (b3 : 3 ≤ B) (b5 : B ≤ 5) (br : Brought B h bs g mbs) : FitsM B h bs mbs (begAt g) := by
  refine ⟨?_, ?_⟩
  · have q := begAt_limit br.mem (firstL bs)
    unfold limitOf at q
    rw [if_pos rfl] at q
    omega
  · have key : ∀ (xs : List Blk) (ms : List MBlk), (∀ b ∈ xs, b ∈ bs) → Paired (MadeOf B h g) xs ms → Paired (Fit1 B h (begAt g)) xs ms := by
      intro xs ms hx p
      induction p with
      | nil => exact .nil
      | cons a t ih =>
        refine .cons ?_ (ih fun b hb => hx b (List.mem_cons_of_mem _ hb))
        rename_i b m _ _
        have hb := hx b (List.mem_cons_self ..)
        obtain ⟨w, hw, _, rs, ers, rfl⟩ := a
        obtain ⟨rs2, high, f1, e2, gs, _, t1, t2, _, ef, _⟩ := way_goes (wok_beg G b3 b5 br.mem hb) hw
        obtain rfl := ms_inj (ers.symm.trans e2)
        refine ⟨rfl, rfl, rfl, List.length_map .., f1, high, gs, t1, t2, fun i l t el et => ?_⟩
        have et2 : (b.fin.labels.map fun l => between w.f (begAt g l))[i]? = some t := et
        rw [List.getElem?_map, el] at et2
        cases et2
        rw [← ef]
        obtain ⟨hl, _⟩ := G.ends b hb l (List.mem_of_getElem? el)
        obtain ⟨b2, hb2, rfl⟩ := get_label hl
        have q := begAt_lim G b5 br.mem hb2
        have h0 := G.h0 hb2
        unfold lim at q
        exact goes_between (by omega) (by omega)
    exact key bs mbs (fun _ hb => hb) br.made
def movesM (ms : List MBlk) : Nat := (ms.map fun m => moves m.rows + (m.tails.map List.length).sum).sum
theorem moves_of {B : Nat} {h : Str → Int} {bs : List Blk} {g : Beg} {mbs : List MBlk} (G : Good bs h) (b3 : 3 ≤ B) (b5 : B ≤ 5) (br : Brought B h bs g mbs) : movesM mbs = total B h bs g := by
  have key : ∀ (xs : List Blk) (ms : List MBlk), (∀ b ∈ xs, b ∈ bs) → Paired (MadeOf B h g) xs ms → movesM ms = total B h xs g := by
    intro xs ms hx p
    induction p with
    | nil => rfl
    | cons a t ih =>
      have q := ih fun b hb => hx b (List.mem_cons_of_mem _ hb)
      rename_i b m _ _
      have hb := hx b (List.mem_cons_self ..)
      obtain ⟨w, hw, hmin, rs, ers, rfl⟩ := a
      obtain ⟨rs2, high, f1, e2, gs, ec, _⟩ := way_goes (wok_beg G b3 b5 br.mem hb) hw
      obtain rfl := ms_inj (ers.symm.trans e2)
      unfold movesM total at q ⊢
      rw [List.map_cons, List.sum_cons, List.map_cons, List.sum_cons, q, leastE_of hw hmin]
      congr 1
      show moves rs + ((b.fin.labels.map fun l => between w.f (begAt g l)).map List.length).sum = endCost g b.fin w
      unfold endCost
      rw [List.map_map, ec]
      congr 2
      refine List.map_congr_left fun l _ => ?_
      exact between_abs
  exact key bs mbs (fun _ hb => hb) br.made
end Pb

/-! W18 -/
set_option Elab.async false
set_option linter.all false
set_option maxRecDepth 100000
set_option maxHeartbeats 4000000
namespace Pb
open PySem PySem.Spec PyProof.Rows L2
open C8 (Cal Mak Met pe_c pe_mk pe_mt pe_mt0 pe_gc fnScope_by)
/-! short words -/
local macro_rules | `(tactic| walk_at "rd") => `(tactic| try simp only [tVar, tC, tAdd, tSub, t2I, tIsN, tNotN, tB, tAnd, tOr, tNot, tAndV, tOrV, tNotV, tIf, tSeq, tPar, tPar3, tNext, tBreak, tCont, tDrop, tRet, tRetN, tIfS, gName, gNil, gCons, gTup, gSub, tAsg, tAug, ipI, iList, iTup, iRng1, iRng2, iStr, iEnum, iZip,
  tOp, tUn, rI, rI0, rU, tTest, tChain, tFld, sFld, sFldAug, L2.rAdd, L2.rSub, tNil, tCons, tTup, tLst, tCall, tMeth, tMake, tCB, tNoPart, tPart, tSl, tBM0, tBM, tDGet, tDGet1, tDGet2, tDIn, tDNotIn, sDPut, tDNewK, rEq, rNe, scal_ii, scal_ss, scal_bb, scal_nn, scal_ni, scal_in, scal_ns, scal_sn, scal_is, scal_si, List.take_succ_cons, List.take_zero, List.drop_succ_cons, List.drop_zero, upd_same, upd_upd, and_assoc, tKGet, gStar, tDisp, tPairs, tYes,
  L2.start, List.map_cons, List.map_nil, List.length_cons, List.length_nil, List.cons_append, List.nil_append, List.append_nil, List.replicate, Nat.sub_self, Nat.add_sub_cancel, Nat.reduceAdd, Nat.reduceSub, List.set_cons_zero, List.set_cons_succ, List.getElem?_cons_zero, List.getElem?_cons_succ,
  Option.some.injEq, V.int.injEq, V.bl.injEq, V.str.injEq, V.ref.injEq, exists_eq_left', exists_eq_left, exists_eq', exists_eq, true_and, and_true, if_true, if_false, Bool.false_eq_true, List.cons.injEq, Bool.not_true, Bool.not_false, cxK, cxP, cxW, ite_true, ite_false, wipe, reduceCtorEq, and_self, decide_true, decide_false, exists_and_left, exists_const, decide_eq_true_eq])
local macro_rules | `(tactic| walk_at "len") => `(tactic| (intro vs H Q E h; repeat (first | (obtain ⟨e, _⟩ := h; subst e; rfl) | (obtain ⟨_, h⟩ := h))))
local macro_rules | `(tactic| walk_at "wd") => `(tactic| simp (config := {decide := true}) only [V.str.injEq, scal_ss, true_and, if_true, if_false])

theorem first_at {l : Str} : ∀ {ls : List Str}, l ∈ ls → ∃ j : Nat, ls[j]? = some l ∧ ∀ m : Nat, m < j → ls[m]? ≠ some l
  | x :: ls, h => by
    by_cases e : x = l
    · exact ⟨0, by rw [e]; rfl, fun m hm => by omega⟩
    · obtain ⟨j, e1, e2⟩ := first_at ((List.mem_cons.mp h).elim (fun z => absurd z.symm e) id)
      refine ⟨j + 1, e1, fun m hm => ?_⟩
      cases m with
      | zero => exact fun z => e (Option.some.inj z)
      | succ m => exact e2 m (by omega)
theorem drop_inv {α : Type} {l t : List α} {n : Nat} {x : α} (e : l.drop n = x :: t) : l[n]? = some x ∧ l.drop (n + 1) = t := by
  refine ⟨?_, ?_⟩
  · have q : (l.drop n)[0]? = some x := by rw [e]; rfl
    rw [List.getElem?_drop] at q
    exact q
  · have q : (l.drop n).drop 1 = t := by rw [e]; rfl
    rw [List.drop_drop] at q
    exact q
section
variable {P : Program} {w : World} {K : PySem.W.Frag} {mg : Str → Option Value} {base : Heap}
theorem ok_run_made (T : Tx w K mg) (F_check_run : Cal P w K mg base 4 "check_run" (sp_check_run K) []) (M_Tally : Mak P w K mg base 1 "Tally" (He.ga K "Tally") (sp_Tally___init__ K) []) (F_run_heard : Cal P w K mg base 4 "run_heard" (sp_run_heard K) []) : KDef P w K mg base 5 "run_made" (sp_run_made K) ["made", "worths", "most"] s_run_made [("worths", .ref (kwdAt (He.ga K "run_made") "worths" K)), ("most", .int 500)] := by
  refine kdef_of T.D_run_made T.g_run_made sc_run_made (by walk_at "len") fun cdv A outer s H vs Q E hr h => ?_
  refine ⟨_, (pss_cons (ps_expr (pe_c F_check_run hr (by decide) (by rfl) (pa_cons (pv 1) (pa_cons (pv 2) pa_nil))))
    (pss_one (ps_ret (pe_c F_run_heard hr (by decide) (by rfl) (pa_cons (pv 0) (pa_cons (pe_mk M_Tally hr (by decide) (by rfl) (pa_cons (pv 1) (pa_cons (pv 2) (pa_cons pe_non pa_nil)))) pa_nil)))))), ?_⟩
  obtain ⟨p, wv, bs, h, mbs, beg, ns, B, most, rfl, im, mgd, G, fm, hw, hz, hws, hm, k⟩ := h
  walk_at "rd"
  refine ⟨[], wv, ns, most, rfl, Tk.nil, by rw [hide_nil]; exact hw, hz, hws, by omega, by omega, fun H1 s1 => ?_⟩
  walk_at "rd"
  intro tp dx htp hdx hne
  exact ⟨tp, dx, H1, wv, ns, most, .non, rfl, ⟨rfl, htp, hdx, hne⟩, hw.mono s1, fun H2 wl tl s2 hwl htl nwt at2 aw2 al2 => ⟨rfl, p, tp, dx, wl, tl, bs, h, mbs, beg, ns, H, B, most, rfl, s1.trans s2, s1.free htp, s1.free hwl, s1.free htl, nwt, at2, aw2, al2, im, mgd, G, fm, hws, hm, k⟩⟩
theorem ok_run_heard (T : Tx w K mg) (M_Store : Mak P w K mg base 1 "Store" (He.ga K "Store") (sp_Store___init__ K) []) (F_Store_move : Met P w K mg base 1 (He.ga K "Store") "move" (sp_Store_move K) []) (F_Tally_step : Met P w K mg base 1 (He.ga K "Tally") "step" (sp_Tally_step K) []) (F_Tally_tell : Met P w K mg base 1 (He.ga K "Tally") "tell" (sp_Tally_tell K) []) (F_Tally_hear : Met P w K mg base 1 (He.ga K "Tally") "hear" (sp_Tally_hear K) []) (F_done_on : Cal P w K mg base 3 "done_on" (sp_done_on K) []) (F_next_label : Cal P w K mg base 1 "next_label" (sp_next_label K) []) (M_Ran : Mak P w K mg base 1 "Ran" (He.ga K "Ran") (sp_Ran___init__ K) []) (M_Dry : Mak P w K mg base 1 "Dry" (He.ga K "Dry") (sp_Dry___init__ K) []) (M_Spent : Mak P w K mg base 1 "Spent" (He.ga K "Spent") (sp_Spent___init__ K) []) : Cal P w K mg base 4 "run_heard" (sp_run_heard K) [] := by
  refine cal_of T.D_run_heard T.g_run_heard sc_run_heard (fun _ _ _ _ _ _ us hl => match us, hl with | [_, _], _ => rfl) (by walk_at "len") fun cdv A outer s H vs Q E hr h => ?_
  refine ⟨_, (pss_cons (ps_par (i := 2) (j := 3) rfl sc_run_heard.nd rfl rfl (by decide) rfl rfl (pa_cons (pe_mk0 M_Store hr (by decide) (by rfl)) (pa_cons pe_int pa_nil)) rfl)
    (pss_one (ps_while PassesOwn.never (pt_val pe_bl) (pss_cons (ps_asg (pe_ix (r := rIx K) ix_seq (pe_fldK (K := K) (pv 0) rfl) (pv 3) (fun _ _ => rfl)) (pg_tupK (K := K) (n := 5) rfl (pgs_cons (pg_name (i := 4) sc_run_heard.nd rfl (by first | exact Or.inl rfl | exact Or.inr rfl)) (pgs_cons (pg_name (i := 5) sc_run_heard.nd rfl (by first | exact Or.inl rfl | exact Or.inr rfl)) (pgs_cons (pg_name (i := 6) sc_run_heard.nd rfl (by first | exact Or.inl rfl | exact Or.inr rfl)) (pgs_cons (pg_name (i := 7) sc_run_heard.nd rfl (by first | exact Or.inl rfl | exact Or.inr rfl)) (pgs_cons (pg_name (i := 8) sc_run_heard.nd rfl (by first | exact Or.inl rfl | exact Or.inr rfl)) pgs_nil)))))))
    (pss_cons (ps_set (i := 9) sc_run_heard.nd rfl (by first | exact Or.inl rfl | exact Or.inr rfl) pe_int)
    (pss_cons (ps_for PassesOwn.never rfl (pi_listK (K := K) (pv 6)) (pg_name (i := 10) sc_run_heard.nd rfl (by first | exact Or.inl rfl | exact Or.inr rfl)) (pss_cons (ps_if (pt_cmpR (r := rIn K false) op_in_seq (pe_ix (r := rIx K) ix_seq (pv 10) pe_int (fun _ _ => rfl)) (pe_gc (by rfl) T.v_MOVES) (by rfl)) (pss_cons (ps_expr (pe_mt F_Store_move hr (by decide) (pv 2) (pa_cons (pv 10) pa_nil)))
    (pss_one ps_continue)) pss_nil)
    (pss_cons (ps_if (pt_not (pt_val (pe_mt0 F_Tally_step hr (by decide) (pv 1)))) (pss_one (ps_ret (pe_mk M_Spent hr (by decide) (by rfl) (pa_cons (pe_fldK (K := K) (pv 1) rfl) pa_nil)))) pss_nil)
    (pss_cons (ps_if (pt_cmpR op_eq (pe_ix (r := rIx K) ix_seq (pv 10) pe_int (fun _ _ => rfl)) pe_str (nomark _)) (pss_one (ps_expr (pe_mt F_Tally_tell hr (by decide) (pv 1) (pa_cons (pe_bm0 PySem.F.plainAttrs_list PySem.F.slot_list_pop PySem.F.type_list_pop mt_pop (pe_fldK (K := K) (pv 2) rfl)) pa_nil)))) (pss_one (ps_if (pt_cmpR op_eq (pe_ix (r := rIx K) ix_seq (pv 10) pe_int (fun _ _ => rfl)) pe_str (nomark _)) (pss_cons (ps_set (i := 11) sc_run_heard.nd rfl (by first | exact Or.inl rfl | exact Or.inr rfl) (pe_mt0 F_Tally_hear hr (by decide) (pv 1)))
    (pss_cons (ps_if (pt_cmpR op_isN (pv 11) pe_non (nomark _)) (pss_one (ps_ret (pe_mk M_Dry hr (by decide) (by rfl) (pa_cons (pe_fldK (K := K) (pv 1) rfl) (pa_cons (pv 4) (pa_cons (pv 9) pa_nil)))))) pss_nil)
    (pss_one (ps_expr (pe_bm PySem.F.plainAttrs_list PySem.F.slot_list_append PySem.F.type_list_append mt_append (pe_fldK (K := K) (pv 2) rfl) (pa_cons (pv 11) pa_nil)))))) (pss_one (ps_fld (pv 2) (pe_c F_done_on hr (by decide) (by rfl) (pa_cons (pe_fldK (K := K) (pv 2) rfl) (pa_cons (pv 10) pa_nil))) rfl)))))
    (pss_one (ps_aug (i := 9) sc_run_heard.nd rfl (by first | exact Or.inl rfl | exact Or.inr rfl) pe_int ip_add))))))
    (pss_cons (ps_if (pt_not (pt_val (pe_mt0 F_Tally_step hr (by decide) (pv 1)))) (pss_one (ps_ret (pe_mk M_Spent hr (by decide) (by rfl) (pa_cons (pe_fldK (K := K) (pv 1) rfl) pa_nil)))) pss_nil)
    (pss_cons (ps_if (pt_cmpR op_eq (pe_ix (r := rIx K) ix_seq (pv 7) pe_int (fun _ _ => rfl)) pe_str (nomark _)) (pss_one (ps_ret (pe_mk M_Ran hr (by decide) (by rfl) (pa_cons (pe_fldK (K := K) (pv 1) rfl) (pa_cons (pe_op (r := rCatS K) op_catS (pe_fldK (K := K) (pv 2) rfl) (pe_fldK (K := K) (pv 2) rfl)) (pa_cons (pe_fldK (K := K) (pv 1) rfl) pa_nil)))))) pss_nil)
    (pss_cons (ps_set (i := 12) sc_run_heard.nd rfl (by first | exact Or.inl rfl | exact Or.inr rfl) (pe_c F_next_label hr (by decide) (by rfl) (pa_cons (pv 7) (pa_cons (pe_ifExp (pt_cmpR op_eq (pe_ix (r := rIx K) ix_seq (pv 7) pe_int (fun _ _ => rfl)) pe_str (nomark _)) (pe_bm0 PySem.F.plainAttrs_list PySem.F.slot_list_pop PySem.F.type_list_pop mt_pop (pe_fldK (K := K) (pv 2) rfl)) pe_non) pa_nil))))
    (pss_cons (ps_for PassesOwn.never rfl (pi_listK (K := K) (pe_ix (r := rIx K) ix_seq (pv 8) (pe_bmSl PySem.F.plainAttrs_tuple PySem.F.slot_tuple_index PySem.F.type_tuple_index mt_tup_index (pv 7) (po_some pe_int) po_none (pa_cons (pv 12) pa_nil)) (fun _ _ => rfl))) (pg_name (i := 10) sc_run_heard.nd rfl (by first | exact Or.inl rfl | exact Or.inr rfl)) (pss_one (ps_expr (pe_mt F_Store_move hr (by decide) (pv 2) (pa_cons (pv 10) pa_nil)))))
    (pss_one (ps_set (i := 3) sc_run_heard.nd rfl (by first | exact Or.inl rfl | exact Or.inr rfl) (pe_bm PySem.F.plainAttrs_list PySem.F.slot_list_index PySem.F.type_list_index mt_index (pe_lc rfl sc_run_heard.nd (pi_listK (K := K) (pe_fldK (K := K) (pv 0) rfl)) (blkOk_by (own := [("part", 13)]) (N := ["made", "tally", "store", "at", "label", "begin", "rows", "end", "tails", "done", "row", "worth", "there", "part"]) (sc := L2.defScope s_run_heard) (by decide +kernel)) (fun _ _ _ _ _ => (pg_m (pg_name (i := 13) sc_run_heard.nd rfl (by first | exact Or.inl rfl | exact Or.inr rfl)))) (fun _ _ _ _ _ => pts_nilM) (fun _ _ _ _ _ => (pe_m (pe_ix (r := rIx K) ix_seq (pv 13) pe_int (fun _ _ => rfl))))) (pa_cons (pv 12) pa_nil)))))))))))))), ?_⟩
  obtain ⟨p, tp, dx, wl, tl, bs, h, mbs, beg, ns, H0, B, most, rfl, s0, ntp, nwl, ntl, nwt, at0, aw0, al0, im, mgd, G, fm, hws, hm, k_⟩ := h
  walk_at "rd"
  intro st sdx nst nsdx hne
  refine ⟨st, sdx, H, rfl, ⟨rfl, nst, nsdx, hne⟩, fun H1 bf ce s1 nbf nce sb sc store => ⟨rfl, ?_⟩⟩
  obtain ⟨cdx, pa, c1, c2⟩ := im
  obtain ⟨pl0, pxs, e0, hps, hpa⟩ := dp_list c2
  cases e0
  have g0 : GoingM K H0 H1 most tp dx wl tl st sdx ce bf ⟨[], ns, [], 0⟩ [] [] := ⟨s0.trans s1, ntp, nwl, ntl, s0.free nst, s0.free nce, s0.free nbf, s1 _ _ at0, s1 _ _ aw0, s1 _ _ al0, store.1, store.2.1, store.2.2.1, ne_of_none at0 nst, nwt, ne_of_none aw0 nce, ne_of_none aw0 nbf, ne_of_none al0 nce, ne_of_none al0 nbf, store.2.2.2, Nat.zero_le _, Nat.zero_le _, (fun n hn => nomatch hn), hws, Nat.zero_le _, rfl⟩
  obtain ⟨b0, tl0, hbs⟩ : ∃ b0 tl0, bs = b0 :: tl0 := by
    cases bs with
    | nil => exact absurd G.one (by simp)
    | cons b tl => exact ⟨b, tl, rfl⟩
  refine ⟨RunM K H0 bs h mbs beg ns most p tp dx wl tl st sdx ce, ⟨most + 1, bf, [], [], b0, ⟨[], ns, [], 0⟩, 0, _, _, _, _, _, _, _, _, _, _, rfl, g0, by rw [hbs]; rfl, by show most < most + 1 + 0; omega, by rw [hbs]; rfl, ?_, ?_⟩, ?_⟩
  · show ((0 : Nat) : Int) = _
    rw [G.zero b0 (by rw [hbs]; rfl)]
    rfl
  · show 0 = beg b0.label
    have q := fm.first
    rw [hbs] at q
    exact q.symm
  have spent : ∀ (H2 : Hp) (s : RSt) (bf : Addr) (cel box : List Int), GoingM K H0 H2 most tp dx wl tl st sdx ce bf s cel box → outcome bs ns most = .spent s.told → ∀ x dx1, H2 x = none → H2 dx1 = none → dx1 ≠ x → sp_Spent___init__ K [.ref x, .ref tl] (upd (upd H2 dx1 (.own x)) x (.ins (He.ga K "Spent") dx1 [])) (fun v H3 => v = .non ∧ Q (.ref x) H3) C8.E0 := by
    intro H2 s bf cel box g e x dx1 hx hd hne
    refine ⟨x, dx1, H2, .ref tl, s.told, rfl, ⟨rfl, hx, hd, hne⟩, ⟨tl, rfl, .inl (SqL.of g.atl)⟩, fun H3 t3 s3 ht3 hx3 hl3 => ⟨rfl, k_ _ _ (g.same.trans s3) (g.same.free hx) ?_⟩⟩
    rw [e]
    exact ⟨dx1, t3, hx3, g.same.free ht3, hl3⟩
  clear g0 store nbf nce sb sc s1 nst nsdx hne
  rintro m σ H4 ⟨bf, cel, box, b, s, i, o4, o5, o6, o7, o8, o9, o10, o11, o12, o13, rfl, g, eO, hlt, eb, hlen, hbx⟩
  have hb := List.mem_of_getElem? eb
  obtain ⟨mb, emb, fit⟩ := Paired.at fm.all eb
  obtain ⟨f, rfl⟩ : ∃ f, m = f + 1 := ⟨m - 1, by have := g.le; omega⟩
  rw [runFrom, blkAt_of G.nodup hb] at eO
  walk_at "rd"
  refine ⟨_, fun σ' H' q => q, ?_⟩
  obtain ⟨px, epx, hu⟩ := DpAll.get (i := i) (d := mb.d) hpa (by rw [List.getElem?_map, emb]; rfl)
  refine ⟨_, _, _, g.same _ _ c1, T.c_Made, T.n_Made_made_parts, _, rfl, .inl ⟨pa, pxs, (i : Nat), px, rfl, rfl, sqL_same g.same hps, atI_natc epx, ?_⟩⟩
  obtain ⟨pt, u1, u2, u3, u4, u5, rfl, ht5, q1, q2, q3, q4, q5⟩ := dp_t5 hu
  cases q1
  cases q2
  refine a_t5V (sqT_same g.same ht5) ?_
  rw [fit.label]
  rw [fit.fin] at q4
  obtain ⟨f1, h1, go, gt, gb, gtail⟩ := fit.run
  rw [fit.begs, ← hbx, ← hlen] at go
  obtain ⟨ra, rs, rfl, hrs, hra⟩ := dp_list q3
  have hlr := DpAll.length hra
  rw [List.length_map] at hlr
  walk_at "rd"
  refine a_for ?_
  walk_at "rd"
  refine ⟨⟨_, sqL_same g.same hrs⟩, ?_⟩
  refine for_go2 (walk_list (xs := rs)) (fun k σ H5 => ∃ bf s' cel box, ∃ done : Nat, ∃ o10 o11 o12 o13, σ = [some (.ref p), some (.ref tp), some (.ref st), some (.int i), some (.str b.label), some (.int mb.beg), some (.ref ra), some u4, some u5, some (.int done), o10, o11, o12, o13] ∧ GoingM K H0 H5 most tp dx wl tl st sdx ce bf s' cel box ∧
    behind most b.fin (fun l s => runFrom bs most f l s) (rowsRun most b.label (b.rows.drop done) done s') = outcome bs ns most ∧ most < f + 1 + s'.steps ∧ (s'.pile.length : Int) = after (h b.label) (b.words.take done) ∧ Goes B box.length (s'.pile.length : Int) (mb.rows.drop k) (b.rows.drop done) f1 h1 ∧ done ≤ b.rows.length)
    ⟨bf, s, cel, box, 0, _, _, _, _, rfl, g, eO, hlt, by rw [hlen, List.take_zero, after_nil], go, Nat.zero_le _⟩ (fun k σ H5 _ q => by
      obtain ⟨_, _, _, _, _, _, _, _, _, _, q, _⟩ := q
      exact sqL_same q.same hrs) ?_ ?_
  · rintro Pw yes k y σ H5 H6 hk ⟨bf, s', cel, box, done, o10, o11, o12, o13, rfl, g, eO, hlt, hlen, go, hdn⟩ ⟨e6, ey⟩
    subst e6
    obtain ⟨d, ed, hdd⟩ := DpAll.at hra ey
    rw [List.getElem?_map] at ed
    have hkl : k < mb.rows.length := by omega
    have er : mb.rows[k]? = some mb.rows[k] := List.getElem?_eq_getElem hkl
    rw [er] at ed
    have hdrop : mb.rows.drop k = mb.rows[k] :: mb.rows.drop (k + 1) := List.drop_eq_getElem_cons hkl
    rw [hdrop] at go
    generalize mb.rows[k] = r at *
    cases ed
    have gi := go.inv
    clear go hdrop er
    refine g_name ?_
    cases r with
    | m mv =>
      walk_at "rd"
      refine a_ixT (Dp.mono g.same hdd) atI_0 fun u hu => ?_
      cases hu
      refine a_in_strs (neg := false) (.inr (T.t_MOVES _)) ⟨_, rfl, ?_⟩
      rw [if_pos (by show decide (mv.word ∈ c_MOVES) = true; exact decide_eq_true (Mv.mem mv))]
      have lp : s'.pile.length = cel.length + box.length := by rw [g.pile, List.length_append]
      have ld := g.deep
      have hf : mv = .fill → 1 ≤ cel.length := fun z => by
        subst z
        have := gi.2.1
        omega
      have hs : mv = .spill → 1 ≤ box.length := fun z => by
        subst z
        exact gi.1
      refine ⟨_, _, g.ast, rfl, [], st, sdx, bf, ce, y, mv, box, cel, rfl, Tk.nil, by rw [hide_nil]; exact Dp.mono g.same hdd, g.store, hf, hs, by omega, by omega, fun H7 bf' sx nb a => ?_⟩
      refine yes _ _ _ ⟨bf', s', _, _, done, _, _, _, _, rfl, g.move hf hs sx nb a, eO, hlt, hlen, ?_, hdn⟩
      rw [moved_len hs]
      cases mv with
      | fill => exact gi.2.2
      | spill => exact gi.2
    | r r =>
      obtain ⟨ls', els, t1, t2, go2⟩ := gi
      obtain ⟨erow, els2⟩ := drop_inv els
      have hil : done < b.rows.length := (List.getElem?_eq_some_iff.mp erow).1
      have ew : b.words[done]? = some r.word := by
        unfold Blk.words
        rw [List.getElem?_append_left (by rw [List.length_map]; exact hil), List.getElem?_map, erow]
        rfl
      have hok := wok_at (G.rows b hb) ew
      rw [Row.touch_eq, Row.more_eq, ← hlen] at hok
      have nx : after (h b.label) (b.words.take (done + 1)) = s'.pile.length + r.more := by
        rw [List.take_succ, ew, hlen, ← Row.more_eq]
        exact after_snoc
      rw [els, ← els2] at eO
      rw [← els2] at go2
      have lp : s'.pile.length = cel.length + box.length := by rw [g.pile, List.length_append]
      have ld := g.deep
      have fin : ∀ (H8 : Hp) (bf' : Addr) (s2 : RSt) (box' : List Int) (o10 o11 o12 o13 : Option V), GoingM K H0 H8 most tp dx wl tl st sdx ce bf' s2 cel box' → behind most b.fin (fun l s => runFrom bs most f l s) (rowsRun most b.label (b.rows.drop (done + 1)) (done + 1) s2) = outcome bs ns most → s2.steps = s'.steps + 1 → (s2.pile.length : Int) = s'.pile.length + r.more → (box'.length : Int) = box.length + r.more →
          Pw (k + 1) [some (.ref p), some (.ref tp), some (.ref st), some (.int i), some (.str b.label), some (.int mb.beg), some (.ref ra), some u4, some u5, some (.int ((done : Int) + 1)), o10, o11, o12, o13] H8 := fun H8 bf' s2 box' o10 o11 o12 o13 g2 e2 l1 l2 l3 => by
        have e3 : ((box.length : Int) + r.more).toNat = box'.length := by omega
        have e4 : (s'.pile.length : Int) + r.more = s2.pile.length := l2.symm
        rw [e3, e4] at go2
        exact yes _ _ _ ⟨bf', s2, cel, box', done + 1, _, _, _, _, rfl, g2, e2, by rw [l1]; omega, by rw [nx, l2], go2, hil⟩
      walk_at "rd"
      refine a_ixT (Dp.mono g.same hdd) atI_0 fun u hu => ?_
      cases hu
      refine a_in_strs (neg := false) (.inr (T.t_MOVES _)) ⟨_, rfl, ?_⟩
      rw [if_neg (by show ¬ decide (r.word ∈ c_MOVES) = true; rw [decide_eq_false r.not_mem]; exact Bool.false_ne_true)]
      refine ⟨_, _, g.atp, rfl, tp, dx, wl, tl, most, s'.steps, .non, rfl, g.atp, ?_⟩
      by_cases hs : s'.steps = most
      · rw [if_pos (congrArg _ hs)]
        walk_at "rd"
        rw [rowsRun_stop hs] at eO
        refine ⟨_, _, _, g.atp, T.c_Tally, T.n_Tally_told_so_far, _, rfl, fun x dx1 hx hd hne => ?_⟩
        exact spent _ s' bf cel box g eO.symm x dx1 hx hd hne
      · rw [if_neg fun z => hs (by omega)]
        walk_at "rd"
        have g1 := g.step hs
        generalize upd H6 tp (HO.ins (He.ga K "Tally") dx (tallyF wl tl most ((s'.steps : Int) + 1) .non)) = H7 at *
        refine a_ixT (Dp.mono g1.same hdd) atI_0 fun u hu => ?_
        cases hu
        refine ⟨rfl, ?_⟩
        by_cases ht : r = .tell
        · subst ht
          rw [if_pos (show V.str Row.tell.word = V.str (Str.ofString "tell") from rfl)]
          rw [rowsRun_tell hs] at eO
          have hb1 : 1 ≤ box.length := t1
          have etop : topN s'.pile 0 = topN box 0 := by rw [g.pile]; exact topN_box hb1
          rw [etop] at eO
          walk_at "rd"
          refine ⟨_, _, g1.atp, rfl, _, _, _, g1.ast, T.c_Store, T.n_Store_boxes_full, _, rfl, .inl ⟨rfl, _, SqL.of g1.abf⟩, bf, _, _, rfl, rfl, g1.abf, last_top hb1, ?_⟩
          rw [popped_drop]
          refine ⟨tp, dx, wl, tl, most, _, s'.told, _, rfl, (upd_ne g1.tq).trans g1.atp, (upd_ne g1.tb).trans g1.atl, by have := g1.told; have := g1.le; rw [sizeLine_eq]; simp only at *; omega, ?_⟩
          refine fin _ bf ⟨s'.told ++ [topN box 0], s'.ws, popped s'.pile, s'.steps + 1⟩ (popped box) _ _ _ _ (g1.next ((Sx.upd (by simp)).trans (Sx.upd (by simp))) g1.nbf ((upd_ne g1.tt).trans ((upd_ne g1.tq).trans g1.atp)) ((upd_ne g1.wt).trans ((upd_ne g1.wb).trans g1.awl)) upd_same
            ⟨(upd_ne g1.st').trans ((upd_ne g1.sb).trans g1.ast), (upd_ne g1.tb.symm).trans upd_same, (upd_ne g1.tc.symm).trans ((upd_ne g1.bc.symm).trans g1.ace), g1.bc⟩ g1.wb g1.tb g1.le ?_ (popped_worths g.pw) g.ww ?_ ?_) eO rfl (popped_len (by omega)) (popped_len hb1)
          · show (s'.told ++ [topN box 0]).length ≤ s'.steps + 1
            rw [List.length_append, List.length_singleton]
            have := g.told
            omega
          · show (popped s'.pile).length ≤ 1000
            have := popped_len (ns := s'.pile) (by omega)
            omega
          · show popped s'.pile = cel ++ popped box
            rw [g.pile]
            exact popped_box hb1
        · rw [if_neg (Row.word_tell ht)]
          refine a_ixT (Dp.mono g1.same hdd) atI_0 fun u hu => ?_
          cases hu
          refine ⟨rfl, ?_⟩
          by_cases hh : r = .hear
          · subst hh
            rw [if_pos (show V.str Row.hear.word = V.str (Str.ofString "hear") from rfl)]
            walk_at "rd"
            refine ⟨_, _, g1.atp, rfl, tp, dx, wl, tl, most, _, .non, s'.ws, rfl, g1.atp, g1.awl, ?_⟩
            cases ews : s'.ws with
            | nil =>
              intro H8 s8
              rw [if_pos rfl]
              refine ⟨_, _, _, s8 _ _ g1.atp, T.c_Tally, T.n_Tally_told_so_far, _, rfl, fun x dx1 hx hd hne => ?_⟩
              refine ⟨x, dx1, H8, .ref tl, s'.told, b.label, done, rfl, ⟨rfl, hx, hd, hne⟩, ⟨tl, rfl, .inl (SqL.of (s8 _ _ g1.atl))⟩, fun H9 t9 s9 ht9 hx9 hl9 => ⟨rfl, k_ _ _ ((g1.same.trans s8).trans s9) ((g1.same.trans s8).free hx) ?_⟩⟩
              rw [← eO, rowsRun_dry hs ews]
              exact ⟨dx1, t9, hx9, (g1.same.trans s8).free ht9, hl9⟩
            | cons wn ws =>
              intro H8 s8
              rw [if_neg (by intro z; cases z)]
              rw [rowsRun_hear hs ews] at eO
              have hww : Worths (wn :: ws) := by rw [← ews]; exact g.ww
              have ab : upd H8 wl (.lst (ws.map V.int)) bf = some (.lst (box.map V.int)) := (upd_ne g1.wb.symm).trans (s8 _ _ g1.abf)
              have as : upd H8 wl (.lst (ws.map V.int)) st = some (.ins (He.ga K "Store") sdx (storeF bf ce)) := (upd_ne g1.sw).trans (s8 _ _ g1.ast)
              have ac : upd H8 wl (.lst (ws.map V.int)) ce = some (.lst (cel.map V.int)) := (upd_ne g1.wc.symm).trans (s8 _ _ g1.ace)
              refine ⟨_, _, _, as, T.c_Store, T.n_Store_boxes_full, _, rfl, .inl ⟨rfl, _, SqL.of ab⟩, bf, _, _, rfl, rfl, ab, by rw [List.length_map, sizeLine_eq]; omega, ?_⟩
              have em : box.map V.int ++ [V.int wn] = (box ++ [wn]).map V.int := by rw [List.map_append]; rfl
              rw [em]
              refine fin _ bf ⟨s'.told, ws, s'.pile ++ [wn], s'.steps + 1⟩ (box ++ [wn]) _ _ _ _ (g1.next (((Sx.of s8).trans (Sx.upd (by simp))).trans (Sx.upd (by simp))) g1.nbf ((upd_ne g1.tq).trans ((upd_ne g1.tw).trans (s8 _ _ g1.atp)))
                ((upd_ne g1.wb).trans upd_same) ((upd_ne g1.tb).trans ((upd_ne g1.wt.symm).trans (s8 _ _ g1.atl))) ⟨(upd_ne g1.sb).trans as, upd_same, (upd_ne g1.bc.symm).trans ac, g1.bc⟩ g1.wb g1.tb g1.le g1.told (g.pw.append (.one (hww _ (List.mem_cons_self ..)))) (fun n hn => hww n (List.mem_cons_of_mem _ hn)) ?_ ?_) eO rfl ?_ ?_
              · show (s'.pile ++ [wn]).length ≤ 1000
                rw [List.length_append, List.length_singleton]
                have := hok.2
                simp only [Row.more] at this
                omega
              · show s'.pile ++ [wn] = cel ++ (box ++ [wn])
                rw [g.pile, List.append_assoc]
              · show ((s'.pile ++ [wn]).length : Int) = _
                rw [List.length_append]
                rfl
              · rw [List.length_append]
                rfl
          · rw [if_neg (Row.word_hear hh)]
            walk_at "rd"
            rw [rowsRun_plain ht hh hs] at eO
            have hpl := Row.plain_of ht hh
            have hto : r.touch ≤ s'.pile.length := by omega
            have hlen2 := doneOn_len hto hpl
            refine ⟨_, _, _, g1.ast, T.c_Store, T.n_Store_boxes_full, _, rfl, [], bf, box, y, r, rfl, g1.abf, Tk.nil, by rw [hide_nil]; exact Dp.mono g1.same hdd, hpl, t1, by omega, fun n hn => g.pw.small n (by rw [g.pile]; exact List.mem_append_right _ hn), fun H8 q s8 hq hq8 => ?_⟩
            have nqs : q ≠ st := fun z => by rw [z, g1.ast] at hq; cases hq
            have nqc : q ≠ ce := fun z => by rw [z, g1.ace] at hq; cases hq
            refine ⟨_, _, _, s8 _ _ g1.ast, T.c_Store, T.n_Store_boxes_full, by show 2 < 1000; decide, ?_⟩
            refine fin _ q ⟨s'.told, s'.ws, doneOn s'.pile r, s'.steps + 1⟩ (doneOn box r) _ _ _ _ (g1.next ((Sx.of s8).trans (Sx.upd (by simp))) (g1.same.free hq) ((upd_ne g1.ts).trans (s8 _ _ g1.atp)) ((upd_ne g1.sw.symm).trans (s8 _ _ g1.awl)) ((upd_ne g1.st'.symm).trans (s8 _ _ g1.atl)) ⟨upd_same, (upd_ne nqs).trans hq8, (upd_ne g1.sc.symm).trans (s8 _ _ g1.ace), nqc⟩ (ne_of_none g1.awl hq) (ne_of_none g1.atl hq) g1.le g1.told
              (doneOn_worths g.pw hto (G.puts b hb r (List.mem_of_getElem? erow))) g.ww ?_ ?_) eO rfl hlen2 (doneOn_len t1 hpl)
            · show (doneOn s'.pile r).length ≤ 1000
              have := hok.2
              omega
            · show doneOn s'.pile r = cel ++ doneOn box r
              rw [g.pile]
              exact doneOn_box t1
  · rintro σ H5 ⟨bf, s', cel, box, done, o10, o11, o12, o13, rfl, g, eO, hlt, hlen, go, hdn⟩
    rw [hlr, List.drop_length] at go
    obtain ⟨edr, ebx, _⟩ := go.none
    have hdl : done = b.rows.length := by
      have q := congrArg List.length edr
      rw [List.length_drop, List.length_nil] at q
      omega
    rw [edr] at eO
    rw [rowsRun] at eO
    have eO2 : finRun most b.fin (fun l s => runFrom bs most f l s) s' = outcome bs ns most := eO
    have ew : b.words[b.rows.length]? = some b.fin.word := by
      unfold Blk.words
      rw [List.getElem?_append_right (by rw [List.length_map]; omega), List.length_map, Nat.sub_self]
      rfl
    rw [hdl] at hlen
    have hok := wok_at (G.rows b hb) ew
    rw [Fin.touch_eq, Fin.more_eq, ← hlen] at hok
    have hout : out h b = s'.pile.length + b.fin.more := by
      unfold out
      rw [hlen, ← Fin.more_eq]
      have e : b.words = b.words.take b.rows.length ++ [b.fin.word] := by
        have hl : b.words.length = b.rows.length + 1 := by unfold Blk.words; simp
        have q := List.take_succ (l := b.words) (i := b.rows.length)
        rw [ew, List.take_of_length_le (by omega)] at q
        exact q
      have e2 : after (h b.label) b.words = after (h b.label) (b.words.take b.rows.length ++ [b.fin.word]) := by rw [← e]
      rw [e2]
      exact after_snoc
    have lp : s'.pile.length = cel.length + box.length := by rw [g.pile, List.length_append]
    have ld := g.deep
    rw [← ebx] at gt gb gtail
    have ends := G.ends b hb
    dsimp only
    refine seq_mid (fun σ' H6 => σ' = [some (.ref p), some (.ref tp), some (.ref st), some (.int i), some (.str b.label), some (.int mb.beg), some (.ref ra), some u4, some u5, some (.int done), o10, o11, o12, o13] ∧ s'.steps ≠ most ∧ GoingM K H0 H6 most tp dx wl tl st sdx ce bf ⟨s'.told, s'.ws, s'.pile, s'.steps + 1⟩ cel box) (fun Kx yes => ?_) ?_
    · walk_at "rd"
      refine ⟨_, _, g.atp, rfl, tp, dx, wl, tl, most, s'.steps, .non, rfl, g.atp, ?_⟩
      by_cases hs : s'.steps = most
      · rw [if_pos (congrArg _ hs)]
        walk_at "rd"
        refine ⟨_, _, _, g.atp, T.c_Tally, T.n_Tally_told_so_far, _, rfl, fun x dx1 hx hd hne => ?_⟩
        refine spent _ s' bf cel box g ?_ x dx1 hx hd hne
        rw [← eO2]
        unfold finRun
        rw [if_pos hs]
      · rw [if_neg fun z => hs (by omega)]
        walk_at "rd"
        exact yes _ _ ⟨rfl, hs, g.step hs⟩
    rintro σ' H7 ⟨rfl, hs, g1⟩
    unfold finRun at eO2
    rw [if_neg hs] at eO2
    refine seq_mid (fun σ' H8 => σ' = [some (.ref p), some (.ref tp), some (.ref st), some (.int i), some (.str b.label), some (.int mb.beg), some (.ref ra), some u4, some u5, some (.int done), o10, o11, o12, o13] ∧ b.fin ≠ .stop ∧ H8 = H7) (fun Kx yes => ?_) ?_
    · walk_at "rd"
      refine a_ixT (Dp.mono g1.same q4) atI_0 fun u hu => ?_
      cases hu
      refine ⟨rfl, ?_⟩
      by_cases ef : b.fin = .stop
      · rw [ef] at eO2
        rw [ef, if_pos (show V.str Fin.stop.word = V.str (Str.ofString "stop") from rfl)]
        refine ⟨_, _, _, g1.atp, T.c_Tally, T.n_Tally_told_so_far, _, rfl, _, _, _, g1.ast, T.c_Store, T.n_Store_cellar, _, rfl, _, _, _, g1.ast, T.c_Store, T.n_Store_boxes_full, _, rfl, ce, bf, _, _, rfl, rfl, SqL.of g1.ace, SqL.of g1.abf, by rw [List.length_map, List.length_map, sizeLine_eq]; omega, fun r nr => ?_⟩
        have em : cel.map V.int ++ box.map V.int = s'.pile.map V.int := by rw [g.pile, List.map_append]
        have sr := same_new (o := HO.lst (cel.map V.int ++ box.map V.int)) nr
        refine ⟨_, _, _, sr _ _ g1.atp, T.c_Tally, T.n_Tally_steps_done, _, rfl, fun x dx1 hx hd hne => ?_⟩
        refine ⟨x, dx1, _, .ref tl, .ref r, s'.told, s'.pile, _, rfl, ⟨rfl, hx, hd, hne⟩, ⟨tl, rfl, .inl (SqL.of (sr _ _ g1.atl))⟩, ⟨r, rfl, .inl (SqL.of (by rw [upd_same, em]))⟩, fun H8 t8 p8 s8 ht8 hp8 ntp8 hx8 ht8' hp8' => ⟨rfl, k_ _ _ (g1.same.trans (sr.trans s8)) ((g1.same.trans sr).free hx) ?_⟩⟩
        rw [← eO2]
        exact ⟨dx1, t8, p8, hx8, (g1.same.trans sr).free ht8, (g1.same.trans sr).free hp8, ntp8, ht8', hp8'⟩
      · rw [if_neg (show ¬ V.str b.fin.word = V.str (Str.ofString "stop") by
          cases e : b.fin with
          | stop => exact absurd e ef
          | go l => simp only [Fin.word]; decide +kernel
          | iff a c => simp only [Fin.word]; decide +kernel)]
        exact yes _ _ ⟨rfl, ef, rfl⟩
    rintro σ' H8 ⟨rfl, hns, rfl⟩
    refine seq_mid (fun σ' H9 => ∃ l box2 s2, σ' = [some (.ref p), some (.ref tp), some (.ref st), some (.int i), some (.str b.label), some (.int mb.beg), some (.ref ra), some u4, some u5, some (.int done), o10, o11, some (.str l), o13] ∧ GoingM K H0 H9 most tp dx wl tl st sdx ce bf s2 cel box2 ∧ runFrom bs most f l s2 = outcome bs ns most ∧ most < f + s2.steps ∧ l ∈ b.fin.labels ∧ (s2.pile.length : Int) = h l ∧ box2.length = ((box.length : Int) + b.fin.more).toNat) (fun Kx yes => ?_) ?_
    · walk_at "rd"
      refine a_ixT (Dp.mono g1.same q4) atI_0 fun u hu => ?_
      cases hu
      refine ⟨rfl, ?_⟩
      cases ef : b.fin with
      | stop => exact absurd ef hns
      | go l =>
        rw [ef] at eO2 ends hout q4 yes
        rw [if_neg (show ¬ V.str (Fin.go l).word = V.str (Str.ofString "if") by simp only [Fin.word]; decide +kernel)]
        refine ⟨[], u4, .go l, .non, rfl, Tk.nil, by rw [hide_nil]; exact Dp.mono g1.same q4, ?_⟩
        have hl := ends l (List.mem_singleton.mpr rfl)
        refine yes _ _ ⟨l, box, _, rfl, g1, eO2, by show most < f + (s'.steps + 1); omega, List.mem_singleton.mpr rfl, ?_, ?_⟩
        · rw [hl.2, hout]
          show (s'.pile.length : Int) = s'.pile.length + 0
          omega
        · show box.length = ((box.length : Int) + 0).toNat
          omega
      | iff l1 l2 =>
        rw [ef] at eO2 ends hout q4 yes gt
        rw [if_pos (show V.str (Fin.iff l1 l2).word = V.str (Str.ofString "if") from rfl)]
        have hb1 : 1 ≤ box.length := gt
        have etop : topN s'.pile 0 = topN box 0 := by rw [g.pile]; exact topN_box hb1
        refine ⟨_, _, _, g1.ast, T.c_Store, T.n_Store_boxes_full, _, rfl, .inl ⟨rfl, _, SqL.of g1.abf⟩, bf, _, _, rfl, rfl, g1.abf, last_top hb1, ?_⟩
        rw [popped_drop]
        have hpl := popped_len (ns := s'.pile) (by omega)
        have g2 : GoingM K H0 (upd H8 bf (.lst ((popped box).map V.int))) most tp dx wl tl st sdx ce bf ⟨s'.told, s'.ws, popped s'.pile, s'.steps + 1⟩ cel (popped box) :=
          g1.next (Sx.upd (by simp)) g1.nbf ((upd_ne g1.tq).trans g1.atp) ((upd_ne g1.wb).trans g1.awl) ((upd_ne g1.tb).trans g1.atl) ⟨(upd_ne g1.sb).trans g1.ast, upd_same, (upd_ne g1.bc.symm).trans g1.ace, g1.bc⟩ g1.wb g1.tb g1.le g1.told (popped_worths g.pw) g.ww
            (by show (popped s'.pile).length ≤ 1000; omega) (by show popped s'.pile = cel ++ popped box; rw [g.pile]; exact popped_box hb1)
        refine ⟨[], u4, .iff l1 l2, .int (topN box 0), rfl, Tk.nil, by rw [hide_nil]; exact Dp.mono g2.same q4, topN box 0, rfl, ?_⟩
        change runFrom bs most f (if topN s'.pile 0 ≠ 0 then l1 else l2) ⟨s'.told, s'.ws, popped s'.pile, s'.steps + 1⟩ = outcome bs ns most at eO2
        rw [etop] at eO2
        have hl : (if topN box 0 ≠ 0 then l1 else l2) ∈ [l1, l2] := by
          split
          · exact List.mem_cons_self ..
          · exact List.mem_cons_of_mem _ (List.mem_singleton.mpr rfl)
        generalize (if topN box 0 ≠ 0 then l1 else l2) = l at *
        have hl2 := ends l hl
        refine yes _ _ ⟨l, popped box, _, rfl, g2, eO2, by show most < f + (s'.steps + 1); omega, hl, ?_, ?_⟩
        · rw [hl2.2, hout]
          exact hpl
        · have := popped_len hb1
          show (popped box).length = ((box.length : Int) + (-1)).toNat
          omega
    rintro σ' H9 ⟨l, box2, s2, rfl, g2, eO3, hlt2, hll, hh2, hb2⟩
    refine seq_mid (fun σ' H10 => ∃ o10 bf2 cel2 box3, σ' = [some (.ref p), some (.ref tp), some (.ref st), some (.int i), some (.str b.label), some (.int mb.beg), some (.ref ra), some u4, some u5, some (.int done), o10, o11, some (.str l), o13] ∧ GoingM K H0 H10 most tp dx wl tl st sdx ce bf2 s2 cel2 box3 ∧ box3.length = beg l) (fun Kx yes => ?_) ?_
    · refine a_for ?_
      walk_at "rd"
      obtain ⟨ea, es, rfl, hes, hea⟩ := dp_tuple q4
      cases hea with
      | cons hwd hel =>
      cases hwd
      cases DpAll.strs_inv hel
      refine ⟨ea, _, rfl, sqT_same g2.same hes, cut1_not, fun p4 np4 => ?_⟩
      rw [cut1]
      obtain ⟨j, ej, hj⟩ := first_at hll
      obtain ⟨t, et⟩ : ∃ t, mb.tails[j]? = some t := ⟨_, List.getElem?_eq_getElem (by rw [fit.tails]; exact (List.getElem?_eq_some_iff.mp ej).1)⟩
      have gt2 := gtail j l t ej et
      have s4 := same_new (o := HO.tup (b.fin.labels.map V.str)) np4
      have g3 := g2.grow s4
      refine ⟨p4, rfl, b.fin.labels, SqT.of upd_same, j, ej, hj, ?_⟩
      obtain ⟨ta, ts, rfl, hts, hta⟩ := dp_list q5
      obtain ⟨tv, etv, htv⟩ := DpAll.get (i := j) (d := tailD t) hta (by rw [List.getElem?_map, et]; rfl)
      refine .inl ⟨ta, ts, (j : Nat), tv, rfl, rfl, sqL_same g3.same hts, atI_natc etv, ?_⟩
      obtain ⟨xa, xs, rfl, hxs, hxa⟩ := dp_list htv
      have hxl := DpAll.length hxa
      rw [List.length_map] at hxl
      refine ⟨xa, rfl, ⟨xs, sqL_same g3.same hxs⟩, ?_⟩
      generalize upd H9 p4 (HO.tup (b.fin.labels.map V.str)) = H10 at *
      refine for_go2 (walk_list (xs := xs)) (fun k σ Hx => ∃ o10 bf2 cel2 box3, σ = [some (.ref p), some (.ref tp), some (.ref st), some (.int i), some (.str b.label), some (.int mb.beg), some (.ref ra), some (.ref ea), some (.ref ta), some (.int done), o10, o11, some (.str l), o13] ∧ GoingM K H0 Hx most tp dx wl tl st sdx ce bf2 s2 cel2 box3 ∧ Goes B box3.length (h l) ((t.drop k).map MRow.m) [] (beg l) (h l)) ⟨_, bf, cel, box2, rfl, g3, by rw [hb2]; exact gt2⟩ (fun k σ Hx _ q => by
        obtain ⟨_, _, _, _, _, q, _⟩ := q
        exact sqL_same q.same hxs) ?_ ?_
      · rintro Pw3 yes3 k y σ Hx Hx' hk ⟨o10, bf2, cel2, box3, rfl, g4, go4⟩ ⟨e6, ey⟩
        subst e6
        obtain ⟨d, ed, hdd⟩ := DpAll.at hxa ey
        rw [List.getElem?_map] at ed
        have hkl : k < t.length := by omega
        rw [List.getElem?_eq_getElem hkl] at ed
        have hdrop : t.drop k = t[k] :: t.drop (k + 1) := List.drop_eq_getElem_cons hkl
        rw [hdrop, List.map_cons] at go4
        generalize t[k] = mv at *
        cases ed
        have gi := go4.inv
        refine g_name ?_
        walk_at "rd"
        have lp2 : s2.pile.length = cel2.length + box3.length := by rw [g4.pile, List.length_append]
        have ld2 := g4.deep
        have hf : mv = .fill → 1 ≤ cel2.length := fun z => by
          subst z
          have := gi.2.1
          omega
        have hs2 : mv = .spill → 1 ≤ box3.length := fun z => by
          subst z
          exact gi.1
        refine ⟨_, _, g4.ast, rfl, [], st, sdx, bf2, ce, y, mv, box3, cel2, rfl, Tk.nil, by rw [hide_nil]; exact Dp.mono g4.same hdd, g4.store, hf, hs2, by omega, by omega, fun H7 bf' sx nb a => ?_⟩
        refine yes3 _ _ _ ⟨_, bf', _, _, rfl, g4.move hf hs2 sx nb a, ?_⟩
        rw [moved_len hs2]
        cases mv with
        | fill => exact gi.2.2
        | spill => exact gi.2
      · rintro σ Hx ⟨o10, bf2, cel2, box3, rfl, g4, go4⟩
        rw [hxl, List.drop_length] at go4
        exact yes _ _ ⟨_, bf2, cel2, box3, rfl, g4, go4.none.2.1⟩
    rintro σ' H10 ⟨o10, bf2, cel2, box3, rfl, g3, hb3⟩
    walk_at "rd"
    refine a_lc ?_
    walk_at "rd"
    refine ⟨_, _, _, g3.same _ _ c1, T.c_Made, T.n_Made_made_parts, _, rfl, pa, rfl, ⟨pxs, sqL_same g3.same hps⟩, fun D nD => ?_⟩
    have hm6 := mgd.six
    refine lc_data (K := K) (ms := []) (ds := mbs.map MBlk.d) walk_list nD Tk.nil (by rw [List.length_map, sizeLine_eq]; omega) (by rw [hide_nil]; exact DpAll.mono g3.same hpa) (fun H' s => sqL_same (g3.same.trans s) hps) (fun _ => true) (fun d => match d with
      | .tuple (l :: _) => l
      | _ => .none) ?_ ?_
    · rintro y d H' hd s' hD hy
      obtain ⟨m2, hm2, rfl⟩ := List.mem_map.mp hd
      walk_at "rd"
      refine ⟨fun z => z.elim, fun _ => a_ixTh hy atI_0 fun u hu => ?_⟩
      cases hu
      exact ⟨Same.refl _, .str _⟩
    · intro H' ys s' eD hys
      have eds : ((mbs.map MBlk.d).filter fun _ => true).map (fun d => match d with
        | .tuple (l :: _) => l
        | _ => PyData.none) = (mbs.map MBlk.label).map PyData.str := by
        rw [List.filter_eq_self.mpr fun _ _ => rfl, List.map_map, List.map_map]
        rfl
      rw [eds] at hys
      cases DpAll.strs_inv hys
      have labs : bs.map Blk.label = mbs.map MBlk.label := Paired.mapEq _ _ (fun b m hm => hm.label.symm) fm.all
      obtain ⟨b2, hb2m, e2⟩ := get_label (ends l hll).1
      obtain ⟨i2, hi2, ei2⟩ := List.getElem_of_mem hb2m
      have eb2 : bs[i2]? = some b2 := by rw [← ei2]; exact List.getElem?_eq_getElem hi2
      refine ⟨.inl ⟨rfl, _, SqL.of eD⟩, a_index (SqL.of eD) mgd.nodup (j := i2) (by rw [← labs, List.getElem?_map, eb2, ← e2]; rfl) ?_⟩
      refine ⟨f, by omega, bf2, cel2, box3, b2, s2, i2, _, _, _, _, _, _, _, _, _, _, rfl, g3.grow s', by rw [e2]; exact eO3, hlt2, eb2, by rw [e2]; exact hh2, by rw [e2]; exact hb3⟩
end
end Pb

/-! X1 -/
set_option Elab.async false
set_option linter.all false
set_option maxRecDepth 100000
set_option maxHeartbeats 4000000
namespace Pb
open PySem PySem.Spec PyProof.Rows L2
open C8 (Cal Mak Met pe_c pe_mk pe_mt pe_mt0 pe_gc fnScope_by)
/-! short words -/
local macro_rules | `(tactic| walk_at "rd") => `(tactic| try simp only [tVar, tC, tAdd, tSub, t2I, tIsN, tNotN, tB, tAnd, tOr, tNot, tAndV, tOrV, tNotV, tIf, tSeq, tPar, tPar3, tNext, tBreak, tCont, tDrop, tRet, tRetN, tIfS, gName, gNil, gCons, gTup, gSub, tAsg, tAug, ipI, iList, iTup, iRng1, iRng2, iStr, iEnum, iZip,
  tOp, tUn, rI, rI0, rU, tTest, tChain, tFld, sFld, sFldAug, L2.rAdd, L2.rSub, tNil, tCons, tTup, tLst, tCall, tMeth, tMake, tCB, tNoPart, tPart, tSl, tBM0, tBM, tDGet, tDGet1, tDGet2, tDIn, tDNotIn, sDPut, tDNewK, rEq, rNe, scal_ii, scal_ss, scal_bb, scal_nn, scal_ni, scal_in, scal_ns, scal_sn, scal_is, scal_si, List.take_succ_cons, List.take_zero, List.drop_succ_cons, List.drop_zero, upd_same, upd_upd, and_assoc, tKGet, gStar, tDisp, tPairs, tYes,
  L2.start, List.map_cons, List.map_nil, List.length_cons, List.length_nil, List.cons_append, List.nil_append, List.append_nil, List.replicate, Nat.sub_self, Nat.add_sub_cancel, Nat.reduceAdd, Nat.reduceSub, List.set_cons_zero, List.set_cons_succ, List.getElem?_cons_zero, List.getElem?_cons_succ,
  Option.some.injEq, V.int.injEq, V.bl.injEq, V.str.injEq, V.ref.injEq, exists_eq_left', exists_eq_left, exists_eq', exists_eq, true_and, and_true, if_true, if_false, Bool.false_eq_true, List.cons.injEq, Bool.not_true, Bool.not_false, cxK, cxP, cxW, ite_true, ite_false, wipe, reduceCtorEq, and_self, decide_true, decide_false, exists_and_left, exists_const, decide_eq_true_eq])
local macro_rules | `(tactic| walk_at "len") => `(tactic| (intro vs H Q E h; repeat (first | (obtain ⟨e, _⟩ := h; subst e; rfl) | (obtain ⟨_, h⟩ := h))))
local macro_rules | `(tactic| walk_at "wd") => `(tactic| simp (config := {decide := true}) only [V.str.injEq, scal_ss, true_and, if_true, if_false])

/-! the mill -/
def millF (q rl : Addr) (b : Bool) (n : Nat) : List (Str × V) := [("code_made", .ref q), ("rows_told", .ref rl), ("busy", .bl b), ("many", .int (n : Nat))]
def IsMill (K : PySem.W.Frag) (H : Hp) (p dx q rl : Addr) (xs : List V) (b : Bool) (n : Nat) : Prop := H p = some (.ins (He.ga K "Mill") dx (millF q rl b n)) ∧ H rl = some (.lst xs)
theorem hide_sub {H : Hp} {ms : List Addr} : Same (hide H ms) H := fun b o e => (hide_of e).1
def sp_Mill___init__ (K : PySem.W.Frag) : Sp := fun vs H Q _ => ∃ p dx H0 c bs h, ∃ B : Nat, vs = [.ref p, .ref c, .int B] ∧ NewAt H0 H (He.ga K "Mill") p dx ∧ IsCode K H0 c bs h ∧ Good bs h ∧ 3 ≤ B ∧ B ≤ 5 ∧
  ∀ H' q g mbs rl, Same H0 H' → H0 rl = none → IsMill K H' p dx q rl [] false 0 → IsMade K (hide H' [p, rl]) q mbs B → Brought B h bs g mbs → MGood mbs → Q .non H'
def sp_Mill_run (K : PySem.W.Frag) : Sp := fun vs H Q _ => ∃ p dx q rl xs n wv bs h mbs beg ns, ∃ B most : Nat, vs = [.ref p, wv, .int most, .non] ∧ IsMill K H p dx q rl xs false n ∧ xs.length ≤ 1000 ∧ IsMade K (hide H [p, rl]) q mbs B ∧ MGood mbs ∧ Good bs h ∧ FitsM B h bs mbs beg ∧
  IntSeq K (hide H [p, rl]) wv ns ∧ ns.length < sizeLine ∧ Worths ns ∧ most ≤ 100000 ∧ ∀ H' r, Sx [p, rl] H H' → H r = none → IsAns K H H' r (outcome bs ns most) → Q (.ref r) H'
def sp_Mill_made (K : PySem.W.Frag) : Sp := fun vs H Q _ => ∃ p dx q rl xs b n, vs = [.ref p] ∧ IsMill K H p dx q rl xs b n ∧ Q (.ref q) H
section
variable {P : Program} {w : World} {K : PySem.W.Frag} {mg : Str → Option Value} {base : Heap}
theorem ok_Mill_init (T : Tx w K mg) (F_brought : KDef P w K mg base 10 "brought" (sp_brought K) ["code", "boxes"] s_brought [("boxes", .int 3)]) : KMak P w K mg base 11 "Mill" (He.ga K "Mill") (sp_Mill___init__ K) ["self", "code", "boxes"] s_Mill___init__ "Mill.__init__" [("boxes", .int 3)] := by
  refine kmak_of T.mk_Mill T.g_Mill T.D_Mill___init__ sc_Mill___init__ (by walk_at "len") fun cdv A outer s H vs Q E hr h => ?_
  refine ⟨_, (pss_cons (ps_fld (pv 0) (pe_callKD F_brought hr (by decide) (by rfl) 1 ["boxes"] [] (fun us mv ws => (us ++ ws)) (fun z => by cases z) (fun q hq => by simp at hq) (fun r1 r2 r3 => (r1.append r3)) (fun _ _ _ _ _ _ us mv ws l1 l2 l3 => match us, mv, ws, l1, l2, l3 with | [_], [], [_], _, _, _ => (by (show _ = _); rfl)) (pa_cons (pv 1) pa_nil) (pk_cons (pv 2) pk_nil)) rfl)
    (pss_cons (ps_fld (pv 0) (pe_lst pa_nil) rfl)
    (pss_cons (ps_fld (pv 0) pe_bl rfl)
    (pss_one (ps_fld (pv 0) pe_int rfl))))), ?_⟩
  obtain ⟨p, dx, H0, c, bs, h, B, rfl, hn, hc, G, b1, b2, k⟩ := h
  walk_at "rd"
  unfold L2.tCallN
  walk_at "rd"
  have np : p ∉ ([] : List Addr) := fun z => nomatch z
  have tk : Tk H [p] := Tk.cons hn.at Tk.nil
  have s0 : Same H0 (hide H [p]) := fun b o e => by
    rw [hide_at fun z => by rw [List.mem_singleton.mp z, hn.2.1] at e; cases e]
    exact hn.same b o e
  refine ⟨[p], c, bs, h, B, rfl, tk, hc.mono s0, G, b1, b2, fun H1 q g mbs s1 hq im br mg' => ?_⟩
  have hp1 := s1 _ _ hn.at
  refine ⟨_, _, _, hp1, T.c_Mill, T.n_Mill_code_made, by show 0 < 1000; decide, by decide, fun rl hrl => ?_⟩
  have nrp : p ≠ rl := fun z => by rw [← z, upd_same] at hrl; cases hrl
  have hrl1 : H1 rl = none := by rw [upd_ne (Ne.symm nrp)] at hrl; exact hrl
  refine ⟨_, _, _, (upd_ne nrp).trans upd_same, T.c_Mill, T.n_Mill_rows_told, by show 1 < 1000; decide, _, _, _, rfl, T.c_Mill, T.n_Mill_busy, by show 2 < 1000; decide, _, _, _, rfl, T.c_Mill, T.n_Mill_many, by show 3 < 1000; decide, ?_⟩
  refine k _ q g mbs rl (fun b o e => ?_) (hn.same.free (s1.free hrl1)) ⟨upd_same.trans rfl, ?_⟩ (im.mono fun b o e => ?_) br mg'
  · have nb : b ≠ p := fun z => by rw [z, hn.2.1] at e; cases e
    have e1 := s1 _ _ (hn.same _ _ e)
    have nr : b ≠ rl := fun z => by rw [z, hrl1] at e1; cases e1
    rw [upd_ne nb, upd_ne nr, upd_ne nb]
    exact e1
  · rw [upd_ne (Ne.symm nrp), upd_same]
  · obtain ⟨e1, e2⟩ := hide_of e
    have nb : b ≠ p := fun z => e2 (List.mem_singleton.mpr z)
    have nr : b ≠ rl := fun z => by rw [z, hrl1] at e1; cases e1
    rw [hide_at (by simp [nb, nr]), upd_ne nb, upd_ne nr, upd_ne nb]
    exact e1
theorem ok_Mill_run (T : Tx w K mg) (F_check_run : Cal P w K mg base 4 "check_run" (sp_check_run K) []) (M_Tally : Mak P w K mg base 1 "Tally" (He.ga K "Tally") (sp_Tally___init__ K) []) (F_run_heard : Cal P w K mg base 4 "run_heard" (sp_run_heard K) []) : KMet P w K mg base 5 (He.ga K "Mill") "run" (sp_Mill_run K) ["self", "worths", "most", "heard"] s_Mill_run "Mill.run" [("worths", .ref (kwdAt (He.ma K (He.ga K "Mill") "run") "worths" K)), ("most", .int 500), ("heard", .non)] := by
  refine kmet_of T.c_Mill T.me_Mill_run T.D_Mill_run sc_Mill_run (by walk_at "len") fun cdv A outer s H vs Q E hr h => ?_
  refine ⟨_, (pss_cons (ps_if (pt_val (pe_fldK (K := K) (pv 0) rfl)) (pss_one ps_never) pss_nil)
    (pss_cons (ps_fld (pv 0) pe_bl rfl)
    (pss_cons (ps_expr (pe_bm PySem.F.plainAttrs_list PySem.F.slot_list_append PySem.F.type_list_append mt_append (pe_fldK (K := K) (pv 0) rfl) (pa_cons (pe_tup (pa_cons pe_str (pa_cons (pe_fldK (K := K) (pv 0) rfl) pa_nil))) pa_nil)))
    (pss_one (ps_xRetFin (by rfl) (pe_c F_check_run hr (by decide) (by rfl) (pa_cons (pv 1) (pa_cons (pv 2) pa_nil))) (pe_c F_run_heard hr (by decide) (by rfl) (pa_cons (pe_fldK (K := K) (pv 0) rfl) (pa_cons (pe_mk M_Tally hr (by decide) (by rfl) (pa_cons (pv 1) (pa_cons (pv 2) (pa_cons (pv 3) pa_nil)))) pa_nil))) (pss_cons (ps_fld (pv 0) pe_bl rfl)
    (pss_cons (ps_fldaug (pv 0) pe_int in_add)
    (pss_one (ps_expr (pe_bm PySem.F.plainAttrs_list PySem.F.slot_list_append PySem.F.type_list_append mt_append (pe_fldK (K := K) (pv 0) rfl) (pa_cons (pe_tup (pa_cons pe_str (pa_cons (pe_fldK (K := K) (pv 0) rfl) pa_nil))) pa_nil))))))))))), ?_⟩
  obtain ⟨p, dx, q, rl, xs, n, wv, bs, h, mbs, beg, ns, B, most, rfl, im, hx, hq, mgd, G, fm, hw, hz, hws, hm, k⟩ := h
  walk_at "rd"
  refine ⟨_, _, _, im.1, T.c_Mill, T.n_Mill_busy, _, rfl, _, rfl, ?_⟩
  rw [if_neg (by decide)]
  walk_at "rd"
  refine ⟨_, _, _, im.1, T.c_Mill, T.n_Mill_busy, by show 4 < 1000; decide, ?_⟩
  simp only [tXRetFin]
  walk_at "rd"
  obtain ⟨imp, imr⟩ := im
  have nrp : rl ≠ p := fun z => by rw [z, imp] at imr; cases imr
  have hr1 : upd H p (HO.ins (He.ga K "Mill") dx (putF "busy" (V.bl true) (millF q rl false n))) rl = some (.lst xs) := (upd_ne nrp).trans imr
  refine ⟨_, _, _, rfl, T.c_Mill, T.n_Mill_rows_told, _, rfl, .inl ⟨rfl, xs, SqL.of hr1⟩, _, _, _, rfl, T.c_Mill, T.n_Mill_many, _, rfl, by decide, fun t ht => ?_⟩
  have ntp : t ≠ p := fun z => by rw [z, upd_same] at ht; cases ht
  have ht0 : H t = none := (upd_ne ntp).symm.trans ht
  have ntr : t ≠ rl := fun z => by rw [z, imr] at ht0; cases ht0
  refine ⟨rl, xs, _, rfl, rfl, (upd_ne (Ne.symm ntr)).trans hr1, by rw [sizeLine_eq]; omega, ?_⟩
  generalize eH2 : upd (upd (upd H p (HO.ins (He.ga K "Mill") dx (putF "busy" (V.bl true) (millF q rl false n)))) t (HO.tup [V.str "begun", V.int n])) rl (HO.lst (xs ++ [V.ref t])) = H2
  have sx2 : Sx [p, rl] H H2 := by
    rw [← eH2]
    exact ((Sx.upd (by simp)).trans (Sx.new ht)).trans (Sx.upd (by simp))
  have at2 : H2 p = some (.ins (He.ga K "Mill") dx (millF q rl true n)) := by
    rw [← eH2, upd_ne (Ne.symm nrp), upd_ne (Ne.symm ntp), upd_same]
    rfl
  have ar2 : H2 rl = some (.lst (xs ++ [V.ref t])) := by rw [← eH2, upd_same]
  have sh : Same (hide H [p, rl]) H2 := (sx2.hide fun _ h => h).trans hide_sub
  have hw2 := hw.mono sh
  have hq2 := hq.mono sh
  clear eH2 hr1 ht
  refine ⟨[], wv, ns, most, rfl, Tk.nil, by rw [hide_nil]; exact hw2, hz, hws, by omega, by omega, fun H3 s3 => ?_⟩
  refine ⟨_, _, _, s3 _ _ at2, T.c_Mill, T.n_Mill_code_made, _, rfl, fun tp dx2 htp hdx hne => ?_⟩
  refine ⟨tp, dx2, H3, wv, ns, most, .non, rfl, ⟨rfl, htp, hdx, hne⟩, hw2.mono s3, fun H4 wl tl s4 hwl htl nwt at4 aw4 al4 => ⟨rfl, q, tp, dx2, wl, tl, bs, h, mbs, beg, ns, H3, B, most, rfl, s4, htp, hwl, htl, nwt, at4, aw4, al4, hq2.mono s3, mgd, G, fm, hws, hm, fun H5 r s5 hr5 an => ?_⟩⟩
  have at5 := s5 _ _ (s3 _ _ at2)
  have ar5 := s5 _ _ (s3 _ _ ar2)
  refine ⟨_, _, _, at5, T.c_Mill, T.n_Mill_busy, by show 4 < 1000; decide, ?_⟩
  refine ⟨_, _, _, rfl, T.c_Mill, T.n_Mill_many, _, rfl, _, rfl, _, _, rfl, by show 4 < 1000; decide, _, _, _, rfl, T.c_Mill, T.n_Mill_rows_told, _, rfl, .inl ⟨rfl, _, SqL.of ((upd_ne nrp).trans ar5)⟩, _, _, _, rfl, T.c_Mill, T.n_Mill_many, _, rfl, by decide, fun t6 ht6 => ?_⟩
  have nt6 : t6 ≠ p := fun z => by rw [z, upd_same] at ht6; cases ht6
  have ht60 : H5 t6 = none := (upd_ne nt6).symm.trans ht6
  have nr6 : t6 ≠ rl := fun z => by rw [z, ar5] at ht60; cases ht60
  refine ⟨rl, xs ++ [.ref t], _, rfl, rfl, (upd_ne (Ne.symm nr6)).trans ((upd_ne nrp).trans ar5), by rw [List.length_append, List.length_singleton, sizeLine_eq]; omega, ?_⟩
  have s23 : Sx [p, rl] H H5 := sx2.trans (Sx.of (s3.trans s5))
  have r0 : H r = none := by
    cases e : H r with
    | none => rfl
    | some o =>
      exfalso
      by_cases hm : r ∈ [p, rl]
      · rcases List.mem_cons.mp hm with z | z
        · rw [z, s3 _ _ at2] at hr5; cases hr5
        · rw [List.mem_singleton.mp z, s3 _ _ ar2] at hr5; cases hr5
      · rw [s3 _ _ (sx2 r o hm e)] at hr5; cases hr5
  have old : ∀ b, H3 b = none → H b = none ∧ b ≠ p ∧ b ≠ rl := fun b hb => by
    have n1 : b ≠ p := fun z => by rw [z, s3 _ _ at2] at hb; cases hb
    have n2 : b ≠ rl := fun z => by rw [z, s3 _ _ ar2] at hb; cases hb
    refine ⟨?_, n1, n2⟩
    cases e : H b with
    | none => rfl
    | some o =>
      rw [s3 _ _ (sx2 b o (by simp [n1, n2]) e)] at hb
      cases hb
  have fin : ∀ (H6 : Hp), (∀ b o, b ≠ p → b ≠ rl → H5 b = some o → H6 b = some o) → IsAns K H H6 r (outcome bs ns most) := fun H6 f => by
    obtain ⟨_, n1, n2⟩ := old r hr5
    generalize outcome bs ns most = o at an
    cases o with
    | ran told pile m =>
      obtain ⟨d, tl2, pl2, a1, a2, a3, a4, a5, a6⟩ := an
      obtain ⟨o1, o2, o3⟩ := old _ a2
      obtain ⟨q1, q2, q3⟩ := old _ a3
      exact ⟨d, tl2, pl2, f _ _ n1 n2 a1, o1, q1, a4, f _ _ o2 o3 a5, f _ _ q2 q3 a6⟩
    | dry told l i =>
      obtain ⟨d, tl2, a1, a2, a3⟩ := an
      obtain ⟨o1, o2, o3⟩ := old _ a2
      exact ⟨d, tl2, f _ _ n1 n2 a1, o1, f _ _ o2 o3 a3⟩
    | spent told =>
      obtain ⟨d, tl2, a1, a2, a3⟩ := an
      obtain ⟨o1, o2, o3⟩ := old _ a2
      exact ⟨d, tl2, f _ _ n1 n2 a1, o1, f _ _ o2 o3 a3⟩
  refine k _ r (s23.trans (((Sx.upd (by simp)).trans (Sx.new ht6)).trans (Sx.upd (by simp)))) r0 (fin _ fun b o n1 n2 e => ?_)
  rw [upd_ne n2, upd_ne (fun z => by rw [z, ht60] at e; cases e), upd_ne n1]
  exact e
theorem ok_Mill_made (T : Tx w K mg) : Met P w K mg base 1 (He.ga K "Mill") "made" (sp_Mill_made K) [] := by
  refine met_of T.c_Mill T.me_Mill_made T.D_Mill_made sc_Mill_made (fun _ _ _ _ _ _ us hl => match us, hl with | [_], _ => rfl) (by walk_at "len") fun cdv A outer s H vs Q E hr h => ?_
  refine ⟨_, (pss_one (ps_ret (pe_fldK (K := K) (pv 0) rfl))), ?_⟩
  obtain ⟨p, dx, q, rl, xs, b, n, rfl, im, k⟩ := h
  walk_at "rd"
  exact ⟨_, _, _, im.1, T.c_Mill, T.n_Mill_code_made, _, rfl, k⟩
end
end Pb

/-! X2 -/
set_option Elab.async false
set_option linter.all false
set_option maxRecDepth 100000
set_option maxHeartbeats 4000000
namespace Pb
open PySem PySem.Spec PyProof.Rows L2
open C8 (Cal Mak Met pe_c pe_mk pe_mt pe_mt0 pe_gc fnScope_by)
/-! short words -/
local macro_rules | `(tactic| walk_at "rd") => `(tactic| try simp only [tVar, tC, tAdd, tSub, t2I, tIsN, tNotN, tB, tAnd, tOr, tNot, tAndV, tOrV, tNotV, tIf, tSeq, tPar, tPar3, tNext, tBreak, tCont, tDrop, tRet, tRetN, tIfS, gName, gNil, gCons, gTup, gSub, tAsg, tAug, ipI, iList, iTup, iRng1, iRng2, iStr, iEnum, iZip,
  tOp, tUn, rI, rI0, rU, tTest, tChain, tFld, sFld, sFldAug, L2.rAdd, L2.rSub, tNil, tCons, tTup, tLst, tCall, tMeth, tMake, tCB, tNoPart, tPart, tSl, tBM0, tBM, tDGet, tDGet1, tDGet2, tDIn, tDNotIn, sDPut, tDNewK, rEq, rNe, scal_ii, scal_ss, scal_bb, scal_nn, scal_ni, scal_in, scal_ns, scal_sn, scal_is, scal_si, List.take_succ_cons, List.take_zero, List.drop_succ_cons, List.drop_zero, upd_same, upd_upd, and_assoc, tKGet, gStar, tDisp, tPairs, tYes,
  L2.start, List.map_cons, List.map_nil, List.length_cons, List.length_nil, List.cons_append, List.nil_append, List.append_nil, List.replicate, Nat.sub_self, Nat.add_sub_cancel, Nat.reduceAdd, Nat.reduceSub, List.set_cons_zero, List.set_cons_succ, List.getElem?_cons_zero, List.getElem?_cons_succ,
  Option.some.injEq, V.int.injEq, V.bl.injEq, V.str.injEq, V.ref.injEq, exists_eq_left', exists_eq_left, exists_eq', exists_eq, true_and, and_true, if_true, if_false, Bool.false_eq_true, List.cons.injEq, Bool.not_true, Bool.not_false, cxK, cxP, cxW, ite_true, ite_false, wipe, reduceCtorEq, and_self, decide_true, decide_false, exists_and_left, exists_const, decide_eq_true_eq])
local macro_rules | `(tactic| walk_at "len") => `(tactic| (intro vs H Q E h; repeat (first | (obtain ⟨e, _⟩ := h; subst e; rfl) | (obtain ⟨_, h⟩ := h))))
local macro_rules | `(tactic| walk_at "wd") => `(tactic| simp (config := {decide := true}) only [V.str.injEq, scal_ss, true_and, if_true, if_false])

/-! words, joins, the parts that can stand at a place -/
structure WordsOk (lo hi : Nat) (ws : List Str) : Prop where
  lo : lo ≤ ws.length
  hi : ws.length ≤ hi
  all : ∀ x ∈ ws, x ∈ c_WORDS
abbrev Join : Type := List Str × Int
def joinD (j : Join) : PyData := .tuple [.tuple (j.1.map .str), .int j.2]
def joinsD (js : List Join) : PyData := .list (js.map joinD)
def wordsD (ws : List Str) : PyData := .list (ws.map .str)
structure JoinOk (j : Join) : Prop where
  row : WordsOk 2 4 j.1
  cost : 1 ≤ j.2 ∧ j.2 ≤ 9
/-- a part: a join's count or none, how many words, the cost -/
abbrev Part : Type := Option Nat × Nat × Int
def countD : Option Nat → PyData
  | some i => .int (i : Nat)
  | none => .none
def countV : Option Nat → V
  | some i => .int (i : Nat)
  | none => .non
def partD (p : Part) : PyData := .tuple [countD p.1, .int (p.2.1 : Nat), .int p.2.2]
def joinsAt (ws : List Str) (at_ : Nat) : Nat → List Join → List Part
  | _, [] => []
  | i, j :: js => (if (ws.drop at_).take j.1.length = j.1 then [(some i, j.1.length, j.2)] else []) ++ joinsAt ws at_ (i + 1) js
def partsAt (ws : List Str) (js : List Join) (one : Int) (at_ : Nat) : List Part := (if at_ < ws.length then [(none, 1, one)] else []) ++ joinsAt ws at_ 0 js
def sp_are_words (K : PySem.W.Frag) : Sp := fun vs H Q _ => ∃ ms v ws, ∃ lo hi : Nat, vs = [v, .int lo, .int hi] ∧ Tk H ms ∧ (Dp K (hide H ms) v (.list (ws.map .str)) ∨ Dp K (hide H ms) v (.tuple (ws.map .str))) ∧ WordsOk lo hi ws ∧ hi ≤ 1000 ∧ ∀ H', Same H H' → Q (.bl true) H'
def sp_is_join (K : PySem.W.Frag) : Sp := fun vs H Q _ => ∃ ms v j, vs = [v] ∧ Tk H ms ∧ Dp K (hide H ms) v (joinD j) ∧ JoinOk j ∧ ∀ H', Same H H' → Q (.bl true) H'
def sp_parts_at (K : PySem.W.Frag) : Sp := fun vs H Q _ => ∃ ms v u ws js one, ∃ at_ : Nat, vs = [v, u, .int one, .int at_] ∧ Tk H ms ∧ Dp K (hide H ms) v (wordsD ws) ∧ Dp K (hide H ms) u (joinsD js) ∧ ws.length ≤ 1000 ∧ js.length ≤ 1000 ∧ (∀ j ∈ js, j.1.length ≤ 1000) ∧ at_ ≤ 1000 ∧ (∀ x ∈ ws, x ∈ c_WORDS) ∧ (∀ j ∈ js, ∀ x ∈ j.1, x ∈ c_WORDS) ∧
  ∀ H' q, Same H H' → H q = none → Dp K (hide H' ms) (.ref q) (.list ((partsAt ws js one at_).map partD)) → Q (.ref q) H'
def coverF (pl nl : Addr) : List (Str × V) := [("parts", .ref pl), ("numbers", .ref nl)]
def sp_Cover___init__ (K : PySem.W.Frag) : Sp := fun vs H Q _ => ∃ p dx H0 a b xs ys, vs = [.ref p, .ref a, .ref b] ∧ NewAt H0 H (He.ga K "Cover") p dx ∧ SqL K H0 a xs ∧ SqL K H0 b ys ∧
  ∀ H' pl nl, Same H0 H' → H0 pl = none → H0 nl = none → pl ≠ nl → H' p = some (.ins (He.ga K "Cover") dx (coverF pl nl)) → H' pl = some (.lst xs) → H' nl = some (.lst ys) → Q .non H'
theorem eqv_strs : ∀ a b : List Str, PyData.eqv (.tuple (a.map .str)) (.tuple (b.map .str)) = decide (a = b)
  | [], [] => by simp [PyData.eqv, PyData.eqvAll]
  | [], _ :: _ => by simp [PyData.eqv, PyData.eqvAll]
  | _ :: _, [] => by simp [PyData.eqv, PyData.eqvAll]
  | x :: a, y :: b => by
    have ih := eqv_strs a b
    simp only [PyData.eqv, PyData.eqvAll, List.map_cons, List.cons.injEq] at ih ⊢
    rw [ih]
    by_cases h1 : x = y <;> by_cases h2 : a = b <;> simp [h1, h2]
theorem joinsAt_snoc (ws : List Str) (a : Nat) (j : Join) : ∀ (js : List Join) (i : Nat), joinsAt ws a i (js ++ [j]) = joinsAt ws a i js ++ (if (ws.drop a).take j.1.length = j.1 then [(some (i + js.length), j.1.length, j.2)] else [])
  | [], i => by simp [joinsAt]
  | k :: js, i => by
    rw [List.cons_append, joinsAt, joinsAt, joinsAt_snoc ws a j js (i + 1), List.append_assoc, List.length_cons, show i + 1 + js.length = i + (js.length + 1) by omega]
theorem words_ok {x : Str} (h : x ∈ c_WORDS) : PyData.strOk x = true := by
  have k : ∀ x ∈ c_WORDS, PyData.strOk x = true := by decide +kernel
  exact k x h
theorem a_t22V {K : PySem.W.Frag} {H : Hp} {σ : L2.St} {Q : L2.St → Hp → Prop} {i j k : Nat} {p q : Addr} {u v x : V} (h : SqT K H p [u, .ref q]) (h2 : SqT K H q [v, x]) (r : Q (((σ.set i (some u)).set j (some v)).set k (some x)) H) :
    gT K 2 (gCons (gName i) (gCons (gT K 2 (gCons (gName j) (gCons (gName k) gNil))) gNil)) (.ref p) σ H Q := ⟨p, _, rfl, h, rfl, _, _, rfl, _, _, rfl, ⟨q, _, rfl, h2, rfl, _, _, rfl, _, _, rfl, rfl, rfl, r⟩⟩
section
variable {P : Program} {w : World} {K : PySem.W.Frag} {mg : Str → Option Value} {base : Heap}
theorem ok_are_words (T : Tx w K mg) : Cal P w K mg base 1 "are_words" (sp_are_words K) [] := by
  refine cal_of T.D_are_words T.g_are_words sc_are_words (fun _ _ _ _ _ _ us hl => match us, hl with | [_, _, _], _ => rfl) (by walk_at "len") fun cdv A outer s H vs Q E hr h => ?_
  refine ⟨_, (pss_one (ps_ret (pe_and (pe_chain op_le op_le (pv 1) (pe_callB (r := rLenQ K) call_lenQ (by rfl) T.b_len (by decide +kernel) (pa_cons (pv 0) pa_nil)) (pv 2)) (pe_one (pe_callB (r := rAll K) (cr_all rfl) (by rfl) T.b_all (by decide +kernel) (pa_cons (pe_lc rfl sc_are_words.nd (pi_seq (K := K) (pv 0)) (blkOk_by (own := [("word", 3)]) (N := ["thing", "least", "most", "word"]) (sc := L2.defScope s_are_words) (by decide +kernel)) (fun _ _ _ _ _ => (pg_m (pg_name (i := 3) sc_are_words.nd rfl (by first | exact Or.inl rfl | exact Or.inr rfl)))) (fun _ _ _ _ _ => pts_nilM) (fun _ _ _ _ _ => (pe_m (pe_and (pe_callB (r := rIsi K) call_isi (by rfl) T.b_isinstance (by decide +kernel) (pa_cons (pv 3) (pa_cons (pe_bltn (v := .ty "str") (by rfl) T.b_str (by decide +kernel) rfl) pa_nil))) (pe_one (pe_cmpR (r := rIn K false) op_in_seq (pv 3) (pe_gc (by rfl) T.v_WORDS) (by rfl))))))) pa_nil)))))), ?_⟩
  obtain ⟨ms, v, ws, lo, hi, rfl, tk, hd, ok, hb, k⟩ := h
  walk_at "rd"
  obtain ⟨a, rfl, hs⟩ : ∃ a, v = .ref a ∧ (SqL K H a (ws.map V.str) ∨ SqT K H a (ws.map V.str)) := by
    rcases hd with hd | hd
    · obtain ⟨a, xs, rfl, h1, h2⟩ := dp_list hd
      rw [DpAll.strs_inv h2] at h1
      exact ⟨a, rfl, .inl (sqL_same same_show h1)⟩
    · obtain ⟨a, xs, rfl, h1, h2⟩ := dp_tuple hd
      rw [DpAll.strs_inv h2] at h1
      exact ⟨a, rfl, .inr (sqT_same same_show h1)⟩
  have lenQ : ∀ {R : VK}, R (.int (ws.length : Nat)) H → rLenQ K [.ref a] H R := fun {R} q => by
    rcases hs with hs | hs
    · have e := a_lenL (K := K) (H := H) (v := .ref a) (ds := ws.map PyData.str) (.lst hs (DpAll.strs ws)) (Q := R)
      rw [List.length_map] at e
      exact e q
    · have e := a_lenT (K := K) (H := H) (v := .ref a) (ds := ws.map PyData.str) (.tup hs (DpAll.strs ws)) (Q := R)
      rw [List.length_map] at e
      exact e q
  have o1 := ok.lo
  have o2 := ok.hi
  refine lenQ ⟨_, rfl, ?_⟩
  rw [if_pos (by omega)]
  refine ⟨_, rfl, ?_⟩
  rw [if_pos (by omega)]
  refine a_lc ?_
  have fin : ∀ (J : It) (G : Hp → Prop), Walk J (ws.map V.str).length G (YAt (ws.map V.str)) → (∀ H2, Same H H2 → G H2) → ∀ D, H D = none → LcGoal (gName 3) tYes (tAndV (tCB (rIsi K) (tCons (tVar 3) (tCons (tC (V.ty "str")) tNil))) (tOp (rIn K false) (tVar 3) (tC (V.ref (He.ga K "WORDS"))))) [3] [some (V.ref a), some (V.int lo), some (V.int hi), none] J H D fun H' => rAll K [V.ref D] H' Q := by
    intro J G wk hG D hD
    refine lc_data (K := K) (ds := ws.map PyData.str) (ms := []) wk hD Tk.nil (by rw [List.length_map, sizeLine_eq]; omega) (by rw [hide_nil]; exact DpAll.strs ws) hG (fun _ => true) (fun _ => .bool true) (fun y d H4 hd4 s4 hD4 hy => ?_) (fun H4 ys s4 e4 hys => ?_)
    · obtain ⟨n, hn, rfl⟩ := List.mem_map.mp hd4
      cases hy
      walk_at "rd"
      refine ⟨fun z => z.elim, fun _ => ?_⟩
      refine a_isi (.str n) (kit_str _) ⟨_, rfl, ?_⟩
      rw [if_pos (by rfl)]
      refine a_in_strs (neg := false) (.inr (T.t_WORDS _)) ?_
      rw [if_neg (by decide), decide_eq_true (ok.all n hn)]
      exact ⟨Same.refl _, .bl true⟩
    · rw [List.filter_eq_self.mpr fun _ _ => rfl] at hys
      have e2 : (ws.map PyData.str).map (fun _ => PyData.bool true) = (ws.map fun _ => true).map PyData.bool := by rw [List.map_map, List.map_map]; rfl
      rw [e2] at hys
      refine a_all (bs := ws.map fun _ => true) (.lst (SqL.of e4) (DpAll.mono same_show hys)) ?_
      have e3 : (ws.map fun _ => true).all id = true := by simp
      rw [e3]
      exact k _ s4
  unfold iSeq
  walk_at "rd"
  rcases hs with hs | hs
  · exact .inl ⟨⟨_, hs⟩, fun D hD => fin _ _ walk_list (fun H2 s2 => sqL_same s2 hs) D hD⟩
  · exact .inr ⟨⟨_, hs⟩, fun D hD => fin _ _ walk_tup (fun H2 s2 => sqT_same s2 hs) D hD⟩
theorem ok_is_join (T : Tx w K mg) (F_are_words : Cal P w K mg base 1 "are_words" (sp_are_words K) []) (F_within : Cal P w K mg base 2 "within" (sp_within K) []) : Cal P w K mg base 3 "is_join" (sp_is_join K) [] := by
  refine cal_of T.D_is_join T.g_is_join sc_is_join (fun _ _ _ _ _ _ us hl => match us, hl with | [_], _ => rfl) (by walk_at "len") fun cdv A outer s H vs Q E hr h => ?_
  refine ⟨_, (pss_cons (ps_if (PW.pt (pw_or (pt_not (pt_val (pe_callB (r := rIsi K) call_isi (by rfl) T.b_isinstance (by decide +kernel) (pa_cons (pv 0) (pa_cons (pe_bltn (v := .ty "tuple") (by rfl) T.b_tuple (by decide +kernel) rfl) pa_nil))))) (pw_or (pt_cmpR op_ne (pe_callB (r := rLenQ K) call_lenQ (by rfl) T.b_len (by decide +kernel) (pa_cons (pv 0) pa_nil)) pe_int (nomark _)) (pw_or1 (pt_not (pt_val (pe_callB (r := rIsi K) call_isi (by rfl) T.b_isinstance (by decide +kernel) (pa_cons (pe_ix (r := rIx K) ix_seq (pv 0) pe_int (fun _ _ => rfl)) (pa_cons (pe_bltn (v := .ty "tuple") (by rfl) T.b_tuple (by decide +kernel) rfl) pa_nil))))))))) (pss_one (ps_ret pe_bl)) pss_nil)
    (pss_one (ps_ret (pe_and (pe_c F_are_words hr (by decide) (by rfl) (pa_cons (pe_ix (r := rIx K) ix_seq (pv 0) pe_int (fun _ _ => rfl)) (pa_cons pe_int (pa_cons (pe_gc (by rfl) T.v_LONGEST_JOIN) pa_nil)))) (pe_one (pe_c F_within hr (by decide) (by rfl) (pa_cons (pe_ix (r := rIx K) ix_seq (pv 0) pe_int (fun _ _ => rfl)) (pa_cons pe_int (pa_cons (pe_gc (by rfl) T.v_MOST_COST) pa_nil))))))))), ?_⟩
  obtain ⟨ms, v, j, rfl, tk, hd, ok, k⟩ := h
  walk_at "rd"
  have hd0 := Dp.mono same_show hd
  unfold joinD at hd hd0
  refine a_isi hd0 (kit_tuple _) ⟨_, rfl, ?_⟩
  rw [if_neg (by simp [isTuple])]
  refine a_lenT hd0 ⟨rfl, ?_⟩
  rw [if_neg (by simp)]
  refine a_ixT hd0 atI_0 fun u hu => ?_
  refine a_isi hu (kit_tuple _) ⟨_, rfl, ?_⟩
  rw [if_neg (by simp [isTuple])]
  refine a_ixTh hd atI_0 fun u2 hu2 => ?_
  refine ⟨ms, u2, j.1, 2, 4, rfl, tk, .inr hu2, ok.row, by decide, fun H1 s1 => ⟨_, rfl, ?_⟩⟩
  rw [if_pos rfl]
  refine a_ixTh (Dp.mono (Same.hide s1 ms) hd) atI_1 fun u3 hu3 => ?_
  refine ⟨ms, u3, _, 1, 9, rfl, tk.same s1, hu3, fun H2 s2 => ?_⟩
  have e : within (.int j.2) 1 9 = true := by
    show (decide (1 ≤ j.2) && decide (j.2 ≤ 9)) = true
    rw [decide_eq_true ok.cost.1, decide_eq_true ok.cost.2]; rfl
  rw [e]
  exact k _ (s1.trans s2)
theorem ok_parts_at (T : Tx w K mg) : Cal P w K mg base 1 "parts_at" (sp_parts_at K) [] := by
  refine cal_of T.D_parts_at T.g_parts_at sc_parts_at (fun _ _ _ _ _ _ us hl => match us, hl with | [_, _, _, _], _ => rfl) (by walk_at "len") fun cdv A outer s H vs Q E hr h => ?_
  refine ⟨_, (pss_cons (ps_set (i := 4) sc_parts_at.nd rfl (by first | exact Or.inl rfl | exact Or.inr rfl) (pe_ifExp (pt_cmpR op_lt (pv 3) (pe_callB (r := rLenQ K) call_lenQ (by rfl) T.b_len (by decide +kernel) (pa_cons (pv 0) pa_nil)) (nomark _)) (pe_lst (pa_cons (pe_tup (pa_cons pe_non (pa_cons pe_int (pa_cons (pv 2) pa_nil)))) pa_nil)) (pe_lst pa_nil)))
    (pss_cons (ps_for PassesOwn.never rfl (pi_enum (by rfl) T.b_enumerate (pa_cons (pv 1) pa_nil)) (pg_tupK (K := K) (n := 2) rfl (pgs_cons (pg_name (i := 5) sc_parts_at.nd rfl (by first | exact Or.inl rfl | exact Or.inr rfl)) (pgs_cons (pg_tupK (K := K) (n := 2) rfl (pgs_cons (pg_name (i := 6) sc_parts_at.nd rfl (by first | exact Or.inl rfl | exact Or.inr rfl)) (pgs_cons (pg_name (i := 7) sc_parts_at.nd rfl (by first | exact Or.inl rfl | exact Or.inr rfl)) pgs_nil))) pgs_nil))) (pss_one (ps_if (pt_cmpR (r := rEqD K) (op_eqD hr.units) (pe_callTy (r := rTupOf K) call_tupOf (by rfl) T.b_tuple (by decide +kernel) (pa_cons (pe_slice (r := rSlL K) sl_list (pv 0) (po_some (pv 3)) (po_some (pe_op op_add (pv 3) (pe_callB (r := rLenQ K) call_lenQ (by rfl) T.b_len (by decide +kernel) (pa_cons (pv 6) pa_nil))))) pa_nil)) (pv 6) (nomark _)) (pss_one (ps_expr (pe_bm PySem.F.plainAttrs_list PySem.F.slot_list_append PySem.F.type_list_append mt_append (pv 4) (pa_cons (pe_tup (pa_cons (pv 5) (pa_cons (pe_callB (r := rLenQ K) call_lenQ (by rfl) T.b_len (by decide +kernel) (pa_cons (pv 6) pa_nil)) (pa_cons (pv 7) pa_nil)))) pa_nil)))) pss_nil)))
    (pss_one (ps_ret (pv 4))))), ?_⟩
  obtain ⟨ms, v, u, ws, js, one, at_, rfl, tk, hv, hu, l1, l2, l3, l4, g1, g2, k⟩ := h
  walk_at "rd"
  have hv0 := Dp.mono same_show hv
  refine a_lenL hv0 ⟨_, rfl, ?_⟩
  rw [List.length_map]
  obtain ⟨wa, xs, rfl, hwl, hwa⟩ := dp_list hv
  have e := DpAll.strs_inv hwa
  subst e
  obtain ⟨ja, jx, rfl, hjl, hja⟩ := dp_list hu
  have hjlen := DpAll.length hja
  rw [List.length_map] at hjlen
  have loop : ∀ (H1 : Hp) (f : Addr) (xs0 : List V) (base : List Part), Same H H1 → H f = none → H1 f = some (.lst xs0) → base.length ≤ 1 → base = (if at_ < ws.length then [(none, 1, one)] else []) → DpAll K (hide H1 (f :: ms)) xs0 (base.map partD) →
      tFor (iEnum K (tCons (tVar 1) tNil)) (gT K 2 (gCons (gName 5) (gCons (gT K 2 (gCons (gName 6) (gCons (gName 7) gNil))) gNil)))
        (tIfS (tTest (tOp (rEqD K) (tCB (rTupOf K) (tCons (tSl (rSlL K) (tVar 0) (tPart (tVar 3)) (tPart (tOp (rI0 fun i j => V.int (i + j)) (tVar 3) (tCB (rLenQ K) (tCons (tVar 6) tNil))))) tNil)) (tVar 6)))
          (tDrop (tBM K "list" rAppend (tVar 4) (tCons (tTup (tCons (tVar 5) (tCons (tCB (rLenQ K) (tCons (tVar 6) tNil)) (tCons (tVar 7) tNil)))) tNil))) tNext)
        { nx := tRet (tVar 4) { nx := fun x H' => Q V.non H', rt := Q }, rt := Q } [some (V.ref wa), some (V.ref ja), some (V.int one), some (V.int at_), some (V.ref f), none, none, none] H1 := by
    intro H1 f xs0 base s1 nf hf hb eb hd0
    refine a_for ?_
    walk_at "rd"
    refine ⟨_, sqL_same (same_show.trans s1) hjl, ?_⟩
    refine for_go2 (walk_enum (xs := jx)) (fun i σ Hx => ∃ o5 o6 o7 ys, σ = [some (V.ref wa), some (V.ref ja), some (V.int one), some (V.int at_), some (V.ref f), o5, o6, o7] ∧ Same H Hx ∧ Hx f = some (.lst ys) ∧ ys.length ≤ 1 + i ∧ DpAll K (hide Hx (f :: ms)) ys ((base ++ joinsAt ws at_ 0 (js.take i)).map partD)) ⟨_, _, _, xs0, rfl, s1, hf, ?_, ?_⟩ (fun i σ Hx _ z => by
      obtain ⟨_, _, _, _, _, z, _⟩ := z
      exact sqL_same (same_show.trans z) hjl) ?_ ?_
    · have := DpAll.length hd0
      rw [List.length_map] at this
      omega
    · rw [List.take_zero]
      simpa [joinsAt] using hd0
    · rintro Pw yes i y σ Hx Hx' hi ⟨o5, o6, o7, ys, rfl, sx, hfx, hly, hdy⟩ yy
      obtain ⟨p3, y1, y2, rfl, hp3, rfl, ey1, ey2⟩ := yy
      cases ey1
      rw [hjlen] at hi
      replace ey2 : jx[i]? = some y2 := ey2
      obtain ⟨d, ed, hdj⟩ := DpAll.at hja ey2
      rw [List.getElem?_map, List.getElem?_eq_getElem hi] at ed
      cases ed
      have hjm := List.getElem_mem hi
      have htk : js.take (i + 1) = js.take i ++ [js[i]] := by rw [List.take_succ, List.getElem?_eq_getElem hi]; rfl
      have htl : (js.take i).length = i := by rw [List.length_take]; omega
      generalize js[i] = j at *
      obtain ⟨q, u1, u2, rfl, hq, d1, d2⟩ := dp_t2 hdj
      cases d2
      obtain ⟨q1, r1, rfl, hq1, hr1⟩ := dp_tuple d1
      have e1 := DpAll.strs_inv hr1
      subst e1
      have sxp := same_new (o := HO.tup [V.int (i : Nat), V.ref q]) hp3
      refine a_t22V (.inl (.inl upd_same)) (sqT_same (same_show.trans (sx.trans sxp)) hq) ?_
      have nfp : f ≠ p3 := fun z => by rw [z, hp3] at hfx; cases hfx
      have hfx2 : upd Hx p3 (HO.tup [V.int (i : Nat), V.ref q]) f = some (.lst ys) := (upd_ne nfp).trans hfx
      have hdy2 := DpAll.mono (Same.hide sxp (f :: ms)) hdy
      have sx2 := sx.trans sxp
      generalize upd Hx p3 (HO.tup [V.int (i : Nat), V.ref q]) = Hy at *
      clear hp3 hfx hdy sx sxp
      walk_at "rd"
      have hq1y : SqT K Hy q1 (j.1.map V.str) := sqT_same (same_show.trans sx2) hq1
      have lenT : ∀ {R : VK} {A : Hp}, SqT K A q1 (j.1.map V.str) → R (.int (j.1.length : Nat)) A → rLenQ K [.ref q1] A R := fun {R A} z q => by
        have e := a_lenT (K := K) (H := A) (v := .ref q1) (ds := j.1.map PyData.str) (.tup z (DpAll.strs _)) (Q := R)
        rw [List.length_map] at e
        exact e q
      refine lenT hq1y ⟨_, rfl, ?_⟩
      refine ⟨wa, _, rfl, sqL_same (same_show.trans sx2) hwl, fun s hs => ?_⟩
      have ecut : cutV (ws.map V.str) (some (at_ : Int)) (some ((at_ : Int) + ((j.1.length : Nat) : Int))) = ((ws.drop at_).take j.1.length).map V.str := by
        have e : cutV (ws.map V.str) (some (at_ : Int)) (some (((at_ + j.1.length : Nat)) : Int)) = ((ws.map V.str).drop at_).take j.1.length := cutL_mid
        rw [List.map_take, List.map_drop, ← e, Int.natCast_add]
      rw [ecut]
      refine ⟨s, _, rfl, .inl ⟨SqL.of upd_same, fun l hl => ?_⟩⟩
      have ss := same_new (o := HO.lst (((ws.drop at_).take j.1.length).map V.str)) hs
      have sl := same_new (o := HO.tup (((ws.drop at_).take j.1.length).map V.str)) hl
      have esl : upd (upd Hy s (HO.lst (((ws.drop at_).take j.1.length).map V.str))) l (HO.tup (((ws.drop at_).take j.1.length).map V.str)) l = some (.tup (((ws.drop at_).take j.1.length).map V.str)) := upd_same
      have sx3 := sx2.trans (ss.trans sl)
      have hfx3 := (ss.trans sl) _ _ hfx2
      have hdy3 := DpAll.mono (Same.hide (ss.trans sl) (f :: ms)) hdy2
      have hq1z := sqT_same (ss.trans sl) hq1y
      generalize upd (upd Hy s (HO.lst (((ws.drop at_).take j.1.length).map V.str))) l (HO.tup (((ws.drop at_).take j.1.length).map V.str)) = Hz at *
      clear hs hl ss sl hfx2 hdy2
      have shp : ∀ xs : List Str, (∀ x ∈ xs, x ∈ c_WORDS) → SeqAt.shaped (.tuple (xs.map PyData.str)) = true := fun xs hx => shaped_of (n := 1) (shp_tup fun d hd => by
        obtain ⟨y, hy, e⟩ := List.mem_map.mp hd
        rw [← e]
        exact shp_str (words_ok (hx y hy))) (by decide)
      refine a_eqD (d := .tuple (((ws.drop at_).take j.1.length).map PyData.str)) (e := .tuple (j.1.map PyData.str)) (.tup (.inl (.inl esl)) (DpAll.strs _)) (.tup hq1z (DpAll.strs _)) (shp _ fun x hx => g1 x (List.mem_of_mem_drop (List.mem_of_mem_take hx))) (shp _ (g2 j hjm)) ⟨_, rfl, ?_⟩
      rw [eqv_strs]
      have next : joinsAt ws at_ 0 (js.take (i + 1)) = joinsAt ws at_ 0 (js.take i) ++ (if (ws.drop at_).take j.1.length = j.1 then [(some i, j.1.length, j.2)] else []) := by
        rw [htk, joinsAt_snoc, htl, Nat.zero_add]
      by_cases hc : (ws.drop at_).take j.1.length = j.1
      · rw [if_pos (decide_eq_true hc)]
        refine ⟨.inl ⟨rfl, _, SqL.of hfx3⟩, lenT hq1z ⟨by decide, fun t ht => ?_⟩⟩
        have ntf : f ≠ t := fun z => by rw [← z, hfx3] at ht; cases ht
        have st := same_new (o := HO.tup [V.int (i : Nat), V.int (j.1.length : Nat), V.int j.2]) ht
        refine ⟨f, ys, _, rfl, rfl, st _ _ hfx3, by rw [sizeLine_eq]; omega, yes _ _ _ ⟨_, _, _, ys ++ [.ref t], rfl, fun b o e => ?_, upd_same, by rw [List.length_append, List.length_singleton]; omega, ?_⟩⟩
        · have e1 := st _ _ (sx3 _ _ e)
          rw [upd_ne fun z => by rw [z, nf] at e; cases e]
          exact e1
        · rw [next, if_pos hc, ← List.append_assoc, List.map_append, hide_upd (by simp)]
          have nm : t ∉ f :: ms := fun z => (List.mem_cons.mp z).elim (fun z => ntf z.symm) fun z => (tk.same sx3) t z ht
          refine DpAll.append (DpAll.mono (Same.hide st (f :: ms)) hdy3) (DpAll.one (.tup (.inl (.inl ?_)) (.cons (.int _) (.cons (.int _) (.cons (.int _) .nil)))))
          rw [hide_at nm, upd_same]
      · rw [if_neg (by rw [decide_eq_false hc]; decide)]
        refine yes _ _ _ ⟨_, _, _, ys, rfl, sx3, hfx3, by omega, ?_⟩
        rw [next, if_neg hc, List.append_nil]
        exact hdy3
    · rintro σ Hx ⟨o5, o6, o7, ys, rfl, sx, hfx, hly, hdy⟩
      walk_at "rd"
      rw [hjlen, List.take_length] at hdy
      have ep : base ++ joinsAt ws at_ 0 js = partsAt ws js one at_ := by rw [eb]; rfl
      rw [ep] at hdy
      have nm : f ∉ ms := fun z => tk f z nf
      refine k _ f sx nf (.lst (xs := ys) (.inl (.inl ?_)) (DpAll.mono (fun b o e => ?_) hdy))
      · rw [hide_at nm]
        exact hfx
      · obtain ⟨e1, e2⟩ := hide_of e
        rw [hide_at fun z => e2 (.tail _ z)]
        exact e1
  by_cases hat : at_ < ws.length
  · rw [if_pos (by omega)]
    refine ⟨by decide, fun p hp => ⟨by decide, fun f hf => ?_⟩⟩
    have npf : f ≠ p := fun z => by rw [z, upd_same] at hf; cases hf
    have hf0 : H f = none := (upd_ne npf).symm.trans hf
    have sp := same_new (o := HO.tup [V.non, V.int 1, V.int one]) hp
    refine loop _ f [.ref p] [(none, 1, one)] (sp.trans (same_new hf)) hf0 upd_same (Nat.le_refl _) (by rw [if_pos hat]) ?_
    have ep : upd (upd H p (HO.tup [V.non, V.int 1, V.int one])) f (HO.lst [V.ref p]) p = some (.tup [V.non, V.int 1, V.int one]) := by rw [upd_ne (Ne.symm npf), upd_same]
    refine DpAll.one (.tup (.inl (.inl ?_)) (.cons .non (.cons (.int 1) (.cons (.int one) .nil))))
    have nm : p ∉ f :: ms := fun z => (List.mem_cons.mp z).elim (fun z => npf z.symm) fun z => tk p z hp
    rw [hide_at nm]
    exact ep
  · rw [if_neg (by omega)]
    refine ⟨by decide, fun f hf => ?_⟩
    exact loop _ f [] [] (same_new hf) hf upd_same (by decide) (by rw [if_neg hat]) .nil
theorem ok_Cover_init (T : Tx w K mg) : Mak P w K mg base 1 "Cover" (He.ga K "Cover") (sp_Cover___init__ K) [] := by
  refine mak_of T.mk_Cover T.g_Cover T.D_Cover___init__ sc_Cover___init__ (fun _ _ _ _ _ _ us hl => match us, hl with | [_, _, _], _ => rfl) (by walk_at "len") fun cdv A outer s H vs Q E hr h => ?_
  refine ⟨_, (pss_cons (ps_fld (pv 0) (pe_callTy (r := rListOf K) call_listOf (by rfl) T.b_list (by decide +kernel) (pa_cons (pv 1) pa_nil)) rfl)
    (pss_one (ps_fld (pv 0) (pe_callTy (r := rListOf K) call_listOf (by rfl) T.b_list (by decide +kernel) (pa_cons (pv 2) pa_nil)) rfl))), ?_⟩
  obtain ⟨p, dx, H0, a, b, xs, ys, rfl, hn, ha, hb, k⟩ := h
  walk_at "rd"
  refine ⟨a, _, rfl, .inl (sqL_same hn.same ha), fun l hl => ?_⟩
  have hp1 := keep_at (u := HO.lst xs) hn.at hl
  have nlp : l ≠ p := fun z => by rw [z, hn.at] at hl; cases hl
  have hl0 := hn.same.free hl
  refine ⟨_, _, _, hp1, T.c_Cover, T.n_Cover_parts, by show 0 < 1000; decide, ?_⟩
  have s1 : Same H0 (upd (upd H l (.lst xs)) p (.ins (He.ga K "Cover") dx (putF "parts" (.ref l) []))) := hn.keep ((Sx.new hl).trans Sx.at)
  have el : upd (upd H l (.lst xs)) p (.ins (He.ga K "Cover") dx (putF "parts" (.ref l) [])) l = some (.lst xs) := by rw [upd_ne nlp, upd_same]
  have ep : upd (upd H l (.lst xs)) p (.ins (He.ga K "Cover") dx (putF "parts" (.ref l) [])) p = some (.ins (He.ga K "Cover") dx (putF "parts" (.ref l) [])) := upd_same
  refine ⟨b, _, rfl, .inl (sqL_same s1 hb), fun l2 hl2 => ⟨_, _, _, keep_at ep hl2, T.c_Cover, T.n_Cover_numbers, by show 1 < 1000; decide, ?_⟩⟩
  have n12 : l ≠ l2 := ne_of_none el hl2
  have n2p : l2 ≠ p := (ne_of_none ep hl2).symm
  refine k _ l l2 (fun c o e => ?_) hl0 (s1.free hl2) n12 (upd_same.trans rfl) ?_ ?_
  · rw [upd_ne (ne_of_none e hn.2.1), upd_ne (ne_of_none (s1 _ _ e) hl2)]
    exact s1 _ _ e
  · rw [upd_ne nlp, upd_ne n12, el]
  · rw [upd_ne n2p, upd_same]
end
end Pb

/-! X3 -/
set_option Elab.async false
set_option linter.all false
set_option maxRecDepth 100000
set_option maxHeartbeats 4000000
namespace Pb
open PySem PySem.Spec PyProof.Rows L2
open C8 (Cal Mak Met pe_c pe_mk pe_mt pe_mt0 pe_gc fnScope_by)
/-! short words -/
local macro_rules | `(tactic| walk_at "rd") => `(tactic| try simp only [tVar, tC, tAdd, tSub, t2I, tIsN, tNotN, tB, tAnd, tOr, tNot, tAndV, tOrV, tNotV, tIf, tSeq, tPar, tPar3, tNext, tBreak, tCont, tDrop, tRet, tRetN, tIfS, gName, gNil, gCons, gTup, gSub, tAsg, tAug, ipI, iList, iTup, iRng1, iRng2, iStr, iEnum, iZip,
  tOp, tUn, rI, rI0, rU, tTest, tChain, tFld, sFld, sFldAug, L2.rAdd, L2.rSub, tNil, tCons, tTup, tLst, tCall, tMeth, tMake, tCB, tNoPart, tPart, tSl, tBM0, tBM, tDGet, tDGet1, tDGet2, tDIn, tDNotIn, sDPut, tDNewK, rEq, rNe, scal_ii, scal_ss, scal_bb, scal_nn, scal_ni, scal_in, scal_ns, scal_sn, scal_is, scal_si, List.take_succ_cons, List.take_zero, List.drop_succ_cons, List.drop_zero, upd_same, upd_upd, and_assoc, tKGet, gStar, tDisp, tPairs, tYes,
  L2.start, List.map_cons, List.map_nil, List.length_cons, List.length_nil, List.cons_append, List.nil_append, List.append_nil, List.replicate, Nat.sub_self, Nat.add_sub_cancel, Nat.reduceAdd, Nat.reduceSub, List.set_cons_zero, List.set_cons_succ, List.getElem?_cons_zero, List.getElem?_cons_succ,
  Option.some.injEq, V.int.injEq, V.bl.injEq, V.str.injEq, V.ref.injEq, exists_eq_left', exists_eq_left, exists_eq', exists_eq, true_and, and_true, if_true, if_false, Bool.false_eq_true, List.cons.injEq, Bool.not_true, Bool.not_false, cxK, cxP, cxW, ite_true, ite_false, wipe, reduceCtorEq, and_self, decide_true, decide_false, exists_and_left, exists_const, decide_eq_true_eq])
local macro_rules | `(tactic| walk_at "len") => `(tactic| (intro vs H Q E h; repeat (first | (obtain ⟨e, _⟩ := h; subst e; rfl) | (obtain ⟨_, h⟩ := h))))
local macro_rules | `(tactic| walk_at "wd") => `(tactic| simp (config := {decide := true}) only [V.str.injEq, scal_ss, true_and, if_true, if_false])

/-! covered -/
abbrev covT (K : PySem.W.Frag) : Addr := (He.cT K ("covered", none)).2
abbrev covL : Str := "covered.<locals>.<lambda>"
/-- the lambda within it -/
def lamIn : List Stmt → Arguments × Expr × Scope
  | [] => default
  | .For _ _ (_ :: .Assign _ (.Call _ _ [⟨_, .Lambda a b sc _, _⟩] _) _ :: _) _ _ :: _ => (a, b, sc)
  | _ :: r => lamIn r
abbrev lamP : Arguments := (lamIn (L2.defBody s_covered)).1
abbrev lamB : Expr := (lamIn (L2.defBody s_covered)).2.1
abbrev lamS : Scope := (lamIn (L2.defBody s_covered)).2.2
theorem lamFst : FstLam lamP lamB lamS where
  kind := by rfl
  co := by rfl
  gen := by rfl
  nocell := by decide +kernel
  ex := ⟨"row", _, _, _, _, by rfl, by decide, by rfl, fun _ _ _ _ _ => by rfl⟩
theorem lamFree {cells : List (Str × Addr)} : ∀ y ∈ lamS.names, y.2 = .free → ∃ c, cells.lookup y.1 = some c := fun y hy z => by
  have k : ∀ y ∈ lamS.names, y.2 ≠ .free := by decide +kernel
  exact absurd z (k y hy)
/-- a list of numbers, from a place on; what may be chosen there -/
def costAt (nums : List Int) (p : Part) : Int := p.2.2 + nums.getD (p.2.1 - 1) 0
def pick (nums : List Int) (ps : List Part) : Part := ps.getD (argBest (fun i j => decide (costAt nums (ps.getD i (none, 1, 0)) < costAt nums (ps.getD j (none, 1, 0)))) (ps.length - 1)) (none, 1, 0)
def cvStep (ws : List Str) (js : List Join) (one : Int) : Nat → List Int × List (Option Nat × Nat)
  | 0 => ([0], [])
  | k + 1 => (costAt (cvStep ws js one k).1 (pick (cvStep ws js one k).1 (partsAt ws js one (ws.length - 1 - k))) :: (cvStep ws js one k).1,
      ((pick (cvStep ws js one k).1 (partsAt ws js one (ws.length - 1 - k))).1, (pick (cvStep ws js one k).1 (partsAt ws js one (ws.length - 1 - k))).2.1) :: (cvStep ws js one k).2)
def cvNums (ws : List Str) (js : List Join) (one : Int) : List Int := (cvStep ws js one ws.length).1
def cvBest (ws : List Str) (js : List Join) (one : Int) : List (Option Nat × Nat) := (cvStep ws js one ws.length).2
def cvWalk (best : List (Option Nat × Nat)) : Nat → Nat → List (Option Nat)
  | 0, _ => []
  | f + 1, a => match best[a]? with
    | none => []
    | some p => p.1 :: cvWalk best f (a + p.2)
def cvParts (ws : List Str) (js : List Join) (one : Int) : List (Option Nat) := cvWalk (cvBest ws js one) ws.length 0
def bestD (p : Option Nat × Nat) : PyData := .tuple [countD p.1, .int (p.2 : Nat)]
structure CovOk (ws : List Str) (js : List Join) (one : Int) : Prop where
  words : WordsOk 0 40 ws
  few : js.length ≤ 1
  joins : ∀ j ∈ js, JoinOk j
  one : 1 ≤ one ∧ one ≤ 9
def sp_covered (K : PySem.W.Frag) : Sp := fun vs H Q _ => ∃ v u ws js one, vs = [v, u, V.int one] ∧ Dp K (hide H [covT K]) v (wordsD ws) ∧ Dp K (hide H [covT K]) u (joinsD js) ∧ CovOk ws js one ∧ LamX.TabS H (covT K) covL ∧
  ∀ H' q dx pl nl, Sx [covT K] H H' → LamX.TabS H' (covT K) covL → H q = none → H' q = some (.ins (He.ga K "Cover") dx (coverF pl nl)) → H pl = none → H nl = none → pl ≠ nl → H' pl = some (.lst ((cvParts ws js one).map countV)) → H' nl = some (.lst ((cvNums ws js one).map V.int)) → Q (.ref q) H'
theorem joins_fit {ws : List Str} {a : Nat} (ha : a ≤ ws.length) : ∀ {js : List Join} {i : Nat}, (∀ j ∈ js, 1 ≤ j.1.length) → ∀ p ∈ joinsAt ws a i js, 1 ≤ p.2.1 ∧ a + p.2.1 ≤ ws.length
  | [], _, _, p, h => nomatch h
  | j :: js, i, g, p, h => by
    rw [joinsAt] at h
    rcases List.mem_append.mp h with h | h
    · by_cases e : (ws.drop a).take j.1.length = j.1
      · rw [if_pos e] at h
        cases List.mem_singleton.mp h
        have l := congrArg List.length e
        rw [List.length_take, List.length_drop] at l
        have := g j (.head _)
        exact ⟨this, by show a + j.1.length ≤ ws.length; omega⟩
      · rw [if_neg e] at h
        cases h
    · exact joins_fit ha (fun j hj => g j (.tail _ hj)) p h
theorem parts_fit {ws : List Str} {js : List Join} {one : Int} {a : Nat} (ha : a < ws.length) (g : ∀ j ∈ js, 1 ≤ j.1.length) : ∀ p ∈ partsAt ws js one a, 1 ≤ p.2.1 ∧ a + p.2.1 ≤ ws.length := fun p h => by
  unfold partsAt at h
  rw [if_pos ha] at h
  rcases List.mem_append.mp h with h | h
  · cases List.mem_singleton.mp h
    exact ⟨Nat.le_refl _, ha⟩
  · exact joins_fit (Nat.le_of_lt ha) g p h
theorem parts_one {ws : List Str} {js : List Join} {one : Int} {a : Nat} (ha : a < ws.length) : 0 < (partsAt ws js one a).length := by
  unfold partsAt
  rw [if_pos ha, List.length_append, List.length_singleton]
  omega
theorem joins_len {ws : List Str} {a : Nat} : ∀ {js : List Join} {i : Nat}, (joinsAt ws a i js).length ≤ js.length
  | [], _ => Nat.le_refl _
  | j :: js, i => by
    have q := joins_len (ws := ws) (a := a) (js := js) (i := i + 1)
    rw [joinsAt, List.length_append, List.length_cons]
    split <;> simp <;> omega
theorem parts_len {ws : List Str} {js : List Join} {one : Int} {a : Nat} : (partsAt ws js one a).length ≤ js.length + 1 := by
  have q := joins_len (ws := ws) (a := a) (js := js) (i := 0)
  unfold partsAt
  rw [List.length_append]
  split <;> simp <;> omega
theorem cv_len1 {ws : List Str} {js : List Join} {one : Int} : ∀ k, (cvStep ws js one k).1.length = k + 1
  | 0 => rfl
  | k + 1 => by rw [cvStep, List.length_cons, cv_len1 k]
theorem cv_len2 {ws : List Str} {js : List Join} {one : Int} : ∀ k, (cvStep ws js one k).2.length = k
  | 0 => rfl
  | k + 1 => by rw [cvStep, List.length_cons, cv_len2 k]
def cvRow (nums : List Int) (p : Part) : PyData := .tuple [.int (costAt nums p), .int (p.2.1 : Nat), countD p.1]
theorem pick_mem {nums : List Int} {ps : List Part} (h : 0 < ps.length) : pick nums ps ∈ ps := by
  have hl : argBest (fun i j => decide (costAt nums (ps.getD i (none, 1, 0)) < costAt nums (ps.getD j (none, 1, 0)))) (ps.length - 1) < ps.length := by
    have := (argBest_lt (fun i => costAt nums (ps.getD i (none, 1, 0))) (ps.length - 1)).1
    omega
  unfold pick
  rw [List.getD_eq_getElem?_getD, List.getElem?_eq_getElem hl]
  exact List.getElem_mem hl
theorem cv_fit {ws : List Str} {js : List Join} {one : Int} (g : ∀ j ∈ js, 1 ≤ j.1.length) : ∀ (k : Nat), k ≤ ws.length → ∀ (i : Nat) pp, (cvStep ws js one k).2[i]? = some pp → 1 ≤ pp.2 ∧ ws.length - k + i + pp.2 ≤ ws.length
  | 0, _, i, pp, h => by simp [cvStep] at h
  | k + 1, hk, 0, pp, h => by
    rw [cvStep, List.getElem?_cons_zero] at h
    cases h
    have ha : ws.length - 1 - k < ws.length := by omega
    have q := parts_fit (one := one) ha g _ (pick_mem (nums := (cvStep ws js one k).1) (parts_one (js := js) (one := one) ha))
    exact ⟨q.1, by have := q.2; dsimp only; omega⟩
  | k + 1, hk, i + 1, pp, h => by
    rw [cvStep, List.getElem?_cons_succ] at h
    have q := cv_fit g k (by omega) i pp h
    exact ⟨q.1, by omega⟩
theorem walk_end {best : List (Option Nat × Nat)} : ∀ {f a : Nat}, best.length ≤ a → cvWalk best f a = []
  | 0, _, _ => rfl
  | f + 1, a, h => by rw [cvWalk, List.getElem?_eq_none h]
section
variable {P : Program} {w : World} {K : PySem.W.Frag} {mg : Str → Option Value} {base : Heap}
theorem ok_covered (T : Tx w K mg) (TB : LamX.TabB base mg (He.cT K ("covered", none)).1 (covT K)) (F_are_words : Cal P w K mg base 1 "are_words" (sp_are_words K) []) (F_is_join : Cal P w K mg base 3 "is_join" (sp_is_join K) []) (F_within : Cal P w K mg base 2 "within" (sp_within K) []) (F_parts_at : Cal P w K mg base 1 "parts_at" (sp_parts_at K) []) (M_Cover : Mak P w K mg base 1 "Cover" (He.ga K "Cover") (sp_Cover___init__ K) []) : KDef P w K mg base 4 "covered" (sp_covered K) ["words", "joins", "one"] s_covered [("one", .int 3)] := by
  refine kdef_ofC T.D_covered T.g_covered sc_covered (by walk_at "len") fun A outer s H vs Q E hr h => ?_
  refine ⟨_, (pss_cons (ps_if (PW.pt (pw_or (pt_not (pt_val (pe_callB (r := rIsi K) call_isi (by rfl) T.b_isinstance (by decide +kernel) (pa_cons (pv 0) (pa_cons (pe_bltn (v := .ty "list") (by rfl) T.b_list (by decide +kernel) rfl) pa_nil))))) (pw_or1 (pt_not (pt_val (pe_c F_are_words hr (by decide) (by rfl) (pa_cons (pv 0) (pa_cons pe_int (pa_cons (pe_gc (by rfl) T.v_MOST_WORDS) pa_nil))))))))) (pss_one ps_never) pss_nil)
    (pss_cons (ps_if (PW.pt (pw_or (pt_not (pt_val (pe_callB (r := rIsi K) call_isi (by rfl) T.b_isinstance (by decide +kernel) (pa_cons (pv 1) (pa_cons (pe_bltn (v := .ty "list") (by rfl) T.b_list (by decide +kernel) rfl) pa_nil))))) (pw_or (pt_cmpR op_gt (pe_callB (r := rLenQ K) call_lenQ (by rfl) T.b_len (by decide +kernel) (pa_cons (pv 1) pa_nil)) (pe_gc (by rfl) T.v_MOST_JOINS) (nomark _)) (pw_or1 (pt_not (pt_val (pe_callB (r := rAll K) (cr_all rfl) (by rfl) T.b_all (by decide +kernel) (pa_cons (pe_lc rfl sc_covered.nd (pi_listK (K := K) (pv 1)) (blkOk_by (own := [("join", 3)]) (N := ["words", "joins", "one", "join", "numbers", "best", "at", "rows", "count", "many", "cost", "total", "parts"]) (sc := L2.defScope s_covered) (by decide +kernel)) (fun _ _ _ _ _ => (pg_m (pg_name (i := 3) sc_covered.nd rfl (by first | exact Or.inl rfl | exact Or.inr rfl)))) (fun _ _ _ _ _ => pts_nilM) (fun _ _ _ _ _ => (pe_m (pe_c F_is_join hr (by decide) (by rfl) (pa_cons (pv 3) pa_nil))))) pa_nil)))))))) (pss_one ps_never) pss_nil)
    (pss_cons (ps_if (pt_cmpR op_lt (pe_callB (r := rLenFew w) call_lenFew (by rfl) T.b_len (by decide +kernel) (pa_cons (pe_scB (bagTup1 (hu_of hr)) rfl sc_covered.nd (pi_listK (K := K) (pv 1)) (blkOk_by (own := [("join", 3)]) (N := ["words", "joins", "one", "join", "numbers", "best", "at", "rows", "count", "many", "cost", "total", "parts"]) (sc := L2.defScope s_covered) (by decide +kernel)) (fun _ _ _ _ _ => (pg_name (i := 3) sc_covered.nd rfl (by first | exact Or.inl rfl | exact Or.inr rfl))) (fun _ _ _ _ _ => (pe_ix (r := rIx K) ix_seq (pv 3) pe_int (fun _ _ => rfl)))) pa_nil)) (pe_callB (r := rLenQ K) call_lenQ (by rfl) T.b_len (by decide +kernel) (pa_cons (pv 1) pa_nil)) (nomark _)) (pss_one ps_never) pss_nil)
    (pss_cons (ps_if (pt_not (pt_val (pe_c F_within hr (by decide) (by rfl) (pa_cons (pv 2) (pa_cons pe_int (pa_cons (pe_gc (by rfl) T.v_MOST_COST) pa_nil)))))) (pss_one ps_never) pss_nil)
    (pss_cons (ps_asg (pe_tup (pa_cons (pe_lst (pa_cons pe_int pa_nil)) (pa_cons (pe_lst pa_nil) pa_nil))) (pg_tupK (K := K) (n := 2) rfl (pgs_cons (pg_name (i := 4) sc_covered.nd rfl (by first | exact Or.inl rfl | exact Or.inr rfl)) (pgs_cons (pg_name (i := 5) sc_covered.nd rfl (by first | exact Or.inl rfl | exact Or.inr rfl)) pgs_nil))))
    (pss_cons (ps_for PassesOwn.never rfl (pi_revR (by rfl) T.b_reversed (prg_1 (by rfl) T.b_range (pe_callB (r := rLenQ K) call_lenQ (by rfl) T.b_len (by decide +kernel) (pa_cons (pv 0) pa_nil)))) (pg_name (i := 6) sc_covered.nd rfl (by first | exact Or.inl rfl | exact Or.inr rfl)) (pss_cons (ps_setLc (i := 7) rfl sc_covered.nd rfl rfl (sw_true rfl rfl rfl (by decide +kernel)) (pi_listK (K := K) (pe_c F_parts_at hr (by decide) (by rfl) (pa_cons (pv 0) (pa_cons (pv 1) (pa_cons (pv 2) (pa_cons (pv 6) pa_nil)))))) (blkOk_by (own := [("count", 8), ("many", 9), ("cost", 10)]) (N := ["words", "joins", "one", "join", "numbers", "best", "at", "rows", "count", "many", "cost", "total", "parts"]) (sc := L2.defScope s_covered) (by decide +kernel)) (fun _ _ _ _ _ => (pg_m (pg_tupK (K := K) (n := 3) rfl (pgs_cons (pg_name (i := 8) sc_covered.nd rfl (by first | exact Or.inl rfl | exact Or.inr rfl)) (pgs_cons (pg_name (i := 9) sc_covered.nd rfl (by first | exact Or.inl rfl | exact Or.inr rfl)) (pgs_cons (pg_name (i := 10) sc_covered.nd rfl (by first | exact Or.inl rfl | exact Or.inr rfl)) pgs_nil)))))) (fun _ _ _ _ _ => pts_nilM) (fun _ _ _ _ _ => (pe_m (pe_tup (pa_cons (pe_op op_add (pv 10) (pe_ix (r := rIx K) ix_seq (pv 4) (pe_op op_sub (pv 9) pe_int) (fun _ _ => rfl))) (pa_cons (pv 9) (pa_cons (pv 8) pa_nil)))))))
    (pss_cons (ps_asg (pe_callBK (r := rMinK K covL lamP lamB lamS) (cr_minK lamFst rfl hr) (by rfl) T.b_min (by decide +kernel) (pa_cons (pv 7) pa_nil) (pk_cons (pe_lam (q := covL) (params := lamP) (body := lamB) (scope := lamS) TB rfl (by kernel_rfl) rfl rfl lamFree) pk_nil)) (pg_tupK (K := K) (n := 3) rfl (pgs_cons (pg_name (i := 11) sc_covered.nd rfl (by first | exact Or.inl rfl | exact Or.inr rfl)) (pgs_cons (pg_name (i := 9) sc_covered.nd rfl (by first | exact Or.inl rfl | exact Or.inr rfl)) (pgs_cons (pg_name (i := 8) sc_covered.nd rfl (by first | exact Or.inl rfl | exact Or.inr rfl)) pgs_nil)))))
    (pss_cons (ps_set (i := 4) sc_covered.nd rfl (by first | exact Or.inl rfl | exact Or.inr rfl) (pe_op (r := rCatS K) op_catS (pe_lst (pa_cons (pv 11) pa_nil)) (pv 4)))
    (pss_one (ps_set (i := 5) sc_covered.nd rfl (by first | exact Or.inl rfl | exact Or.inr rfl) (pe_op (r := rCatS K) op_catS (pe_lst (pa_cons (pe_tup (pa_cons (pv 8) (pa_cons (pv 9) pa_nil))) pa_nil)) (pv 5))))))))
    (pss_cons (ps_par (i := 12) (j := 6) rfl sc_covered.nd rfl rfl (by decide) rfl rfl (pa_cons (pe_lst pa_nil) (pa_cons pe_int pa_nil)) rfl)
    (pss_cons (ps_while PassesOwn.never (pt_cmpR op_lt (pv 6) (pe_callB (r := rLenQ K) call_lenQ (by rfl) T.b_len (by decide +kernel) (pa_cons (pv 0) pa_nil)) (nomark _)) (pss_cons (ps_asg (pe_ix (r := rIx K) ix_seq (pv 5) (pv 6) (fun _ _ => rfl)) (pg_tupK (K := K) (n := 2) rfl (pgs_cons (pg_name (i := 8) sc_covered.nd rfl (by first | exact Or.inl rfl | exact Or.inr rfl)) (pgs_cons (pg_name (i := 9) sc_covered.nd rfl (by first | exact Or.inl rfl | exact Or.inr rfl)) pgs_nil))))
    (pss_cons (ps_expr (pe_bm PySem.F.plainAttrs_list PySem.F.slot_list_append PySem.F.type_list_append mt_append (pv 12) (pa_cons (pv 8) pa_nil)))
    (pss_one (ps_aug (i := 6) sc_covered.nd rfl (by first | exact Or.inl rfl | exact Or.inr rfl) (pv 9) ip_add)))))
    (pss_one (ps_ret (pe_mk M_Cover hr (by decide) (by rfl) (pa_cons (pv 12) (pa_cons (pv 4) pa_nil))))))))))))), ?_⟩
  obtain ⟨v, u, ws, js, one, rfl, hv, hu, ok, tab, k⟩ := h
  have hv0 := Dp.mono same_show hv
  have hu0 := Dp.mono same_show hu
  obtain ⟨tps, atP, tab2⟩ := tab
  have tab : LamX.TabS H (covT K) covL := ⟨tps, atP, tab2⟩
  clear tab2
  have tk : Tk H [covT K] := Tk.cons atP Tk.nil
  obtain ⟨ja, jx, rfl, hjl, hja⟩ := dp_list hu
  obtain ⟨wa, wx, rfl, hwl, hwa⟩ := dp_list hv
  have few := ok.few
  have hjlen := DpAll.length hja
  rw [List.length_map] at hjlen
  refine seq_mid (fun σ Hx => σ = [some (.ref wa), some (.ref ja), some (.int one), none, none, none, none, none, none, none, none, none, none] ∧ Same H Hx) (fun Kx hk => ?_) ?_
  · walk_at "rd"
    refine a_isi hv0 (kit_list _) ⟨_, rfl, ?_⟩
    rw [if_neg (by simp [isList, wordsD])]
    refine ⟨[covT K], _, ws, 0, 40, rfl, tk, .inl hv, ok.words, by decide, fun H1 s1 => ⟨_, rfl, ?_⟩⟩
    rw [if_neg (by decide)]
    exact hk _ _ ⟨rfl, s1⟩
  rintro σ H1 ⟨rfl, s1⟩
  refine seq_mid (fun σ Hx => σ = [some (.ref wa), some (.ref ja), some (.int one), none, none, none, none, none, none, none, none, none, none] ∧ Same H Hx) (fun Kx hk => ?_) ?_
  · walk_at "rd"
    refine a_isi (Dp.mono s1 hu0) (kit_list _) ⟨_, rfl, ?_⟩
    rw [if_neg (by simp [isList, joinsD])]
    refine a_lenL (Dp.mono s1 hu0) ⟨_, rfl, ?_⟩
    rw [List.length_map, if_neg (by omega)]
    refine a_lc ?_
    walk_at "rd"
    refine ⟨⟨jx, sqL_same (same_show.trans s1) hjl⟩, fun D nD => ?_⟩
    refine lc_data (K := K) (ds := js.map joinD) (ms := [covT K]) walk_list nD (tk.same s1) (by rw [List.length_map, sizeLine_eq]; omega) (DpAll.mono (Same.hide s1 _) hja) (fun H2 s2 => sqL_same (same_show.trans (s1.trans s2)) hjl) (fun _ => true) (fun _ => .bool true) (fun y d H2 hd s2 hD2 hy => ?_) (fun H2 ys s2 e2 hys => ?_)
    · obtain ⟨j, hj, rfl⟩ := List.mem_map.mp hd
      walk_at "rd"
      have tk2 : Tk H2 (D :: [covT K]) := fun m hm => by
        rcases List.mem_cons.mp hm with z | z
        · rw [z]; exact hD2
        · exact (tk.same (s1.trans s2)) m z
      exact ⟨fun z => z.elim, fun _ => ⟨_, y, j, rfl, tk2, hy, ok.joins j hj, fun H3 s3 => ⟨s3, .bl true⟩⟩⟩
    rw [List.filter_eq_self.mpr fun _ _ => rfl] at hys
    have eb : (js.map joinD).map (fun _ => PyData.bool true) = (js.map fun _ => true).map PyData.bool := by rw [List.map_map, List.map_map]; rfl
    rw [eb] at hys
    refine a_all (bs := js.map fun _ => true) (.lst (SqL.of e2) (DpAll.mono same_show hys)) ?_
    rw [show (js.map fun _ => true).all id = true by simp]
    refine ⟨_, rfl, ?_⟩
    rw [if_neg (by decide)]
    exact hk _ _ ⟨rfl, s1.trans s2⟩
  clear s1
  rintro σ H2 ⟨rfl, s12⟩
  refine seq_mid (fun σ Hx => σ = [some (.ref wa), some (.ref ja), some (.int one), none, none, none, none, none, none, none, none, none, none] ∧ Same H Hx) (fun Kx hk => ?_) ?_
  · walk_at "rd"
    refine a_sc ?_
    walk_at "rd"
    refine ⟨⟨jx, sqL_same (same_show.trans s12) hjl⟩, fun D3 nD3 => ?_⟩
    refine sc_few (K := K) walk_list nD3 (by omega) (fun H3 s3 => sqL_same (same_show.trans (s12.trans s3)) hjl) (fun x H3 R ex s3 q => ?_) (fun H3 s3 e3 => ?_)
    · obtain ⟨d, ed, hdj⟩ := DpAll.at hja ex
      rw [List.getElem?_map] at ed
      obtain ⟨j, ej, rfl⟩ := Option.map_eq_some_iff.mp ed
      walk_at "rd"
      refine a_ixT (Dp.mono (same_show.trans (s12.trans s3)) hdj) atI_0 fun u2 hu2 => ?_
      obtain ⟨t, tx, rfl, ht, hta⟩ := dp_tuple hu2
      have et := DpAll.strs_inv hta
      subst et
      exact q _ t (j.1.map Sum.inr) (Same.refl _) (by rw [List.map_map]; exact ht)
    refine ⟨D3, jx.length, rfl, e3, by omega, ?_⟩
    refine a_lenL (Dp.mono (s12.trans s3) hu0) ⟨_, rfl, _, rfl, ?_⟩
    rw [List.length_map, if_neg (by omega)]
    exact hk _ _ ⟨rfl, s12.trans s3⟩
  clear s12 H2
  rintro σ H3 ⟨rfl, s03⟩
  have ew : within (.int one) 1 9 = true := by
    show (decide (1 ≤ one) && decide (one ≤ 9)) = true
    rw [decide_eq_true ok.one.1, decide_eq_true ok.one.2]; rfl
  refine seq_mid (fun σ Hx => σ = [some (.ref wa), some (.ref ja), some (.int one), none, none, none, none, none, none, none, none, none, none] ∧ Same H Hx) (fun Kx hk => ?_) ?_
  · walk_at "rd"
    refine ⟨[], _, .int one, 1, 9, rfl, Tk.nil, .int one, fun H4 s4 => ⟨_, rfl, ?_⟩⟩
    rw [ew, if_neg (by decide)]
    exact hk _ _ ⟨rfl, s03.trans s4⟩
  clear s03
  rintro σ H4 ⟨rfl, s14⟩
  refine seq_mid (fun σ Hx => ∃ nl bl, σ = [some (.ref wa), some (.ref ja), some (.int one), none, some (.ref nl), some (.ref bl), none, none, none, none, none, none, none] ∧ Same H Hx ∧ Dp K (hide Hx [covT K]) (.ref nl) (.list [.int 0]) ∧ Dp K (hide Hx [covT K]) (.ref bl) (.list [])) (fun Kx hk => ?_) ?_
  · walk_at "rd"
    refine ⟨by decide, fun p hp => ⟨by decide, fun b hb => ⟨by decide, fun t ht => ?_⟩⟩⟩
    have sp := same_new (o := HO.lst [V.int 0]) hp
    have sb := same_new (o := HO.lst []) hb
    have st := same_new (o := HO.tup [V.ref p, V.ref b]) ht
    refine a_t2V (.inl (.inl upd_same)) (hk _ _ ⟨p, b, rfl, s14.trans (sp.trans (sb.trans st)), ?_, ?_⟩)
    · exact Dp.mono (Same.hide (sb.trans st) _) (a_newL (tk.same s14) hp (.cons (.int 0) .nil))
    · exact Dp.mono (Same.hide st _) (a_newL (tk.same (s14.trans sp)) hb .nil)
  clear s14
  rintro σ H5 ⟨nl, bl, rfl, s5, hnl, hbl⟩
  refine seq_mid (fun σ Hx => ∃ nl bl o3 o6 o7 o8 o9 o10 o11, σ = [some (.ref wa), some (.ref ja), some (.int one), o3, some (.ref nl), some (.ref bl), o6, o7, o8, o9, o10, o11, none] ∧ Sx [covT K] H Hx ∧ LamX.TabS Hx (covT K) covL ∧ Dp K (hide Hx [covT K]) (.ref nl) (.list ((cvStep ws js one ws.length).1.map PyData.int)) ∧ Dp K (hide Hx [covT K]) (.ref bl) (.list ((cvStep ws js one ws.length).2.map bestD))) (fun Kx hk => ?_) ?_
  · have hv5 := Dp.mono (Same.hide s5 [covT K]) hv
    have hu5 := Dp.mono (Same.hide s5 [covT K]) hu
    have jl : ∀ j ∈ js, 1 ≤ j.1.length := fun j hj => Nat.le_trans (by decide) (ok.joins j hj).row.lo
    have wl : ws.length ≤ 40 := ok.words.hi
    refine a_for ?_
    unfold iRevR tRg1
    walk_at "rd"
    refine a_lenL (Dp.mono s5 hv0) ⟨_, rfl, ?_⟩
    rw [List.length_map]
    have e0 : ((ws.length : Nat) : Int) - 0 = ((ws.length : Nat) : Int) := by omega
    rw [e0, Int.toNat_natCast]
    refine ⟨by omega, by omega, by omega, by omega, ?_⟩
    refine for_go2 (walk_rangeC (n := ws.length)) (fun i σ Hx => ∃ nl bl o3 o6 o7 o8 o9 o10 o11, σ = [some (.ref wa), some (.ref ja), some (.int one), o3, some (.ref nl), some (.ref bl), o6, o7, o8, o9, o10, o11, none] ∧ Sx [covT K] H Hx ∧ LamX.TabS Hx (covT K) covL ∧ Dp K (hide Hx [covT K]) (.ref nl) (.list ((cvStep ws js one i).1.map PyData.int)) ∧ Dp K (hide Hx [covT K]) (.ref bl) (.list ((cvStep ws js one i).2.map bestD)))
      ⟨nl, bl, _, _, _, _, _, _, _, rfl, Sx.of s5, tab.ext s5, hnl, hbl⟩ (fun _ _ _ _ _ => trivial) ?_ (fun σ Hx z => hk _ _ z)
    rintro Pw yes i y σ Hx Hx' hi ⟨nl, bl, o3, o6, o7, o8, o9, o10, o11, rfl, sx, tabx, hnl, hbl⟩ ⟨e9, rfl⟩
    subst e9
    refine g_name ?_
    dsimp only
    have eat : (0 : Int) + ((ws.length : Nat) : Int) - 1 + (i : Nat) * (-1) = ((ws.length - 1 - i : Nat) : Int) := by omega
    rw [eat]
    have sxh := sx.hide (ms' := [covT K]) fun _ z => z
    have hvx := Dp.mono sxh hv
    have hux := Dp.mono sxh hu
    obtain ⟨tpx, atx, _⟩ := id tabx
    have tkx : Tk Hx' [covT K] := Tk.cons atx Tk.nil
    have hat : ws.length - 1 - i < ws.length := by omega
    generalize eA : ws.length - 1 - i = A at *
    have fit := parts_fit (js := js) (one := one) hat jl
    have one1 := parts_one (js := js) (one := one) hat
    have plen := parts_len (ws := ws) (js := js) (one := one) (a := A)
    have nlen := cv_len1 (ws := ws) (js := js) (one := one) i
    have step1 : (cvStep ws js one (i + 1)).1 = costAt (cvStep ws js one i).1 (pick (cvStep ws js one i).1 (partsAt ws js one A)) :: (cvStep ws js one i).1 := by rw [cvStep, eA]
    have step2 : (cvStep ws js one (i + 1)).2 = ((pick (cvStep ws js one i).1 (partsAt ws js one A)).1, (pick (cvStep ws js one i).1 (partsAt ws js one A)).2.1) :: (cvStep ws js one i).2 := by rw [cvStep, eA]
    generalize (cvStep ws js one i).1 = nums at *
    have blen := cv_len2 (ws := ws) (js := js) (one := one) i
    generalize (cvStep ws js one i).2 = best at *
    generalize eP : partsAt ws js one A = ps at *
    refine seq_mid (fun σ Hy => ∃ ra o8 o9 o10, σ = [some (.ref wa), some (.ref ja), some (.int one), o3, some (.ref nl), some (.ref bl), some (.int (A : Nat)), some (.ref ra), o8, o9, o10, o11, none] ∧ Same Hx' Hy ∧ Dp K (hide Hy [covT K]) (.ref ra) (.list (ps.map (cvRow nums)))) (fun Kx2 hk2 => ?_) ?_
    · walk_at "rd"
      refine a_lc ?_
      walk_at "rd"
      refine ⟨[covT K], _, _, ws, js, one, A, rfl, tkx, hvx, hux, by omega, by omega, fun j hj => Nat.le_trans (ok.joins j hj).row.hi (by decide), by omega, ok.words.all, fun j hj => (ok.joins j hj).row.all, fun H7 q s7 nq hq => ?_⟩
      rw [eP] at hq
      obtain ⟨q', qx, eq', hql, hqa⟩ := dp_list hq
      cases eq'
      have hqlen := DpAll.length hqa
      rw [List.length_map] at hqlen
      refine ⟨q, rfl, ⟨qx, sqL_same same_show hql⟩, fun D nD => ?_⟩
      refine lc_pure (K := K) (ms := [covT K]) (walk_list (xs := qx)) nD (tkx.same s7) (by rw [sizeLine_eq]; omega) (fun H8 s8 => sqL_same (same_show.trans s8) hql) (fun _ => true) (fun i => cvRow nums (ps.getD i (none, 1, 0))) (fun i x H8 H9 hi s8 hD8 y => ?_) (fun H8 ys s8 e8 hys => ?_)
      · obtain ⟨e9, ex⟩ := y
        subst e9
        obtain ⟨d, ed, hd⟩ := DpAll.at hqa ex
        have hip : i < ps.length := by omega
        rw [List.getElem?_map, List.getElem?_eq_getElem hip] at ed
        cases ed
        have em : ps.getD i (none, 1, 0) = ps[i] := by rw [List.getD_eq_getElem?_getD, List.getElem?_eq_getElem hip]; rfl
        rw [em]
        have hpm := List.getElem_mem hip
        generalize ps[i] = p at *
        obtain ⟨f1, f2⟩ := fit p hpm
        obtain ⟨q2, u1, u2, u3, rfl, hq2, d1, d2, d3⟩ := dp_t3 hd
        cases d2
        cases d3
        refine a_t3V (sqT_same (same_show.trans s8) hq2) ?_
        walk_at "rd"
        refine ⟨fun z => z.elim, fun _ => ?_⟩
        have hml : p.2.1 - 1 < nums.length := by omega
        have ex1 : ((p.2.1 : Nat) : Int) - 1 = ((p.2.1 - 1 : Nat) : Int) := by omega
        rw [ex1]
        refine a_ixL (Dp.mono (same_show.trans (s7.trans s8)) hnl) (atI_natc (x := PyData.int (nums.getD (p.2.1 - 1) 0)) (by rw [List.getElem?_map, List.getElem?_eq_getElem hml, List.getD_eq_getElem?_getD, List.getElem?_eq_getElem hml]; rfl)) fun u hu => ?_
        cases hu
        refine ⟨_, rfl, by decide, fun t ht => ⟨same_new ht, ?_⟩⟩
        have anyC : ∀ H, Dp K H u1 (countD p.1) := fun H => by
          cases e : p.1 with
          | none => rw [e] at d1; cases d1; exact .non
          | some c => rw [e] at d1; cases d1; exact .int _
        have nt1 : t ≠ D := fun z => by rw [z] at ht; exact hD8 ht
        have nt2 : t ≠ covT K := fun z => by rw [z, (s7.trans s8) _ _ atx] at ht; cases ht
        refine .tup (.inl (.inl ?_)) (.cons (.int _) (.cons (.int _) (.cons (anyC _) .nil)))
        rw [hide_at (by simp [nt1, nt2]), upd_same]
        rfl
      · have nDc : D ≠ covT K := fun z => by rw [z, s7 _ _ atx] at nD; cases nD
        have ers : List.map (fun i => cvRow nums (ps.getD i (none, 1, 0))) (List.filter (fun x => true) (List.range qx.length)) = ps.map (cvRow nums) := by
          rw [List.filter_eq_self.mpr fun _ _ => rfl, hqlen]
          refine List.ext_getElem (by simp) fun j h1 h2 => ?_
          simp at h1 h2
          simp [List.getD_eq_getElem?_getD, List.getElem?_eq_getElem h2]
        rw [ers] at hys
        refine hk2 _ _ ⟨D, _, _, _, rfl, s7.trans s8, .lst (xs := ys) (.inl (.inl ?_)) (DpAll.mono (fun b o e => ?_) hys)⟩
        · rw [hide_at (by simp [nDc])]
          exact e8
        · obtain ⟨e1, e2⟩ := hide_of e
          rw [hide_at fun z => e2 (.tail _ z)]
          exact e1
    rintro σ Hy ⟨ra, p8, p9, p10, rfl, sy, hra⟩
    have hpl : argBest (fun i j => decide (costAt nums (ps.getD i (none, 1, 0)) < costAt nums (ps.getD j (none, 1, 0)))) (ps.length - 1) < ps.length := by
      have := (argBest_lt (fun i => costAt nums (ps.getD i (none, 1, 0))) (ps.length - 1)).1
      omega
    have hpk : ps[argBest (fun i j => decide (costAt nums (ps.getD i (none, 1, 0)) < costAt nums (ps.getD j (none, 1, 0)))) (ps.length - 1)]? = some (pick nums ps) := by
      unfold pick
      rw [List.getD_eq_getElem?_getD, List.getElem?_eq_getElem hpl]
      rfl
    refine seq_mid (fun σ Hz => σ = [some (.ref wa), some (.ref ja), some (.int one), o3, some (.ref nl), some (.ref bl), some (.int (A : Nat)), some (.ref ra), some (countV (pick nums ps).1), some (.int ((pick nums ps).2.1 : Nat)), p10, some (.int (costAt nums (pick nums ps))), none] ∧ Sx [covT K] Hy Hz ∧ LamX.TabS Hz (covT K) covL) (fun Kx2 hk2 => ?_) ?_
    · walk_at "rd"
      unfold L2.tCKw
      walk_at "rd"
      unfold tLamE
      refine ⟨tabx.ext sy, fun f c' Hz sz tabz atf atc => ?_⟩
      obtain ⟨ra', rx, er, hrl, hrA⟩ := dp_list (Dp.mono ((sz.hide (ms' := [covT K]) fun _ z => z).trans same_show) hra)
      cases er
      have hrlen := DpAll.length hrA
      rw [List.length_map] at hrlen
      refine ⟨ra, rx, f, c', fun i => costAt nums (ps.getD i (none, 1, 0)), rfl, rfl, atf, atc, hrl, by omega, fun i x ex => ?_, fun v ev => ?_⟩
      · obtain ⟨d, ed, hd⟩ := DpAll.at hrA ex
        have hip : i < ps.length := by
          have := (List.getElem?_eq_some_iff.mp ex).1
          omega
        rw [List.getElem?_map, List.getElem?_eq_getElem hip] at ed
        cases ed
        obtain ⟨q2, u1, u2, u3, rfl, hq2, d1, d2, d3⟩ := dp_t3 hd
        cases d1
        refine ⟨q2, [u2, u3], rfl, ?_⟩
        show SqT K Hz q2 [V.int (costAt nums (ps.getD i (none, 1, 0))), u2, u3]
        rw [show ps.getD i (none, 1, 0) = ps[i] by rw [List.getD_eq_getElem?_getD, List.getElem?_eq_getElem hip]; rfl]
        exact hq2
      · rw [hrlen] at ev
        obtain ⟨d, ed, hd⟩ := DpAll.at hrA ev
        rw [List.getElem?_map, hpk] at ed
        cases ed
        obtain ⟨q2, u1, u2, u3, rfl, hq2, d1, d2, d3⟩ := dp_t3 hd
        cases d1
        cases d2
        have ec : u3 = countV (pick nums ps).1 := by
          cases e : (pick nums ps).1 with
          | none => rw [e] at d3; cases d3; rfl
          | some c => rw [e] at d3; cases d3; rfl
        subst ec
        refine a_t3V hq2 (hk2 _ _ ⟨rfl, sz, tabz⟩)
    rintro σ Hz ⟨rfl, sz, tabz⟩
    walk_at "rd"
    have s15 : Sx [covT K] Hx' Hz := (Sx.of sy).trans sz
    have h15 := s15.hide (ms' := [covT K]) fun _ z => z
    obtain ⟨tpz, atz, _⟩ := id tabz
    have tkz : Tk Hz [covT K] := Tk.cons atz Tk.nil
    generalize pick nums ps = pp at *
    refine ⟨by decide, fun p hp => ?_⟩
    have sp := same_new (o := HO.lst [V.int (costAt nums pp)]) hp
    refine a_catD (ms := [covT K]) (ds := [.int (costAt nums pp)]) (es := nums.map PyData.int) (tkz.same sp) (a_newL tkz hp (.cons (.int _) .nil)) (Dp.mono (h15.trans (Same.hide sp _)) hnl) (by rw [List.length_map, List.length_singleton]; omega) fun J1 nl2 t1 _ hnl2 => ?_
    have u1 := sp.trans t1
    refine ⟨by decide, fun t ht => ⟨by decide, fun l hl => ?_⟩⟩
    have st := same_new (o := HO.tup [countV pp.1, V.int (pp.2.1 : Nat)]) ht
    have sl := same_new (o := HO.lst [V.ref t]) hl
    have cD : ∀ H, Dp K H (countV pp.1) (countD pp.1) := fun H => by
      cases pp.1 with
      | none => exact .non
      | some c => exact .int _
    have tku := (tkz.same u1)
    have dt : Dp K (hide (upd J1 t (HO.tup [countV pp.1, V.int (pp.2.1 : Nat)])) [covT K]) (.ref t) (bestD (pp.1, pp.2.1)) := a_newT tku ht (.cons (cD _) (.cons (.int _) .nil))
    refine a_catD (ms := [covT K]) (ds := [bestD (pp.1, pp.2.1)]) (es := best.map bestD) (tku.same (st.trans sl)) (a_newL (tku.same st) hl (.cons dt .nil)) (Dp.mono (h15.trans (Same.hide (u1.trans (st.trans sl)) _)) hbl) (by rw [List.length_map, List.length_singleton]; omega) fun J2 bl2 t2 _ hbl2 => ?_
    have u2 := u1.trans (st.trans (sl.trans t2))
    refine yes _ _ _ ⟨nl2, bl2, _, _, _, _, _, _, _, rfl, sx.trans (s15.trans (Sx.of u2)), tabz.ext u2, ?_, ?_⟩
    · rw [step1, List.map_cons]
      exact Dp.mono (Same.hide (st.trans (sl.trans t2)) _) hnl2
    · rw [step2, List.map_cons]
      exact hbl2
  rintro σ H6 ⟨nl6, bl6, o3, o6, o7, o8, o9, o10, o11, rfl, s6, tab6, hnl6, hbl6⟩
  have jl : ∀ j ∈ js, 1 ≤ j.1.length := fun j hj => Nat.le_trans (by decide) (ok.joins j hj).row.lo
  have wl : ws.length ≤ 40 := ok.words.hi
  have fit := cv_fit (one := one) jl ws.length (Nat.le_refl _)
  have blen := cv_len2 (ws := ws) (js := js) (one := one) ws.length
  have eC : cvParts ws js one = cvWalk (cvStep ws js one ws.length).2 ws.length 0 := rfl
  have eN : cvNums ws js one = (cvStep ws js one ws.length).1 := rfl
  generalize (cvStep ws js one ws.length).2 = best at *
  generalize (cvStep ws js one ws.length).1 = nums at *
  obtain ⟨bl', bx, eb, hbl, hba⟩ := dp_list hbl6
  cases eb
  obtain ⟨nl', nx, en, hnl, hna⟩ := dp_list hnl6
  cases en
  have en := DpAll.ints_inv hna
  subst en
  walk_at "rd"
  refine ⟨by decide, fun p hp => ?_⟩
  refine while_go (fun m σ Hx => ∃ a f o7 o8 o9 o10 o11, ∃ out : List (Option Nat), σ = [some (.ref wa), some (.ref ja), some (.int one), o3, some (.ref nl6), some (.ref bl6), some (.int (a : Nat)), o7, o8, o9, o10, o11, some (.ref p)] ∧ m = ws.length - a ∧ a ≤ ws.length ∧ Same H6 Hx ∧ Hx p = some (.lst (out.map countV)) ∧ out ++ cvWalk best f a = cvWalk best ws.length 0 ∧ ws.length - a ≤ f ∧ out.length ≤ a) ws.length
    ⟨0, ws.length, _, _, _, _, _, [], rfl, by omega, by omega, same_new hp, upd_same, rfl, by omega, Nat.zero_le _⟩ ?_
  rintro Pw yes m σ Hx ⟨a, f, o7, o8, o9, o10, o11, out, rfl, rfl, ha, sx, hpx, eo, hf, hlo⟩
  have hv6 := Dp.mono ((s6.hide (ms' := [covT K]) fun _ z => z).trans (same_show.trans sx)) hv
  walk_at "rd"
  refine a_lenL hv6 ⟨_, rfl, ?_⟩
  rw [List.length_map]
  by_cases hlt : a < ws.length
  · rw [if_pos (by omega)]
    obtain ⟨f', rfl⟩ : ∃ f', f = f' + 1 := ⟨f - 1, by omega⟩
    have eb : best[a]? = some best[a] := List.getElem?_eq_getElem (by omega)
    obtain ⟨w1, w2⟩ := fit a _ eb
    rw [cvWalk, eb] at eo
    generalize best[a] = pp at *
    obtain ⟨z, ez, hz⟩ := DpAll.get (i := a) (d := bestD pp) hba (by rw [List.getElem?_map, eb]; rfl)
    obtain ⟨q, u1, u2, rfl, hq, d1, d2⟩ := dp_t2 hz
    cases d2
    have ec : u1 = countV pp.1 := by
      cases e : pp.1 with
      | none => rw [e] at d1; cases d1; rfl
      | some c => rw [e] at d1; cases d1; rfl
    subst ec
    refine ⟨Pw (ws.length - a - pp.2), fun σ' H' h => ⟨_, by omega, h⟩, ?_⟩
    walk_at "rd"
    refine .inl ⟨bl6, bx, (a : Nat), .ref q, rfl, rfl, sqL_same (same_show.trans sx) hbl, atI_natc ez, ?_⟩
    refine a_t2V (sqT_same (same_show.trans sx) hq) ?_
    walk_at "rd"
    refine ⟨.inl ⟨rfl, _, SqL.of hpx⟩, p, _, _, rfl, rfl, hpx, by rw [List.length_map, sizeLine_eq]; omega, ?_⟩
    have npH : ∀ b o, H6 b = some o → b ≠ p := fun b o e z => by rw [z, hp] at e; cases e
    refine yes _ _ _ ⟨a + pp.2, f', o7, some (countV pp.1), some (.int (pp.2 : Nat)), o10, o11, out ++ [pp.1], ?_, by omega, by omega, fun b o e => (upd_ne (npH b o e)).trans (sx b o e), by rw [upd_same, List.map_append]; rfl, ?_, by omega, ?_⟩
    · rw [Int.natCast_add]
    · rw [List.append_assoc]
      exact eo
    · rw [List.length_append, List.length_singleton]
      omega
  · rw [if_neg (by omega)]
    have ea : a = ws.length := by omega
    subst ea
    walk_at "rd"
    rw [walk_end (by omega), List.append_nil] at eo
    intro x dx hx hd hne
    obtain ⟨tp6, at6, _⟩ := id tab6
    have free : ∀ b, Hx b = none → H b = none := fun b hb => by
      cases e : H b with
      | none => rfl
      | some o =>
        exfalso
        by_cases hm : b ∈ [covT K]
        · rw [List.mem_singleton.mp hm, sx _ _ at6] at hb
          cases hb
        · rw [sx _ _ (s6 b o hm e)] at hb
          cases hb
    refine ⟨x, dx, Hx, p, nl6, _, _, rfl, ⟨rfl, hx, hd, hne⟩, SqL.of hpx, sqL_same (same_show.trans sx) hnl, fun H' pl nl s' npl nnl hne' ax apl anl => ⟨rfl, k H' x dx pl nl (s6.trans (Sx.of (sx.trans s'))) (tab6.ext (sx.trans s')) (free _ hx) ax (free _ npl) (free _ nnl) hne' ?_ ?_⟩⟩
    · rw [eC, ← eo]
      exact apl
    · rw [eN]
      exact anl
end
end Pb

/-! X4a -/
set_option Elab.async false
set_option linter.all false
set_option maxRecDepth 100000
set_option maxHeartbeats 4000000
namespace Pb
open PySem PySem.Spec PyProof.Rows L2
open C8 (Cal Mak Met pe_c pe_mk pe_mt pe_mt0 pe_gc fnScope_by)
/-! short words -/
local macro_rules | `(tactic| walk_at "rd") => `(tactic| try simp only [tVar, tC, tAdd, tSub, t2I, tIsN, tNotN, tB, tAnd, tOr, tNot, tAndV, tOrV, tNotV, tIf, tSeq, tPar, tPar3, tNext, tBreak, tCont, tDrop, tRet, tRetN, tIfS, gName, gNil, gCons, gTup, gSub, tAsg, tAug, ipI, iList, iTup, iRng1, iRng2, iStr, iEnum, iZip,
  tOp, tUn, rI, rI0, rU, tTest, tChain, tFld, sFld, sFldAug, L2.rAdd, L2.rSub, tNil, tCons, tTup, tLst, tCall, tMeth, tMake, tCB, tNoPart, tPart, tSl, tBM0, tBM, tDGet, tDGet1, tDGet2, tDIn, tDNotIn, sDPut, tDNewK, rEq, rNe, scal_ii, scal_ss, scal_bb, scal_nn, scal_ni, scal_in, scal_ns, scal_sn, scal_is, scal_si, List.take_succ_cons, List.take_zero, List.drop_succ_cons, List.drop_zero, upd_same, upd_upd, and_assoc, tKGet, gStar, tDisp, tPairs, tYes,
  L2.start, List.map_cons, List.map_nil, List.length_cons, List.length_nil, List.cons_append, List.nil_append, List.append_nil, List.replicate, Nat.sub_self, Nat.add_sub_cancel, Nat.reduceAdd, Nat.reduceSub, List.set_cons_zero, List.set_cons_succ, List.getElem?_cons_zero, List.getElem?_cons_succ,
  Option.some.injEq, V.int.injEq, V.bl.injEq, V.str.injEq, V.ref.injEq, exists_eq_left', exists_eq_left, exists_eq', exists_eq, true_and, and_true, if_true, if_false, Bool.false_eq_true, List.cons.injEq, Bool.not_true, Bool.not_false, cxK, cxP, cxW, ite_true, ite_false, wipe, reduceCtorEq, and_self, decide_true, decide_false, exists_and_left, exists_const, decide_eq_true_eq])
local macro_rules | `(tactic| walk_at "len") => `(tactic| (intro vs H Q E h; repeat (first | (obtain ⟨e, _⟩ := h; subst e; rfl) | (obtain ⟨_, h⟩ := h))))
local macro_rules | `(tactic| walk_at "wd") => `(tactic| simp (config := {decide := true}) only [V.str.injEq, scal_ss, true_and, if_true, if_false])

/-! the rings, the plain facts of the law -/
def ring1 (n : Int) : List Row := [.put n, .tell]
def ring2 (n : Int) : List Row := [.put n, .put n, .drop, .tell, .put n, .drop]
theorem one_good {rows : List Row} {e : Fin} (h1 : rows.length ≤ 12) (hp : ∀ r ∈ rows, ∀ m, r = .put m → -32768 ≤ m ∧ m ≤ 32767) (hw : wok 0 (rows.map Row.word ++ [e.word])) (he : ∀ l ∈ e.labels, l = "a" ∧ (0 : Int) = after 0 (rows.map Row.word ++ [e.word])) : Good [⟨"a", rows, e⟩] (fun _ => 0) where
  one := by simp
  six := by simp
  names := fun b hb => by
    cases List.mem_singleton.mp hb
    show nameS "a" = true
    decide +kernel
  many := fun b hb => by
    cases List.mem_singleton.mp hb
    exact h1
  puts := fun b hb => by
    cases List.mem_singleton.mp hb
    exact hp
  nodup := by simp
  zero := fun b _ => rfl
  rows := fun b hb => by
    cases List.mem_singleton.mp hb
    exact hw
  ends := fun b hb l hl => by
    cases List.mem_singleton.mp hb
    obtain ⟨rfl, q⟩ := he l hl
    exact ⟨.head _, q⟩
  all := fun b hb => by
    cases List.mem_singleton.mp hb
    exact .first rfl
theorem put_ok {n : Int} {rows : List Row} (hn : -32768 ≤ n ∧ n ≤ 32767) (h : ∀ r ∈ rows, ∀ m, r = .put m → m = n) : ∀ r ∈ rows, ∀ m, r = .put m → -32768 ≤ m ∧ m ≤ 32767 := fun r hr m e => by rw [h r hr m e]; exact hn
theorem wok_ring1 : wok 0 ["put", "tell", "go"] := by unfold wok; refine ⟨by decide +kernel, ?_⟩; unfold wok; refine ⟨by decide +kernel, ?_⟩; unfold wok; exact ⟨by decide +kernel, trivial⟩
theorem wok_ring2 : wok 0 ["put", "put", "drop", "tell", "put", "drop", "go"] := by
  repeat (first | exact trivial | (unfold wok; refine ⟨by decide +kernel, ?_⟩))
theorem wok_stop : wok 0 ["put", "drop", "stop"] := by
  repeat (first | exact trivial | (unfold wok; refine ⟨by decide +kernel, ?_⟩))
theorem ring1_good {n : Int} (hn : -32768 ≤ n ∧ n ≤ 32767) : Good [⟨"a", ring1 n, .go "a"⟩] (fun _ => 0) := one_good (by show 2 ≤ 12; decide) (put_ok hn fun r hr m e => by
  simp [ring1] at hr
  rcases hr with rfl | rfl
  · exact (Row.put.inj e).symm
  · cases e) wok_ring1 fun l hl => ⟨List.mem_singleton.mp hl, by show (0 : Int) = after 0 ["put", "tell", "go"]; decide +kernel⟩
theorem ring2_good {n : Int} (hn : -32768 ≤ n ∧ n ≤ 32767) : Good [⟨"a", ring2 n, .go "a"⟩] (fun _ => 0) := one_good (by show 6 ≤ 12; decide) (put_ok hn fun r hr m e => by
  simp [ring2] at hr
  rcases hr with rfl | rfl | rfl | rfl | rfl | rfl <;> first | exact (Row.put.inj e).symm | cases e) wok_ring2 fun l hl => ⟨List.mem_singleton.mp hl, by show (0 : Int) = after 0 ["put", "put", "drop", "tell", "put", "drop", "go"]; decide +kernel⟩
theorem stop_good {n : Int} (hn : -32768 ≤ n ∧ n ≤ 32767) : Good [⟨"a", [.put n, .drop], .stop⟩] (fun _ => 0) := one_good (by show 2 ≤ 12; decide) (put_ok hn fun r hr m e => by
  simp at hr
  rcases hr with rfl | rfl
  · exact (Row.put.inj e).symm
  · cases e) wok_stop fun l hl => nomatch hl
theorem made_good {n : Int} (hn : -32768 ≤ n ∧ n ≤ 32767) : MGood [⟨"a", 0, [.r (.put n), .r .drop], .stop, []⟩] where
  one := by simp
  six := by simp
  names := fun b hb => by
    cases List.mem_singleton.mp hb
    show nameS "a" = true
    decide +kernel
  beg := fun b hb => by
    cases List.mem_singleton.mp hb
    exact Nat.zero_le _
  many := fun b hb => by
    cases List.mem_singleton.mp hb
    show 2 ≤ 99
    decide
  puts := fun b hb r hr m e => by
    cases List.mem_singleton.mp hb
    subst e
    simp at hr
    rw [hr]
    exact hn
  nodup := by simp
  ends := fun b hb l hl => by
    cases List.mem_singleton.mp hb
    cases hl
  tails := fun b hb t ht => by
    cases List.mem_singleton.mp hb
    cases ht
  tmany := fun b hb => by
    cases List.mem_singleton.mp hb
    exact Nat.zero_le _
def Told (K : PySem.W.Frag) (H : Hp) (q : Addr) (ts : List Int) : Prop := ∃ C dx fs tl, H q = some (.ins C dx fs) ∧ Cls K C ∧ NoAttr K C "told" ∧ fs.lookup (Str.ofString "told") = some (V.ref tl) ∧ H tl = some (.lst (ts.map V.int))
theorem Told.mono {K : PySem.W.Frag} {H H' : Hp} {q : Addr} {ts : List Int} (s : Same H H') (t : Told K H q ts) : Told K H' q ts := by
  obtain ⟨C, dx, fs, tl, a, b, c, d, e⟩ := t
  exact ⟨C, dx, fs, tl, s _ _ a, b, c, d, s _ _ e⟩
def toldOf : Outcome → List Int
  | .ran told _ _ => told
  | .dry told _ _ => told
  | .spent told => told
theorem IsAns.toldIn {w : World} {K : PySem.W.Frag} {mg : Str → Option Value} (T : Tx w K mg) {H0 H : Hp} {q : Addr} : ∀ {o : Outcome}, IsAns K H0 H q o → Told K H q (toldOf o)
  | .ran _ _ _, ⟨dx, tl, pl, a, _, _, _, b, _⟩ => ⟨_, dx, _, tl, a, T.c_Ran, T.n_Ran_told, rfl, b⟩
  | .dry _ _ _, ⟨dx, tl, a, _, b⟩ => ⟨_, dx, _, tl, a, T.c_Dry, T.n_Dry_told, rfl, b⟩
  | .spent _, ⟨dx, tl, a, _, b⟩ => ⟨_, dx, _, tl, a, T.c_Spent, T.n_Spent_told, rfl, b⟩
theorem cover_ok : CovOk ["put", "plus", "put", "plus"] [(["put", "plus"], 5)] 3 where
  words := ⟨Nat.zero_le _, by decide, by decide +kernel⟩
  few := by decide
  joins := fun j hj => by
    cases List.mem_singleton.mp hj
    exact ⟨⟨by decide, by decide, by decide +kernel⟩, by decide⟩
  one := by decide
def sp__law_rings (K : PySem.W.Frag) : Sp := fun vs H Q _ => ∃ n : Int, vs = [V.int n] ∧ ∀ H' v, Same H H' → Dp K H' v (.list [rowsD (ring1 n), rowsD (ring2 n)]) → Q v H'
section
variable {P : Program} {w : World} {K : PySem.W.Frag} {mg : Str → Option Value} {base : Heap}
theorem ok__law_rings (T : Tx w K mg) : Cal P w K mg base 1 "_law_rings" (sp__law_rings K) [] := by
  refine cal_of T.D__law_rings T.g__law_rings sc__law_rings (fun _ _ _ _ _ _ us hl => match us, hl with | [_], _ => rfl) (by walk_at "len") fun cdv A outer s H vs Q E hr h => ?_
  refine ⟨_, (pss_cons (ps_par3 (i := 1) (j := 2) (l := 3) rfl sc__law_rings.nd rfl rfl rfl (by decide) (by decide) (by decide) rfl rfl rfl (pa_cons (pl_tup (K := K) (pls_cons pl_str (pls_cons (pl_var (pv 0)) pls_nil))) (pa_cons (pl_tup (K := K) (pls_cons pl_str pls_nil)) (pa_cons (pl_tup (K := K) (pls_cons pl_str pls_nil)) pa_nil))) rfl)
    (pss_one (ps_ret (pl_lst (K := K) (pls_cons (pl_lst (pls_cons (pl_var (pv 1)) (pls_cons (pl_var (pv 3)) pls_nil))) (pls_cons (pl_lst (pls_cons (pl_var (pv 1)) (pls_cons (pl_var (pv 1)) (pls_cons (pl_var (pv 2)) (pls_cons (pl_var (pv 3)) (pls_cons (pl_var (pv 1)) (pls_cons (pl_var (pv 2)) pls_nil))))))) pls_nil)))))), ?_⟩
  obtain ⟨n, rfl, k⟩ := h
  walk_at "rd"
  have hid0 : ∀ {H : Hp} {v : V} {d : PyData}, Dp K H v d → Dp K (hide H []) v d := fun h => by rw [hide_nil]; exact h
  have hid1 : ∀ {H : Hp} {v : V} {d : PyData}, Dp K (hide H []) v d → Dp K H v d := fun h => by rw [hide_nil] at h; exact h
  refine ⟨[], fun _ => .int n, Tk.nil, VarsAt.cons rfl (.int n) VarsAt.nil, fun H1 v1 s1 d1 => ?_⟩
  refine a_lit rfl (Row.drop).d rfl fun H2 v2 s2 d2 => ?_
  refine a_lit rfl (Row.tell).d rfl fun H3 v3 s3 d3 => ?_
  have e1 : Dp K (hide H3 []) v1 (Row.put n).d := hid0 (Dp.mono (s2.trans s3) (hid1 d1))
  have e2 : Dp K (hide H3 []) v2 (Row.drop).d := hid0 (Dp.mono s3 d2)
  have e3 := hid0 d3
  refine ⟨[], fun i => if i = 1 then (Row.put n).d else if i = 2 then (Row.drop).d else (Row.tell).d, Tk.nil, ?_, fun H4 v4 s4 d4 => k _ _ (s1.trans (s2.trans (s3.trans s4))) (hid1 d4)⟩
  have a1 : ∀ is, VarsAt K (hide H3 []) [some (V.int n), some v1, some v2, some v3] (fun i => if i = 1 then (Row.put n).d else if i = 2 then (Row.drop).d else (Row.tell).d) is → VarsAt K (hide H3 []) [some (V.int n), some v1, some v2, some v3] (fun i => if i = 1 then (Row.put n).d else if i = 2 then (Row.drop).d else (Row.tell).d) (1 :: is) := fun is h => VarsAt.cons rfl e1 h
  have a2 : ∀ is, VarsAt K (hide H3 []) [some (V.int n), some v1, some v2, some v3] (fun i => if i = 1 then (Row.put n).d else if i = 2 then (Row.drop).d else (Row.tell).d) is → VarsAt K (hide H3 []) [some (V.int n), some v1, some v2, some v3] (fun i => if i = 1 then (Row.put n).d else if i = 2 then (Row.drop).d else (Row.tell).d) (2 :: is) := fun is h => VarsAt.cons rfl e2 h
  have a3 : ∀ is, VarsAt K (hide H3 []) [some (V.int n), some v1, some v2, some v3] (fun i => if i = 1 then (Row.put n).d else if i = 2 then (Row.drop).d else (Row.tell).d) is → VarsAt K (hide H3 []) [some (V.int n), some v1, some v2, some v3] (fun i => if i = 1 then (Row.put n).d else if i = 2 then (Row.drop).d else (Row.tell).d) (3 :: is) := fun is h => VarsAt.cons rfl e3 h
  exact a1 _ (a3 _ (a1 _ (a1 _ (a2 _ (a3 _ (a1 _ (a2 _ VarsAt.nil)))))))
end
end Pb

/-! X4 -/
set_option Elab.async false
set_option linter.all false
set_option maxRecDepth 100000
set_option maxHeartbeats 4000000
namespace Pb
open PySem PySem.Spec PyProof.Rows L2
open C8 (Cal Mak Met pe_c pe_mk pe_mt pe_mt0 pe_gc fnScope_by)
/-! short words -/
local macro_rules | `(tactic| walk_at "rd") => `(tactic| try simp only [tVar, tC, tAdd, tSub, t2I, tIsN, tNotN, tB, tAnd, tOr, tNot, tAndV, tOrV, tNotV, tIf, tSeq, tPar, tPar3, tNext, tBreak, tCont, tDrop, tRet, tRetN, tIfS, gName, gNil, gCons, gTup, gSub, tAsg, tAug, ipI, iList, iTup, iRng1, iRng2, iStr, iEnum, iZip,
  tOp, tUn, rI, rI0, rU, tTest, tChain, tFld, sFld, sFldAug, L2.rAdd, L2.rSub, tNil, tCons, tTup, tLst, tCall, tMeth, tMake, tCB, tNoPart, tPart, tSl, tBM0, tBM, tDGet, tDGet1, tDGet2, tDIn, tDNotIn, sDPut, tDNewK, rEq, rNe, scal_ii, scal_ss, scal_bb, scal_nn, scal_ni, scal_in, scal_ns, scal_sn, scal_is, scal_si, List.take_succ_cons, List.take_zero, List.drop_succ_cons, List.drop_zero, upd_same, upd_upd, and_assoc, tKGet, gStar, tDisp, tPairs, tYes,
  L2.start, List.map_cons, List.map_nil, List.length_cons, List.length_nil, List.cons_append, List.nil_append, List.append_nil, List.replicate, Nat.sub_self, Nat.add_sub_cancel, Nat.reduceAdd, Nat.reduceSub, List.set_cons_zero, List.set_cons_succ, List.getElem?_cons_zero, List.getElem?_cons_succ,
  Option.some.injEq, V.int.injEq, V.bl.injEq, V.str.injEq, V.ref.injEq, exists_eq_left', exists_eq_left, exists_eq', exists_eq, true_and, and_true, if_true, if_false, Bool.false_eq_true, List.cons.injEq, Bool.not_true, Bool.not_false, cxK, cxP, cxW, ite_true, ite_false, wipe, reduceCtorEq, and_self, decide_true, decide_false, exists_and_left, exists_const, decide_eq_true_eq])
local macro_rules | `(tactic| walk_at "len") => `(tactic| (intro vs H Q E h; repeat (first | (obtain ⟨e, _⟩ := h; subst e; rfl) | (obtain ⟨_, h⟩ := h))))
local macro_rules | `(tactic| walk_at "wd") => `(tactic| simp (config := {decide := true}) only [V.str.injEq, scal_ss, true_and, if_true, if_false])

def sp_law (K : PySem.W.Frag) : Sp := fun vs H Q _ => ∃ a, ∃ ns : List Int, vs = [.ref a] ∧ SqL K H a (ns.map V.int) ∧ ns.length ≤ 63 ∧ H (covT K) = some (.tbl #[]) ∧ ∀ H', Q (.bl true) H'
theorem a_mkCode {K : PySem.W.Frag} {H : Hp} {v : V} {ms : List Addr} {bs : List Blk} {h : Str → Int} {E : XK} {Qc : Addr → Hp → Prop} (tk : Tk H ms) (hd : Dp K (hide H ms) v (blocksD bs)) (G : Good bs h) (k : ∀ H' p, Same H H' → H p = none → IsCode K H' p bs h → Qc p H') :
    ∀ x dx, H x = none → H dx = none → dx ≠ x → sp_Code___init__ K [.ref x, v] (upd (upd H dx (.own x)) x (.ins (He.ga K (Str.ofString "Code")) dx [])) (fun v H2 => v = .non ∧ Qc x H2) E :=
  fun x dx nx ndx nex => ⟨ms, x, dx, H, v, bs, h, rfl, rfl, nx, ndx, nex, tk, hd, G, fun H1 s1 c1 => ⟨rfl, k H1 x s1 nx (IsCode.mono same_show c1)⟩⟩
section
variable {P : Program} {w : World} {K : PySem.W.Frag} {mg : Str → Option Value} {base : Heap}
theorem ok_law {fd : FuncData} (F_law : FunD K "law" "law" (L2.defArgs s_law) (L2.defBody s_law) (L2.defScope s_law) [] [] (He.ga K "law") fd) (T : Tx w K mg) (F__law_rings : Cal P w K mg base 1 "_law_rings" (sp__law_rings K) []) (M_Code : Mak P w K mg base 6 "Code" (He.ga K "Code") (sp_Code___init__ K) []) (F_brought : KDef P w K mg base 10 "brought" (sp_brought K) ["code", "boxes"] s_brought [("boxes", .int 3)]) (F_run : KDef P w K mg base 5 "run" (sp_run K) ["code", "worths", "most"] s_run [("worths", .ref (kwdAt (He.ga K "run") "worths" K)), ("most", .int 500)]) (F_run_made : KDef P w K mg base 5 "run_made" (sp_run_made K) ["made", "worths", "most"] s_run_made [("worths", .ref (kwdAt (He.ga K "run_made") "worths" K)), ("most", .int 500)]) (M_Mill : KMak P w K mg base 11 "Mill" (He.ga K "Mill") (sp_Mill___init__ K) ["self", "code", "boxes"] s_Mill___init__ "Mill.__init__" [("boxes", .int 3)]) (F_Mill_run : KMet P w K mg base 5 (He.ga K "Mill") "run" (sp_Mill_run K) ["self", "worths", "most", "heard"] s_Mill_run "Mill.run" [("worths", .ref (kwdAt (He.ma K (He.ga K "Mill") "run") "worths" K)), ("most", .int 500), ("heard", .non)]) (F_Mill_made : Met P w K mg base 1 (He.ga K "Mill") "made" (sp_Mill_made K) []) (M_Made : KMak P w K mg base 8 "Made" (He.ga K "Made") (sp_Made___init__ K) ["self", "blocks", "boxes"] s_Made___init__ "Made.__init__" [("boxes", .int 3)]) (F_Made_boxes : Met P w K mg base 1 (He.ga K "Made") "boxes" (sp_Made_boxes K) []) (F_covered : KDef P w K mg base 4 "covered" (sp_covered K) ["words", "joins", "one"] s_covered [("one", .int 3)]) : GFn P w K mg base 13 (He.ga K "law") fd ["_law_script"] (sp_law K) := by
  refine gfn_ofN F_law sc_law (by walk_at "len") fun cdv A outer s H vs Q E hs hr h => ?_
  refine ⟨_, (pss_cons (ps_set (i := 1) sc_law.nd rfl (by first | exact Or.inl rfl | exact Or.inr rfl) (pe_ifExp (pt_cmpR (r := rNeD K) (op_neD hr.units) (pv 0) (pl_lst (K := K) pls_nil) (nomark _)) (pe_op op_mod (pe_ix (r := rIx K) ix_seq (pv 0) pe_int (fun _ _ => rfl)) pe_int) pe_int))
    (pss_cons (ps_for PassesOwn.never rfl (pi_listK (K := K) (pe_c F__law_rings hr (by decide) (by rfl) (pa_cons (pv 1) pa_nil))) (pg_name (i := 2) sc_law.nd rfl (by first | exact Or.inl rfl | exact Or.inr rfl)) (pss_cons (ps_set (i := 3) sc_law.nd rfl (by first | exact Or.inl rfl | exact Or.inr rfl) (pe_mk M_Code hr (by decide) (by rfl) (pa_cons (pl_lst (K := K) (pls_cons (pl_tup (pls_cons pl_str (pls_cons (pl_var (pv 2)) (pls_cons (pl_tup (pls_cons pl_str (pls_cons pl_str pls_nil))) pls_nil)))) pls_nil)) pa_nil)))
    (pss_cons (ps_set (i := 4) sc_law.nd rfl (by first | exact Or.inl rfl | exact Or.inr rfl) (pe_callKD F_brought hr (by decide) (by rfl) 1 [] [("boxes", .int 3)] (fun us mv ws => (us ++ mv)) (fun z => by cases z) (fun q hq => by simp at hq ⊢; simp [hq]) (fun r1 r2 r3 => (r1.append r2)) (fun _ _ _ _ _ _ us mv ws l1 l2 l3 => match us, mv, ws, l1, l2, l3 with | [_], [_], [], _, _, _ => (by (refine ⟨_, _, _, _, _, _, rfl, rfl, ?_⟩); (show _ = _); rfl)) (pa_cons (pv 3) pa_nil) pk_nil))
    (pss_cons (ps_set (i := 5) sc_law.nd rfl (by first | exact Or.inl rfl | exact Or.inr rfl) (pe_lst (pa_cons (pe_callKD F_run hr (by decide) (by rfl) 1 [] [("worths", .ref (kwdAt (He.ga K "run") "worths" K)), ("most", .int 500)] (fun us mv ws => (us ++ mv)) (fun z => by cases z) (fun q hq => by simp at hq ⊢; rcases hq with hq | hq <;> simp [hq]) (fun r1 r2 r3 => (r1.append r2)) (fun _ _ _ _ _ _ us mv ws l1 l2 l3 => match us, mv, ws, l1, l2, l3 with | [_], [_, _], [], _, _, _ => (by (refine ⟨_, _, _, _, _, _, rfl, rfl, ?_⟩); (refine ⟨_, _, _, _, _, _, rfl, rfl, ?_⟩); (show _ = _); rfl)) (pa_cons (pv 3) pa_nil) pk_nil) (pa_cons (pe_callKD F_run_made hr (by decide) (by rfl) 1 [] [("worths", .ref (kwdAt (He.ga K "run_made") "worths" K)), ("most", .int 500)] (fun us mv ws => (us ++ mv)) (fun z => by cases z) (fun q hq => by simp at hq ⊢; rcases hq with hq | hq <;> simp [hq]) (fun r1 r2 r3 => (r1.append r2)) (fun _ _ _ _ _ _ us mv ws l1 l2 l3 => match us, mv, ws, l1, l2, l3 with | [_], [_, _], [], _, _, _ => (by (refine ⟨_, _, _, _, _, _, rfl, rfl, ?_⟩); (refine ⟨_, _, _, _, _, _, rfl, rfl, ?_⟩); (show _ = _); rfl)) (pa_cons (pv 4) pa_nil) pk_nil) (pa_cons (pe_mtK0 F_Mill_run hr (by decide) (pe_mkK M_Mill hr (by decide) (by rfl) 1 [] [("boxes", .int 3)] (fun us mv ws => (us ++ mv)) (fun z => by cases z) (fun q hq => by simp at hq ⊢; simp [hq]) (fun r1 r2 r3 => (r1.append r2)) (fun _ _ _ _ _ _ us mv ws l1 l2 l3 => match us, mv, ws, l1, l2, l3 with | [_, _], [_], [], _, _, _ => (by (refine ⟨_, _, _, _, _, _, rfl, rfl, ?_⟩); (show _ = _); rfl)) (pa_cons (pv 3) pa_nil) pk_nil) [] [("worths", .ref (kwdAt (He.ma K (He.ga K "Mill") "run") "worths" K)), ("most", .int 500), ("heard", .non)] (fun us mv ws => (us ++ mv)) (fun z => by cases z) (fun q hq => by simp at hq ⊢; rcases hq with hq | hq | hq <;> simp [hq]) (fun r1 r2 r3 => (r1.append r2)) (fun _ _ _ _ _ _ us mv ws l1 l2 l3 => match us, mv, ws, l1, l2, l3 with | [_], [_, _, _], [], _, _, _ => (by (refine ⟨_, _, _, _, _, _, rfl, rfl, ?_⟩); (refine ⟨_, _, _, _, _, _, rfl, rfl, ?_⟩); (refine ⟨_, _, _, _, _, _, rfl, rfl, ?_⟩); (show _ = _); rfl)) pk_nil) pa_nil)))))
    (pss_cons (ps_set (i := 6) sc_law.nd rfl (by first | exact Or.inl rfl | exact Or.inr rfl) (pe_lst (pa_cons (pe_callKD F_run hr (by decide) (by rfl) 1 ["most", "worths"] [] (fun us mv ws => (us ++ (ws.drop 1).take 1 ++ (ws.drop 0).take 1)) (fun z => by cases z) (fun q hq => by simp at hq) (fun r1 r2 r3 => ((r1.append ((r3.drop 1).take 1)).append ((r3.drop 0).take 1))) (fun _ _ _ _ _ _ us mv ws l1 l2 l3 => match us, mv, ws, l1, l2, l3 with | [_], [], [_, _], _, _, _ => (by (show _ = _); rfl)) (pa_cons (pv 3) pa_nil) (pk_cons pe_int (pk_cons (pl_tup (K := K) pls_nil) pk_nil))) (pa_cons (pe_callKD F_run_made hr (by decide) (by rfl) 1 ["worths", "most"] [] (fun us mv ws => (us ++ ws)) (fun z => by cases z) (fun q hq => by simp at hq) (fun r1 r2 r3 => (r1.append r3)) (fun _ _ _ _ _ _ us mv ws l1 l2 l3 => match us, mv, ws, l1, l2, l3 with | [_], [], [_, _], _, _, _ => (by (show _ = _); rfl)) (pa_cons (pv 4) pa_nil) (pk_cons (pl_tup (K := K) pls_nil) (pk_cons pe_int pk_nil))) pa_nil))))
    (pss_cons (ps_set (i := 6) sc_law.nd rfl (by first | exact Or.inl rfl | exact Or.inr rfl) (pe_op (r := rCatS K) op_catS (pv 6) (pe_lst (pa_cons (pe_mtK0 F_Mill_run hr (by decide) (pe_mkK M_Mill hr (by decide) (by rfl) 1 [] [("boxes", .int 3)] (fun us mv ws => (us ++ mv)) (fun z => by cases z) (fun q hq => by simp at hq ⊢; simp [hq]) (fun r1 r2 r3 => (r1.append r2)) (fun _ _ _ _ _ _ us mv ws l1 l2 l3 => match us, mv, ws, l1, l2, l3 with | [_, _], [_], [], _, _, _ => (by (refine ⟨_, _, _, _, _, _, rfl, rfl, ?_⟩); (show _ = _); rfl)) (pa_cons (pv 3) pa_nil) pk_nil) ["most", "worths", "heard"] [] (fun us mv ws => (us ++ (ws.drop 1).take 1 ++ (ws.drop 0).take 1 ++ (ws.drop 2).take 1)) (fun z => by cases z) (fun q hq => by simp at hq) (fun r1 r2 r3 => (((r1.append ((r3.drop 1).take 1)).append ((r3.drop 0).take 1)).append ((r3.drop 2).take 1))) (fun _ _ _ _ _ _ us mv ws l1 l2 l3 => match us, mv, ws, l1, l2, l3 with | [_], [], [_, _, _], _, _, _ => (by (show _ = _); rfl)) (pk_cons pe_int (pk_cons (pl_tup (K := K) pls_nil) (pk_cons pe_non pk_nil)))) pa_nil))))
    (pss_one (ps_for PassesOwn.never rfl (pi_zip (by rfl) T.b_zip (pa_cons (pv 5) (pa_cons (pv 6) pa_nil))) (pg_tupK (K := K) (n := 2) rfl (pgs_cons (pg_name (i := 7) sc_law.nd rfl (by first | exact Or.inl rfl | exact Or.inr rfl)) (pgs_cons (pg_name (i := 8) sc_law.nd rfl (by first | exact Or.inl rfl | exact Or.inr rfl)) pgs_nil))) (pss_one (ps_if (pt_cmpR (r := rNeD K) (op_neD hr.units) (pe_fldK (K := K) (pv 7) rfl) (pe_fldK (K := K) (pv 8) rfl) (nomark _)) (pss_one (ps_ret pe_bl)) pss_nil))))))))))
    (pss_cons (ps_set (i := 3) sc_law.nd rfl (by first | exact Or.inl rfl | exact Or.inr rfl) (pe_mk M_Code hr (by decide) (by rfl) (pa_cons (pl_lst (K := K) (pls_cons (pl_tup (pls_cons pl_str (pls_cons (pl_lst (pls_cons (pl_tup (pls_cons pl_str (pls_cons (pl_var (pv 1)) pls_nil))) (pls_cons (pl_tup (pls_cons pl_str pls_nil)) pls_nil))) (pls_cons (pl_tup (pls_cons pl_str pls_nil)) pls_nil)))) pls_nil)) pa_nil)))
    (pss_cons (ps_if (pt_cmpR op_ne (pe_mt0 F_Made_boxes hr (by decide) (pe_callKD F_brought hr (by decide) (by rfl) 1 [] [("boxes", .int 3)] (fun us mv ws => (us ++ mv)) (fun z => by cases z) (fun q hq => by simp at hq ⊢; simp [hq]) (fun r1 r2 r3 => (r1.append r2)) (fun _ _ _ _ _ _ us mv ws l1 l2 l3 => match us, mv, ws, l1, l2, l3 with | [_], [_], [], _, _, _ => (by (refine ⟨_, _, _, _, _, _, rfl, rfl, ?_⟩); (show _ = _); rfl)) (pa_cons (pv 3) pa_nil) pk_nil)) pe_int (nomark _)) (pss_one (ps_ret pe_bl)) pss_nil)
    (pss_cons (ps_if (pt_cmpR op_ne (pe_mt0 F_Made_boxes hr (by decide) (pe_mt0 F_Mill_made hr (by decide) (pe_mkK M_Mill hr (by decide) (by rfl) 1 [] [("boxes", .int 3)] (fun us mv ws => (us ++ mv)) (fun z => by cases z) (fun q hq => by simp at hq ⊢; simp [hq]) (fun r1 r2 r3 => (r1.append r2)) (fun _ _ _ _ _ _ us mv ws l1 l2 l3 => match us, mv, ws, l1, l2, l3 with | [_, _], [_], [], _, _, _ => (by (refine ⟨_, _, _, _, _, _, rfl, rfl, ?_⟩); (show _ = _); rfl)) (pa_cons (pv 3) pa_nil) pk_nil))) pe_int (nomark _)) (pss_one (ps_ret pe_bl)) pss_nil)
    (pss_cons (ps_if (pt_cmpR op_ne (pe_mt0 F_Made_boxes hr (by decide) (pe_mkK M_Made hr (by decide) (by rfl) 1 [] [("boxes", .int 3)] (fun us mv ws => (us ++ mv)) (fun z => by cases z) (fun q hq => by simp at hq ⊢; simp [hq]) (fun r1 r2 r3 => (r1.append r2)) (fun _ _ _ _ _ _ us mv ws l1 l2 l3 => match us, mv, ws, l1, l2, l3 with | [_, _], [_], [], _, _, _ => (by (refine ⟨_, _, _, _, _, _, rfl, rfl, ?_⟩); (show _ = _); rfl)) (pa_cons (pl_lst (K := K) (pls_cons (pl_tup (pls_cons pl_str (pls_cons pl_int (pls_cons (pl_lst (pls_cons (pl_tup (pls_cons pl_str (pls_cons (pl_var (pv 1)) pls_nil))) (pls_cons (pl_tup (pls_cons pl_str pls_nil)) pls_nil))) (pls_cons (pl_tup (pls_cons pl_str pls_nil)) (pls_cons (pl_lst pls_nil) pls_nil)))))) pls_nil)) pa_nil) pk_nil)) pe_int (nomark _)) (pss_one (ps_ret pe_bl)) pss_nil)
    (pss_cons (ps_par (i := 9) (j := 10) rfl sc_law.nd rfl rfl (by decide) rfl rfl (pa_cons (pl_lst (K := K) (pls_cons pl_str (pls_cons pl_str (pls_cons pl_str (pls_cons pl_str pls_nil))))) (pa_cons (pl_lst (K := K) (pls_cons (pl_tup (pls_cons (pl_tup (pls_cons pl_str (pls_cons pl_str pls_nil))) (pls_cons pl_int pls_nil))) pls_nil)) pa_nil)) rfl)
    (pss_cons (ps_par (i := 7) (j := 8) rfl sc_law.nd rfl rfl (by decide) rfl rfl (pa_cons (pe_callKD F_covered hr (by decide) (by rfl) 2 [] [("one", .int 3)] (fun us mv ws => (us ++ mv)) (fun z => by cases z) (fun q hq => by simp at hq ⊢; simp [hq]) (fun r1 r2 r3 => (r1.append r2)) (fun _ _ _ _ _ _ us mv ws l1 l2 l3 => match us, mv, ws, l1, l2, l3 with | [_, _], [_], [], _, _, _ => (by (refine ⟨_, _, _, _, _, _, rfl, rfl, ?_⟩); (show _ = _); rfl)) (pa_cons (pv 9) (pa_cons (pv 10) pa_nil)) pk_nil) (pa_cons (pe_callKD F_covered hr (by decide) (by rfl) 2 ["one"] [] (fun us mv ws => (us ++ ws)) (fun z => by cases z) (fun q hq => by simp at hq) (fun r1 r2 r3 => (r1.append r3)) (fun _ _ _ _ _ _ us mv ws l1 l2 l3 => match us, mv, ws, l1, l2, l3 with | [_, _], [], [_], _, _, _ => (by (show _ = _); rfl)) (pa_cons (pv 9) (pa_cons (pv 10) pa_nil)) (pk_cons pe_int pk_nil)) pa_nil)) rfl)
    (pss_one (ps_ret (pe_and (pe_cmpR (r := rEqD K) (op_eqD hr.units) (pe_fldK (K := K) (pv 7) rfl) (pe_fldK (K := K) (pv 8) rfl) (nomark _)) (pe_one (pe_cmpR (r := rEqD K) (op_eqD hr.units) (pe_fldK (K := K) (pv 7) rfl) (pe_fldK (K := K) (pv 8) rfl) (nomark _)))))))))))))), ?_⟩
  obtain ⟨sc, ns, rfl, hsc, hns, hT, q⟩ := h
  have hid0 : ∀ {H : Hp} {v : V} {d : PyData}, Dp K H v d → Dp K (hide H []) v d := fun h => by rw [hide_nil]; exact h
  have hid1 : ∀ {H : Hp} {v : V} {d : PyData}, Dp K (hide H []) v d → Dp K H v d := fun h => by rw [hide_nil] at h; exact h
  have scD : ∀ {A : Hp}, Same H A → Dp K A (.ref sc) (.list (ns.map PyData.int)) := fun s => .lst (sqL_same s hsc) (DpAll.ints ns)
  refine seq_mid (fun σ Hx => ∃ n : Int, σ = [some (.ref sc), some (.int n), none, none, none, none, none, none, none, none, none] ∧ (-32768 ≤ n ∧ n ≤ 32767) ∧ Same H Hx) (fun Kx hk => ?_) ?_
  · walk_at "rd"
    refine a_lit rfl (.list []) rfl fun H2 v2 s2 d2 => ?_
    refine a_neD (scD s2) d2 (shaped_ints ns) (shaped_ints []) ⟨_, rfl, ?_⟩
    cases ns with
    | nil =>
      rw [if_neg (by simp [PyData.eqv, PyData.eqvAll])]
      exact hk _ _ ⟨7, rfl, by decide, s2⟩
    | cons z r =>
      rw [if_pos (by simp [PyData.eqv, PyData.eqvAll])]
      refine a_ixL (scD s2) atI_0 fun u hu => ?_
      cases hu
      have e1 := Int.emod_nonneg z (show (999 : Int) ≠ 0 by decide)
      have e2 := Int.emod_lt_of_pos z (show (0 : Int) < 999 by decide)
      exact ⟨_, rfl, by decide, hk _ _ ⟨_, rfl, ⟨by omega, by omega⟩, s2⟩⟩
  rintro σ H1 ⟨n, rfl, hn, s1⟩
  refine seq_mid (fun σ Hx => ∃ o2 o3 o4 o5 o6 o7 o8, σ = [some (.ref sc), some (.int n), o2, o3, o4, o5, o6, o7, o8, none, none] ∧ Same H Hx) (fun Kx hk => ?_) ?_
  · refine a_for ?_
    walk_at "rd"
    refine ⟨n, rfl, fun H2 v2 s2 d2 => ?_⟩
    obtain ⟨a2, xs2, rfl, hl2, ha2⟩ := dp_list d2
    have len2 := DpAll.length ha2
    have s12 := s1.trans s2
    refine ⟨a2, rfl, ⟨xs2, hl2⟩, ?_⟩
    refine for_go2 (walk_list (xs := xs2)) (fun i σ Hx => ∃ o2 o3 o4 o5 o6 o7 o8, σ = [some (.ref sc), some (.int n), o2, o3, o4, o5, o6, o7, o8, none, none] ∧ Same H2 Hx) ⟨_, _, _, _, _, _, _, rfl, Same.refl _⟩ (fun i σ Hx _ z => by
      obtain ⟨_, _, _, _, _, _, _, _, z⟩ := z
      exact sqL_same z hl2) ?_ (fun σ Hx z => by
      obtain ⟨_, _, _, _, _, _, _, rfl, z⟩ := z
      exact hk _ _ ⟨_, _, _, _, _, _, _, rfl, s12.trans z⟩)
    rintro Pw yes i y σ Hx Hx' hi ⟨o2, o3, o4, o5, o6, o7, o8, rfl, sx⟩ ⟨e0, ey⟩
    subst e0
    obtain ⟨d, ed, hd⟩ := DpAll.at ha2 ey
    obtain ⟨rows, rfl, G⟩ : ∃ rows : List Row, d = rowsD rows ∧ Good [⟨"a", rows, .go "a"⟩] (fun _ => 0) := by
      have hi2 : i < 2 := by rw [len2] at hi; exact hi
      match i, hi2, ed with
      | 0, _, ed => cases ed; exact ⟨_, rfl, ring1_good hn⟩
      | 1, _, ed => cases ed; exact ⟨_, rfl, ring2_good hn⟩
    refine g_name ?_
    walk_at "rd"
    refine ⟨[], fun _ => rowsD rows, Tk.nil, VarsAt.cons rfl (hid0 (Dp.mono sx hd)) VarsAt.nil, fun H3 v3 s3 d3 => ?_⟩
    refine a_mkCode (bs := [⟨"a", rows, .go "a"⟩]) Tk.nil d3 G fun H4 cp s4 n4 c4 => ?_
    unfold L2.tCallN L2.tMakeK tMethK
    walk_at "rd"
    generalize ([⟨"a", rows, .go "a"⟩] : List Blk) = bs at *
    refine ⟨[], cp, bs, _, 3, rfl, Tk.nil, by rw [hide_nil]; exact c4, G, by decide, by decide, fun H5 qm gm mbs s5 nqm im br mgd => ?_⟩
    rw [hide_nil] at im
    have fm := fits_of G (by decide) (by decide) br
    have w0 : Worths [] := fun _ h => nomatch h
    have z0 : ([] : List Int).length < sizeLine := by rw [sizeLine_eq]; decide
    have nilT : ∀ {A : Hp} {v : V}, Dp K A v (.tuple []) → IntSeq K A v [] := fun h => by
      obtain ⟨a, xs, rfl, h1, h2⟩ := dp_tuple h
      cases h2
      exact ⟨a, rfl, .inr h1⟩
    have c5 := c4.mono s5
    refine ⟨cp, _, bs, _, [], 500, rfl, c5, G, ⟨_, rfl, .inr (T.e_run_worths H5)⟩, z0, w0, by decide, fun H6 q6 s6 nq6 an6 => ?_⟩
    have t6 := IsAns.toldIn T an6
    refine ⟨qm, _, bs, _, mbs, _, [], 3, 500, rfl, im.mono s6, mgd, G, fm, ⟨_, rfl, .inr (T.e_run_made_worths H6)⟩, z0, w0, by decide, fun H7 q7 s7 nq7 an7 => ?_⟩
    have t7 := IsAns.toldIn T an7
    have s57 := s6.trans s7
    intro p dx hp hdx hne
    refine ⟨p, dx, H7, cp, bs, _, 3, rfl, ⟨rfl, hp, hdx, hne⟩, c5.mono s57, G, by decide, by decide, fun H8 q8 g8 m8 rl s8 nrl il im8 br8 gd8 => ⟨rfl, _, _, il.1, rfl, ?_⟩⟩
    refine ⟨p, dx, q8, rl, [], 0, _, bs, _, m8, _, [], 3, 500, rfl, il, by decide, im8, gd8, G, fits_of G (by decide) (by decide) br8, ⟨_, rfl, .inr (T.e_Mill_run_worths _)⟩, z0, w0, by decide, fun H9 q9 sx9 nq9 an9 => ?_⟩
    have t9 := IsAns.toldIn T an9
    have over : ∀ {A B C : Hp} {p rl : Addr}, A p = none → A rl = none → Same A B → Sx [p, rl] B C → Same A C := fun h1 h2 s x b o e => by
      refine x b o (fun z => ?_) (s b o e)
      rcases List.mem_cons.mp z with z | z
      · rw [z, h1] at e; cases e
      · rw [List.mem_singleton.mp z, h2] at e; cases e
    have s79 := over hp nrl s8 sx9
    refine ⟨by decide, fun l1 hl1 => ?_⟩
    have sl1 := same_new (o := HO.lst [V.ref q6, V.ref q7, V.ref q9]) hl1
    have at1 : upd H9 l1 (HO.lst [V.ref q6, V.ref q7, V.ref q9]) l1 = some (.lst [.ref q6, .ref q7, .ref q9]) := upd_same
    have sA := s79.trans sl1
    replace t6 := Told.mono (s7.trans sA) t6
    replace t7 := Told.mono sA t7
    replace t9 := Told.mono sl1 t9
    have cA := c5.mono (s57.trans sA)
    have imA := im.mono (s57.trans sA)
    have s05 := sx.trans (s3.trans (s4.trans (s5.trans (s57.trans sA))))
    generalize upd H9 l1 (HO.lst [V.ref q6, V.ref q7, V.ref q9]) = A1 at *
    clear hl1 sl1 sA s79 s57 an6 an7 an9 il im8 br8 gd8 sx9 c5 im d3 s8 s7 s6
    refine ⟨[], fun _ => .none, Tk.nil, VarsAt.nil, fun A2 v2 r2 e2 => ?_⟩
    refine ⟨cp, _, bs, _, [], 500, rfl, cA.mono r2, G, nilT (hid1 e2), z0, w0, by decide, fun A3 b3 r3 nb3 bn3 => ?_⟩
    have u3 := IsAns.toldIn T bn3
    refine ⟨[], fun _ => .none, Tk.nil, VarsAt.nil, fun A4 v4 r4 e4 => ?_⟩
    have r14 := r2.trans (r3.trans r4)
    refine ⟨qm, _, bs, _, mbs, _, [], 3, 500, rfl, imA.mono r14, mgd, G, fm, nilT (hid1 e4), z0, w0, by decide, fun A5 b5 r5 nb5 bn5 => ?_⟩
    have u5 := IsAns.toldIn T bn5
    refine ⟨by decide, fun l2 hl2 => ?_⟩
    have sl2 := same_new (o := HO.lst [V.ref b3, V.ref b5]) hl2
    have at2 : upd A5 l2 (HO.lst [V.ref b3, V.ref b5]) l2 = some (.lst [.ref b3, .ref b5]) := upd_same
    have r16 := r14.trans (r5.trans sl2)
    replace u3 := Told.mono (r4.trans (r5.trans sl2)) u3
    replace u5 := Told.mono sl2 u5
    generalize upd A5 l2 (HO.lst [V.ref b3, V.ref b5]) = A6 at *
    clear hl2 sl2
    intro p dx hp hdx hne
    refine ⟨p, dx, A6, cp, bs, _, 3, rfl, ⟨rfl, hp, hdx, hne⟩, cA.mono r16, G, by decide, by decide, fun A7 q8 g8 m8 rl r7 nrl il im8 br8 gd8 => ⟨rfl, _, _, il.1, rfl, ?_⟩⟩
    have tk7 : Tk A7 [p, rl] := Tk.cons il.1 (Tk.cons il.2 Tk.nil)
    refine ⟨[p, rl], fun _ => .none, tk7, VarsAt.nil, fun A8 v8 r8 e8 => ?_⟩
    refine ⟨p, dx, q8, rl, [], 0, _, bs, _, m8, _, [], 3, 500, rfl, ⟨r8 _ _ il.1, r8 _ _ il.2⟩, by decide, im8.mono (Same.hide r8 _), gd8, G, fits_of G (by decide) (by decide) br8, nilT e8, z0, w0, by decide, fun A9 b9 rx9 nb9 bn9 => ?_⟩
    have u9 := IsAns.toldIn T bn9
    have r69 := over hp nrl (r7.trans r8) rx9
    refine ⟨by decide, fun l3 hl3 => ?_⟩
    have sl3 := same_new (o := HO.lst [V.ref b9]) hl3
    refine ⟨l2, l3, _, _, rfl, rfl, SqL.of (sl3 _ _ (r69 _ _ at2)), SqL.of upd_same, by rw [sizeLine_eq]; show 2 + 1 ≤ 16777216; decide, fun l4 hl4 => ?_⟩
    have sl4 := same_new (o := HO.lst ([V.ref b3, V.ref b5] ++ [V.ref b9])) hl4
    have at4 : upd (upd A9 l3 (HO.lst [V.ref b9])) l4 (HO.lst ([V.ref b3, V.ref b5] ++ [V.ref b9])) l4 = some (.lst [.ref b3, .ref b5, .ref b9]) := upd_same
    have s9 := r69.trans (sl3.trans sl4)
    have at1' := s9 _ _ (r16 _ _ at1)
    replace t6 := Told.mono (r16.trans s9) t6
    replace t7 := Told.mono (r16.trans s9) t7
    replace t9 := Told.mono (r16.trans s9) t9
    replace u3 := Told.mono s9 u3
    replace u5 := Told.mono s9 u5
    replace u9 := Told.mono (sl3.trans sl4) u9
    have s06 := s05.trans (r16.trans s9)
    generalize upd (upd A9 l3 (HO.lst [V.ref b9])) l4 (HO.lst ([V.ref b3, V.ref b5] ++ [V.ref b9])) = B0 at *
    clear hl3 hl4 sl3 sl4 s9
    generalize toldOf (outcome bs [] 500) = ts at *
    have left : ∀ (i : Nat) (v : V), [V.ref q6, V.ref q7, V.ref q9][i]? = some v → ∃ b, v = V.ref b ∧ Told K B0 b ts := fun i v e => by
      match i, e with
      | 0, e => cases e; exact ⟨_, rfl, t6⟩
      | 1, e => cases e; exact ⟨_, rfl, t7⟩
      | 2, e => cases e; exact ⟨_, rfl, t9⟩
    have right : ∀ (i : Nat) (v : V), [V.ref b3, V.ref b5, V.ref b9][i]? = some v → ∃ b, v = V.ref b ∧ Told K B0 b ts := fun i v e => by
      match i, e with
      | 0, e => cases e; exact ⟨_, rfl, u3⟩
      | 1, e => cases e; exact ⟨_, rfl, u5⟩
      | 2, e => cases e; exact ⟨_, rfl, u9⟩
    refine a_for ?_
    walk_at "rd"
    refine ⟨_, SqL.of at1', _, SqL.of at4, ?_⟩
    refine for_go2 (walk_zip (xs := [V.ref q6, V.ref q7, V.ref q9]) (ys := [V.ref b3, V.ref b5, V.ref b9]) (n := 3) rfl) (fun j σ Hz => ∃ o7 o8, σ = [some (V.ref sc), some (V.int n), some y, some (V.ref cp), some (V.ref qm), some (V.ref l1), some (V.ref l4), o7, o8, none, none] ∧ Same B0 Hz) ⟨_, _, rfl, Same.refl _⟩ (fun j σ Hz _ z => by
      obtain ⟨_, _, _, z⟩ := z
      exact ⟨SqL.of (z _ _ at1'), SqL.of (z _ _ at4)⟩) ?_ (fun σ Hz z => by
      obtain ⟨_, _, rfl, z⟩ := z
      exact yes _ _ _ ⟨_, _, _, _, _, _, _, rfl, s06.trans z⟩)
    rintro Pz yesz j z σ Hz Hz' hj ⟨o7, o8, rfl, sz⟩ yy
    obtain ⟨p3, y1, y2, rfl, hp3, rfl, ey1, ey2⟩ := yy
    obtain ⟨c1, rfl, C1, dx1, f1, tl1, a1, a2, a3, a4, a5⟩ := left j y1 ey1
    obtain ⟨c2, rfl, C2, dx2, f2, tl2, e1, e2, e3, e4, e5⟩ := right j y2 ey2
    refine a_t2V (.inl (.inl upd_same)) ?_
    have sy := sz.trans (same_new (o := HO.tup [V.ref c1, V.ref c2]) hp3)
    generalize upd Hz p3 (HO.tup [V.ref c1, V.ref c2]) = Hy at *
    walk_at "rd"
    refine ⟨_, _, _, sy _ _ a1, a2, a3, _, a4, _, _, _, sy _ _ e1, e2, e3, _, e4, ?_⟩
    refine a_neSelf (d := .list (ts.map PyData.int)) (.lst (SqL.of (sy _ _ a5)) (DpAll.ints _)) (.lst (SqL.of (sy _ _ e5)) (DpAll.ints _)) (shaped_ints _) ⟨_, rfl, ?_⟩
    rw [if_neg (by decide)]
    exact yesz _ _ _ ⟨_, _, rfl, sy⟩
  rintro σ H2 ⟨o2, o3, o4, o5, o6, o7, o8, rfl, s2⟩
  refine seq_mid (fun σ Hx => ∃ cp bs, σ = [some (.ref sc), some (.int n), o2, some (.ref cp), o4, o5, o6, o7, o8, none, none] ∧ Same H Hx ∧ bs = [⟨"a", [.put n, .drop], .stop⟩] ∧ IsCode K Hx cp bs (fun _ => 0)) (fun Kx hk => ?_) ?_
  · walk_at "rd"
    refine ⟨[], fun _ => .int n, Tk.nil, VarsAt.cons rfl (.int n) VarsAt.nil, fun H3 v3 s3 d3 => ?_⟩
    exact a_mkCode (bs := [⟨"a", [.put n, .drop], .stop⟩]) Tk.nil d3 (stop_good hn) fun H4 cp s4 n4 c4 => hk _ _ ⟨cp, _, rfl, s2.trans (s3.trans s4), rfl, c4⟩
  rintro σ H3 ⟨cp, bs, rfl, s3, eb, hc3⟩
  refine seq_mid (fun σ Hx => σ = [some (.ref sc), some (.int n), o2, some (.ref cp), o4, o5, o6, o7, o8, none, none] ∧ Same H3 Hx) (fun Kx hk => ?_) ?_
  · walk_at "rd"
    unfold L2.tCallN
    walk_at "rd"
    refine ⟨[], cp, bs, _, 3, rfl, Tk.nil, by rw [hide_nil]; exact hc3, by rw [eb]; exact stop_good hn, by decide, by decide, fun H4 q4 g4 m4 s4 n4 i4 b4 g5 => ?_⟩
    rw [hide_nil] at i4
    obtain ⟨mdx, mpa, me, _⟩ := id i4
    refine ⟨q4, rfl, _, _, me, rfl, [], q4, m4, 3, rfl, Tk.nil, by rw [hide_nil]; exact i4, rfl, ?_⟩
    rw [if_neg (by decide)]
    exact hk _ _ ⟨rfl, s4⟩
  rintro σ H4 ⟨rfl, s4⟩
  refine seq_mid (fun σ Hx => σ = [some (.ref sc), some (.int n), o2, some (.ref cp), o4, o5, o6, o7, o8, none, none] ∧ Same H3 Hx) (fun Kx hk => ?_) ?_
  · walk_at "rd"
    unfold L2.tMakeK
    walk_at "rd"
    intro p dx hp hdx hne
    refine ⟨p, dx, H4, cp, bs, _, 3, rfl, ⟨rfl, hp, hdx, hne⟩, hc3.mono s4, by rw [eb]; exact stop_good hn, by decide, by decide, fun H5 q5 g5 m5 rl s5 nrl im i5 b5 gd5 => ⟨rfl, ?_⟩⟩
    obtain ⟨mdx, mpa, me, _⟩ := id (i5.mono same_show)
    refine ⟨_, _, im.1, rfl, p, _, q5, rl, _, _, _, rfl, im, q5, rfl, _, _, me, rfl, [], q5, m5, 3, rfl, Tk.nil, by rw [hide_nil]; exact i5.mono same_show, rfl, ?_⟩
    rw [if_neg (by decide)]
    exact hk _ _ ⟨rfl, s4.trans s5⟩
  clear s4
  rintro σ H5 ⟨rfl, s5⟩
  refine seq_mid (fun σ Hx => σ = [some (.ref sc), some (.int n), o2, some (.ref cp), o4, o5, o6, o7, o8, none, none] ∧ Same H3 Hx) (fun Kx hk => ?_) ?_
  · walk_at "rd"
    unfold L2.tMakeK
    walk_at "rd"
    refine ⟨[], fun _ => .int n, Tk.nil, VarsAt.cons rfl (.int n) VarsAt.nil, fun H6 v6 s6 d6 => ?_⟩
    intro p dx hp hdx hne
    refine ⟨[], p, dx, H6, v6, [⟨"a", 0, [.r (.put n), .r .drop], .stop, []⟩], 3, rfl, ⟨rfl, hp, hdx, hne⟩, Tk.nil, d6, made_good hn, by decide, by decide, fun H7 s7 im => ⟨rfl, ?_⟩⟩
    rw [hide_nil] at im
    obtain ⟨mdx, mpa, me, _⟩ := id im
    refine ⟨_, _, me, rfl, [], p, _, 3, rfl, Tk.nil, by rw [hide_nil]; exact im, rfl, ?_⟩
    rw [if_neg (by decide)]
    exact hk _ _ ⟨rfl, s5.trans (s6.trans s7)⟩
  clear s5
  rintro σ H6 ⟨rfl, s6⟩
  have s06 := s3.trans s6
  have tab6 : LamX.TabS H6 (covT K) covL := LamX.TabS.ext (LamX.TabS.nil hT) s06
  have tk6 : Tk H6 [covT K] := Tk.cons (s06 _ _ hT) Tk.nil
  walk_at "rd"
  refine ⟨[covT K], fun _ => .none, tk6, VarsAt.nil, fun H7 v7 s7 d7 => ?_⟩
  refine ⟨[covT K], fun _ => .none, tk6.same s7, VarsAt.nil, fun H8 v8 s8 d8 => ?_⟩
  have d78 := Dp.mono (Same.hide s8 [covT K]) d7
  have s68 := s7.trans s8
  unfold L2.tCallN
  walk_at "rd"
  refine ⟨v7, v8, ["put", "plus", "put", "plus"], [(["put", "plus"], 5)], 3, rfl, d78, d8, cover_ok, tab6.ext s68, fun H9 q9 dx9 pl9 nl9 sx9 tab9 nq9 aq9 npl9 nnl9 ne9 apl9 anl9 => ?_⟩
  have h9 := sx9.hide (ms' := [covT K]) fun _ z => z
  refine ⟨v7, v8, ["put", "plus", "put", "plus"], [(["put", "plus"], 5)], 3, rfl, Dp.mono h9 d78, Dp.mono h9 d8, cover_ok, tab9, fun Ha qa dxa pla nla sxa taba nqa aqa npla nnla nea apla anla => ?_⟩
  have at8 : H8 (covT K) = some (.tbl #[]) := s68 _ _ (s06 _ _ hT)
  have off : ∀ b, H8 b = none → b ∉ [covT K] := fun b hb z => by rw [List.mem_singleton.mp z, at8] at hb; cases hb
  have aq := sxa _ _ (off _ nq9) aq9
  have apl := sxa _ _ (off _ npl9) apl9
  have anl := sxa _ _ (off _ nnl9) anl9
  generalize cvParts ["put", "plus", "put", "plus"] [(["put", "plus"], 5)] 3 = cp1 at *
  generalize cvNums ["put", "plus", "put", "plus"] [(["put", "plus"], 5)] 3 = cn1 at *
  have cd : ∀ xs : List (Option Nat), DpAll K Ha (xs.map countV) (xs.map countD) := fun xs => by
    induction xs with
    | nil => exact .nil
    | cons x xs ih => exact .cons (by cases x with
      | none => exact .non
      | some c => exact .int _) ih
  have shc : SeqAt.shaped (.list (cp1.map countD)) = true := shaped_of (n := 1) (shp_list fun d hd => by
    obtain ⟨x, _, e⟩ := List.mem_map.mp hd
    rw [← e]
    cases x with
    | none => exact shp_none
    | some c => exact shp_int) (by decide)
  refine ⟨q9, rfl, _, _, _, aq, T.c_Cover, T.n_Cover_parts, _, rfl, qa, rfl, _, _, _, aqa, T.c_Cover, T.n_Cover_parts, _, rfl, ?_⟩
  refine a_eqSelf (d := .list (cp1.map countD)) (.lst (SqL.of apl) (cd _)) (.lst (SqL.of apla) (cd _)) shc ⟨_, rfl, ?_⟩
  rw [if_pos rfl]
  exact ⟨q9, rfl, _, _, _, aq, T.c_Cover, T.n_Cover_numbers, _, rfl, qa, rfl, _, _, _, aqa, T.c_Cover, T.n_Cover_numbers, _, rfl, a_eqSelf (d := .list (cn1.map PyData.int)) (.lst (SqL.of anl) (DpAll.ints _)) (.lst (SqL.of anla) (DpAll.ints _)) (shaped_ints _) (q _)⟩
end
end Pb

/-! the end -/
set_option maxRecDepth 100000
namespace Pb
open PySem PySem.Spec PyProof.Rows L2
open C8 (Cal Mak Met)
theorem law_end {P : Program} {w : World} {K : PySem.W.Frag} {h : Heap} {mg : Str → Option Value} {fa : Addr} (T : Tx w K mg) (KX : K.In h) (cc : He.SaysX hfa hfn hts htf hex w h K) (hmg : mg ("law" : Str) = some (.ref fa)) : ∃ (K : PySem.W.Frag) (fd : FuncData) (sp : Sp) (c T : Addr), K.In h ∧ PySem.W.codeHdIn K c T = true ∧ h.get? T = some { cls := .none, data := .fields #[] } ∧ K.lookup T = none ∧ (∀ (s : Shared) (u : Value), BindsTo s fd ⟨[u], []⟩ [("_law_script", u)]) ∧
    (∀ (H : Hp) (a : Addr) (ns : List Int), ns.length ≤ 63 → H T = some (.tbl #[]) → SqL K H a (ns.map V.int) → sp [.ref a] H (fun v _ => v = .bl true) fun _ _ _ => False) ∧ ∀ base : Heap, K.In base → base.Ns mainGlobals mg → LamX.TabB base mg c T → GFn P w K mg base 13 fa fd ["_law_script"] sp := by
  have e := hmg.symm.trans T.g_law
  cases e
  obtain ⟨fd, F⟩ := id T.D_law
  have b := FunD.bindsA (ps := ["_law_script"]) F fun _ _ _ _ _ _ us hl => match us, hl with | [_], _ => rfl
  refine ⟨K, fd, sp_law K, (He.cT K ("covered", none)).1, (He.cT K ("covered", none)).2, KX, cc.hd _ (.head _), cc.empty _ (.head _), cc.out _ (.head _), fun s v => b s [v] rfl, fun H a ns hl hT hS => ⟨a, ns, rfl, hS, hl, hT, fun _ => rfl⟩, fun base _ _ TB => ?_⟩
  have F__law_rings := ok__law_rings (P := P) (base := base) T 
  have F_is_name := ok_is_name (P := P) (base := base) T 
  have F_is_tuple_of := ok_is_tuple_of (P := P) (base := base) T 
  have F_is_whole := ok_is_whole (P := P) (base := base) T 
  have F_within := ok_within (P := P) (base := base) T F_is_whole
  have F_is_worth := ok_is_worth (P := P) (base := base) T F_within
  have F_is_row := ok_is_row (P := P) (base := base) T F_is_tuple_of F_is_worth
  have F_is_end := ok_is_end (P := P) (base := base) T F_is_tuple_of F_is_name
  have F_are_blocks := ok_are_blocks (P := P) (base := base) T F_is_name F_is_row F_is_end
  have F_touches := ok_touches (P := P) (base := base) T 
  have F_change := ok_change (P := P) (base := base) T 
  have F_Code_find_heights := ok_find_heights (P := P) (base := base) T F_touches F_change
  have M_Code := ok_Code_init (P := P) (base := base) T F_are_blocks F_Code_find_heights
  have F_check_boxes := ok_check_boxes (P := P) (base := base) T F_within
  have F_moves_between := ok_moves_between (P := P) (base := base) T 
  have F_ways_through := ok_ways_through (P := P) (base := base) T F_touches F_change F_moves_between
  have F_with_begin := ok_with_begin (P := P) (base := base) T 
  have F_Code_first := ok_Code_first (P := P) (base := base) T 
  have F_all_begins := ok_all_begins (P := P) (base := base) T F_with_begin F_Code_first
  have F_best_end := ok_best_end (P := P) (base := base) T 
  have F_is_move := ok_is_move (P := P) (base := base) T F_is_tuple_of
  have F_is_made_row := ok_is_made_row (P := P) (base := base) T F_is_row F_is_move
  have F_are_rows := ok_are_rows (P := P) (base := base) T F_is_made_row F_is_move
  have F_is_made_block := ok_is_made_block (P := P) (base := base) T F_is_name F_within F_are_rows F_is_end
  have F_copied := ok_copied (P := P) (base := base) T 
  have M_Made := ok_Made_init (P := P) (base := base) T F_check_boxes F_is_made_block F_copied
  have F_brought := ok_brought (P := P) (base := base) T F_check_boxes F_ways_through F_all_begins F_best_end F_moves_between M_Made
  have F_check_run := ok_check_run (P := P) (base := base) T F_is_worth F_within
  have M_Tally := ok_Tally_init (P := P) (base := base) T 
  have F_Tally_step := ok_Tally_step (P := P) (base := base) T 
  have F_Tally_tell := ok_Tally_tell (P := P) (base := base) T 
  have F_Tally_hear := ok_Tally_hear (P := P) (base := base) T 
  have F_brought_back := ok_brought_back (P := P) (base := base) T 
  have F_summed := ok_summed (P := P) (base := base) T F_brought_back
  have F_done_on := ok_done_on (P := P) (base := base) T F_summed
  have F_next_label := ok_next_label (P := P) (base := base) T 
  have M_Ran := ok_Ran_init (P := P) (base := base) T 
  have M_Dry := ok_Dry_init (P := P) (base := base) T 
  have M_Spent := ok_Spent_init (P := P) (base := base) T 
  have F_run := ok_run (P := P) (base := base) T F_check_run M_Tally F_Code_first F_Tally_step F_Tally_tell F_Tally_hear F_done_on F_next_label M_Ran M_Dry M_Spent
  have M_Store := ok_Store_init (P := P) (base := base) T 
  have F_Store_move := ok_Store_move (P := P) (base := base) T 
  have F_run_heard := ok_run_heard (P := P) (base := base) T M_Store F_Store_move F_Tally_step F_Tally_tell F_Tally_hear F_done_on F_next_label M_Ran M_Dry M_Spent
  have F_run_made := ok_run_made (P := P) (base := base) T F_check_run M_Tally F_run_heard
  have M_Mill := ok_Mill_init (P := P) (base := base) T F_brought
  have F_Mill_run := ok_Mill_run (P := P) (base := base) T F_check_run M_Tally F_run_heard
  have F_Mill_made := ok_Mill_made (P := P) (base := base) T 
  have F_Made_boxes := ok_Made_boxes (P := P) (base := base) T 
  have F_are_words := ok_are_words (P := P) (base := base) T 
  have F_is_join := ok_is_join (P := P) (base := base) T F_are_words F_within
  have F_parts_at := ok_parts_at (P := P) (base := base) T 
  have M_Cover := ok_Cover_init (P := P) (base := base) T 
  have F_covered := ok_covered (P := P) (base := base) T TB F_are_words F_is_join F_within F_parts_at M_Cover
  exact ok_law F T F__law_rings M_Code F_brought F_run F_run_made M_Mill F_Mill_run F_Mill_made M_Made F_Made_boxes F_covered
end Pb
open PySem PySem.W PySem.Calls PyProof.Rows
theorem PySem.Challenge.cw_pileboxes_k10_left_out_holds : PySem.Challenge.rw_pileboxes_k10_left_out.Holds := by
  w_on; o_law
  refine HandSHeadRun.head_any (r := OpenLaw.row PySem.Challenge.rw_pileboxes_k10_left_out) (q := view (OpenLaw.row PySem.Challenge.rw_pileboxes_k10_left_out).prog [89]) (H := Pb.hk) (ob := Pb.hob) (M := 12000) (loose := Pb.hnames) (d := HandSHeadRun.topDef (OpenLaw.row PySem.Challenge.rw_pileboxes_k10_left_out).prog 89) (kwd := []) Pb.hob_eq
    (by kernel_rfl) (fun s => by kernel_rfl) Pb.hrun (by kernel_rfl) (by kernel_rfl) (by kernel_rfl) (by rfl) (by first | assumption | decide +kernel) (by decide +kernel) ⟨rfl, rfl, rfl, rfl, rfl, by decide +kernel⟩ ?hw ?hc
  case hw => w_witness2
  case hc =>
    refine Pb.walk_ofGT (l := PySem.Challenge.rw_pileboxes_k10_left_out) (n := 63) (k := 13) (x := "_law_script") rfl (by decide) (by kernel_rfl) ⟨rfl, by decide, by decide⟩ ?F
    intro w mg fa h Y G hmg0
    obtain ⟨K, KX, c⟩ := Y
    have T := Pb.tx_of KX G c
    have hmg : mg ("law" : PySem.Str) = some (.ref fa) := by
      have e : (HandSHeadRun.topDef (OpenLaw.row PySem.Challenge.rw_pileboxes_k10_left_out).prog 89).name = ("law" : PySem.Str) := by kernel_rfl
      rw [← e]
      exact hmg0
    exact Pb.law_end T KX c hmg
