import PyProof.Rows.All
import Wide.All
import OpenK.AllK
import Wide.FinOn
import HandS.ForMost
import HandS.IsInst
import HandS.Codes
import HandS.Defaults
import HandS.RevRange
import HandS.NoneIn
import HandS.HeadHook4
import HandS.Walk
import HandS.OwnEq
import HandS.DictSub
import HandS.HeadHook1
import PyProof.InstSpecial
import HandS.MakeKwOnly
import HandS.HeadHook2
import HandS.Ends
import HandS.HeadEnd
import PyProof.ReprRoads
import HandS.EndTab
import HandS.NestedK
import KE.KUnpackStar
import HandS.SetBool
import HandS.SetKeys
import HandS.DictComp
import HandS.Style
import HandS.WordsDict
import HandS.Small
import Wide.Once
import KE.KStateDown
import HandS.Head0
import HandS.Head1
import HandS.Head2
import HandS.Deep
import KE.DataMinKey
import KE.DataMinMax
import HandS.Lambda
import HandS.SortKw
import HandS.TupSets
import HandS.Strs
import PyProof.CallStr
import PyProof.FString5
import PyProof.P3In
import HandS.Finally
import PyProof.ReprReads
import PyProof.StrLawsRepr
import PyProof.Rows.StrDigitsNeg
import PyProof.Rows.StrJoinMade
import PySem.Challenge.RW_pileboxes_k04_whole_covered
set_option Elab.async false
/-! PbBase -/
set_option Elab.async false
set_option linter.all false
set_option maxRecDepth 100000
set_option maxHeartbeats 4000000
/-! Pb: data in the abstract heap, with what is being changed hidden -/
namespace Pb
open PySem PySem.Spec PyProof.Rows L2
open C8 (Cal Mak Met pe_c pe_mk pe_mt pe_mt0 pe_gc fnScope_by)
/-! ### hidden places -/
def hide (H : Hp) (ms : List Addr) : Hp := fun a => if a ∈ ms then none else H a
theorem hide_nil {H : Hp} : hide H [] = H := by
  funext a
  unfold hide
  rw [if_neg (by simp)]
theorem hide_of {H : Hp} {ms : List Addr} {a : Addr} {o : HO} (h : hide H ms a = some o) : H a = some o ∧ a ∉ ms := by
  unfold hide at h
  by_cases q : a ∈ ms
  · rw [if_pos q] at h; cases h
  · rw [if_neg q] at h; exact ⟨h, q⟩
theorem hide_at {H : Hp} {ms : List Addr} {a : Addr} (q : a ∉ ms) : hide H ms a = H a := by
  unfold hide
  rw [if_neg q]
theorem hide_in {H : Hp} {ms : List Addr} {a : Addr} (q : a ∈ ms) : hide H ms a = none := by
  unfold hide
  rw [if_pos q]
theorem Same.hide {H H' : Hp} (s : Same H H') (ms : List Addr) : Same (hide H ms) (hide H' ms) := fun b o e => by
  obtain ⟨e1, e2⟩ := hide_of e
  rw [hide_at e2]
  exact s b o e1
theorem same_show {H : Hp} {ms : List Addr} : Same (hide H ms) H := fun b o e => (hide_of e).1
theorem same_less {H : Hp} {ms ms' : List Addr} (h : ∀ a ∈ ms', a ∈ ms) : Same (hide H ms) (hide H ms') := fun b o e => by
  obtain ⟨e1, e2⟩ := hide_of e
  rw [hide_at fun z => e2 (h b z)]
  exact e1
/-- what is hidden is tracked -/
def Tk (H : Hp) (ms : List Addr) : Prop := ∀ m ∈ ms, H m ≠ none
theorem Tk.nil {H : Hp} : Tk H [] := fun _ h => nomatch h
theorem Tk.cons {H : Hp} {m : Addr} {ms : List Addr} {o : HO} (h : H m = some o) (t : Tk H ms) : Tk H (m :: ms) := fun x hx => by
  rcases List.mem_cons.mp hx with e | hx
  · rw [e, h]; exact fun z => nomatch z
  · exact t x hx
theorem Tk.same {H H' : Hp} {ms : List Addr} (t : Tk H ms) (s : Same H H') : Tk H' ms := fun m hm => by
  cases e : H m with
  | none => exact absurd e (t m hm)
  | some o => rw [s m o e]; exact fun z => nomatch z
theorem Tk.upd {H : Hp} {ms : List Addr} {a : Addr} {o : HO} (t : Tk H ms) : Tk (upd H a o) ms := fun m hm => by
  by_cases e : m = a
  · rw [e, upd_same]; exact fun z => nomatch z
  · rw [upd_ne e]; exact t m hm
theorem Tk.out {H : Hp} {ms : List Addr} {p : Addr} (t : Tk H ms) (h : H p = none) : p ∉ ms := fun z => t p z h
theorem same_new {H : Hp} {p : Addr} {o : HO} (h : H p = none) : Same H (upd H p o) := fun b u e => by
  rw [upd_ne (ne_of_none e h)]
  exact e
theorem same_upd {A H : Hp} {ms : List Addr} {p : Addr} {o : HO} (s : Same A (hide H ms)) (h : H p = none) : Same A (hide (upd H p o) ms) := s.trans (Same.hide (same_new h) ms)
/-- a change at a hidden place -/
theorem hide_upd {H : Hp} {ms : List Addr} {m : Addr} {o : HO} (h : m ∈ ms) : hide (upd H m o) ms = hide H ms := by
  funext a
  unfold hide
  by_cases q : a ∈ ms
  · rw [if_pos q, if_pos q]
  · rw [if_neg q, if_neg q, upd_ne fun z => q (by rw [z]; exact h)]
/-- one more place hidden, new -/
theorem hide_new {H : Hp} {ms : List Addr} {p : Addr} {o : HO} (h : H p = none) : hide (upd H p o) (p :: ms) = hide H ms := by
  funext a
  unfold hide
  by_cases e : a = p
  · rw [e, if_pos (List.mem_cons_self ..)]
    by_cases q : p ∈ ms
    · rw [if_pos q]
    · rw [if_neg q, h]
  · by_cases q : a ∈ ms
    · rw [if_pos (List.mem_cons_of_mem _ q), if_pos q]
    · rw [if_neg (fun z => (List.mem_cons.mp z).elim e q), if_neg q, upd_ne e]
theorem new_at {H : Hp} {ms : List Addr} {p : Addr} {o : HO} (t : Tk H ms) (h : H p = none) : hide (upd H p o) ms p = some o := by
  rw [hide_at (t.out h), upd_same]
theorem keep_at {H : Hp} {a p : Addr} {o u : HO} (e : H a = some o) (h : H p = none) : upd H p u a = some o := by
  rw [upd_ne (ne_of_none e h)]
  exact e
/-! ### all but some places stand -/
def Sx (ms : List Addr) (H H' : Hp) : Prop := ∀ b o, b ∉ ms → H b = some o → H' b = some o
theorem Sx.refl {ms : List Addr} {H : Hp} : Sx ms H H := fun _ _ _ e => e
theorem Sx.trans {ms : List Addr} {H H1 H2 : Hp} (a : Sx ms H H1) (b : Sx ms H1 H2) : Sx ms H H2 := fun c o h e => b c o h (a c o h e)
theorem Sx.of {ms : List Addr} {H H' : Hp} (s : Same H H') : Sx ms H H' := fun b o _ e => s b o e
theorem Sx.hide {ms : List Addr} {H H' : Hp} (s : Sx ms H H') {ms' : List Addr} (h : ∀ a ∈ ms, a ∈ ms') : Same (Pb.hide H ms') (Pb.hide H' ms') := fun b o e => by
  obtain ⟨e1, e2⟩ := hide_of e
  rw [hide_at e2]
  exact s b o (fun z => e2 (h b z)) e1
theorem Sx.upd {ms : List Addr} {H : Hp} {m : Addr} {o : HO} (h : m ∈ ms) : Sx ms H (upd H m o) := fun b u hb e => by
  rw [L2.upd_ne fun z => hb (by rw [z]; exact h)]
  exact e
theorem Sx.mono {ms ms' : List Addr} {H H' : Hp} (s : Sx ms H H') (h : ∀ a ∈ ms, a ∈ ms') : Sx ms' H H' := fun b o hb e => s b o (fun z => hb (h b z)) e
/-! ### data -/
section
variable {K : PySem.W.Frag} {H H' : Hp}
theorem sqL_same {a : Addr} {xs : List V} (s : Same H H') (h : SqL K H a xs) : SqL K H' a xs := Same.seq s h
theorem sqT_same {a : Addr} {xs : List V} (s : Same H H') (h : SqT K H a xs) : SqT K H' a xs := by
  rcases h with (h | ⟨o, h⟩) | h
  · exact .inl (.inl (s _ _ h))
  · exact .inl (.inr ⟨o, s _ _ h⟩)
  · exact .inr h
mutual
theorem Dp.mono (s : Same H H') : ∀ {v : V} {d : PyData}, Dp K H v d → Dp K H' v d
  | _, _, .non => .non
  | _, _, .bl b => .bl b
  | _, _, .int i => .int i
  | _, _, .str x => .str x
  | _, _, .lst h a => .lst (sqL_same s h) (DpAll.mono s a)
  | _, _, .tup h a => .tup (sqT_same s h) (DpAll.mono s a)
theorem DpAll.mono (s : Same H H') : ∀ {vs : List V} {ds : List PyData}, DpAll K H vs ds → DpAll K H' vs ds
  | _, _, .nil => .nil
  | _, _, .cons h a => .cons (Dp.mono s h) (DpAll.mono s a)
end
theorem DpAll.length : ∀ {vs : List V} {ds : List PyData}, DpAll K H vs ds → vs.length = ds.length
  | _, _, .nil => rfl
  | _, _, .cons _ a => congrArg Nat.succ (DpAll.length a)
theorem DpAll.get : ∀ {vs : List V} {ds : List PyData} {i : Nat} {d : PyData}, DpAll K H vs ds → ds[i]? = some d → ∃ v, vs[i]? = some v ∧ Dp K H v d
  | _, _, _, _, .nil, e => by simp at e
  | _, _, 0, _, .cons h _, e => by simp at e; subst e; exact ⟨_, rfl, h⟩
  | _, _, i + 1, _, .cons _ a, e => by
    obtain ⟨v, h1, h2⟩ := DpAll.get (i := i) a (by simpa using e)
    exact ⟨v, by simpa using h1, h2⟩
theorem DpAll.at : ∀ {vs : List V} {ds : List PyData} {i : Nat} {v : V}, DpAll K H vs ds → vs[i]? = some v → ∃ d, ds[i]? = some d ∧ Dp K H v d
  | _, _, _, _, .nil, e => by simp at e
  | _, _, 0, _, .cons h _, e => by simp at e; subst e; exact ⟨_, rfl, h⟩
  | _, _, i + 1, _, .cons _ a, e => by
    obtain ⟨d, h1, h2⟩ := DpAll.at (i := i) a (by simpa using e)
    exact ⟨d, by simpa using h1, h2⟩
theorem DpAll.append : ∀ {vs ws : List V} {ds es : List PyData}, DpAll K H vs ds → DpAll K H ws es → DpAll K H (vs ++ ws) (ds ++ es)
  | _, _, _, _, .nil, b => b
  | _, _, _, _, .cons h a, b => .cons h (DpAll.append a b)
theorem DpAll.take : ∀ {vs : List V} {ds : List PyData} (n : Nat), DpAll K H vs ds → DpAll K H (vs.take n) (ds.take n)
  | _, _, 0, _ => .nil
  | _, _, _ + 1, .nil => .nil
  | _, _, n + 1, .cons h a => .cons h (DpAll.take n a)
theorem DpAll.drop : ∀ {vs : List V} {ds : List PyData} (n : Nat), DpAll K H vs ds → DpAll K H (vs.drop n) (ds.drop n)
  | _, _, 0, a => a
  | _, _, _ + 1, .nil => .nil
  | _, _, n + 1, .cons _ a => DpAll.drop n a
theorem DpAll.one {v : V} {d : PyData} (h : Dp K H v d) : DpAll K H [v] [d] := .cons h .nil
theorem DpAll.ints : ∀ (ns : List Int), DpAll K H (ns.map V.int) (ns.map PyData.int)
  | [] => .nil
  | n :: ns => .cons (.int n) (DpAll.ints ns)
theorem DpAll.ints_inv : ∀ {vs : List V} {ns : List Int}, DpAll K H vs (ns.map PyData.int) → vs = ns.map V.int
  | _, [], h => by cases h; rfl
  | _, n :: ns, h => by
    cases h with
    | cons h1 h2 =>
      cases h1
      rw [DpAll.ints_inv h2]; rfl
theorem DpAll.strs : ∀ (ns : List Str), DpAll K H (ns.map V.str) (ns.map PyData.str)
  | [] => .nil
  | n :: ns => .cons (.str n) (DpAll.strs ns)
theorem DpAll.strs_inv : ∀ {vs : List V} {ns : List Str}, DpAll K H vs (ns.map PyData.str) → vs = ns.map V.str
  | _, [], h => by cases h; rfl
  | _, n :: ns, h => by
    cases h with
    | cons h1 h2 =>
      cases h1
      rw [DpAll.strs_inv h2]; rfl
theorem DpAll.bls_inv : ∀ {vs : List V} {bs : List Bool}, DpAll K H vs (bs.map PyData.bool) → vs = bs.map V.bl
  | _, [], h => by cases h; rfl
  | _, n :: ns, h => by
    cases h with
    | cons h1 h2 =>
      cases h1
      rw [DpAll.bls_inv h2]; rfl
theorem dp_non {v : V} (h : Dp K H v .none) : v = .non := by cases h; rfl
theorem dp_bool {v : V} {b : Bool} (h : Dp K H v (.bool b)) : v = .bl b := by cases h; rfl
theorem dp_int {v : V} {i : Int} (h : Dp K H v (.int i)) : v = .int i := by cases h; rfl
theorem dp_str {v : V} {x : Str} (h : Dp K H v (.str x)) : v = .str x := by cases h; rfl
theorem dp_list {v : V} {ds : List PyData} (h : Dp K H v (.list ds)) : ∃ a xs, v = .ref a ∧ SqL K H a xs ∧ DpAll K H xs ds := by
  cases h with
  | lst h1 h2 => exact ⟨_, _, rfl, h1, h2⟩
theorem dp_tuple {v : V} {ds : List PyData} (h : Dp K H v (.tuple ds)) : ∃ a xs, v = .ref a ∧ SqT K H a xs ∧ DpAll K H xs ds := by
  cases h with
  | tup h1 h2 => exact ⟨_, _, rfl, h1, h2⟩
/-! ### isinstance -/
def tyD : PyData → String
  | .none => "NoneType"
  | .bool _ => "bool"
  | .int _ => "int"
  | .str _ => "str"
  | .list _ => "list"
  | .tuple _ => "tuple"
  | .dict _ => "dict"
theorem Dp.tyx {v : V} {d : PyData} (h : Dp K H v d) : TyX K H v (.type (tyD d)) := by
  cases h with
  | non => exact .base .non
  | bl b => exact .base (.bl b)
  | int i => exact .base (.int i)
  | str x => exact .base (.str x)
  | lst h _ =>
    rcases h with (h | ⟨o, h⟩) | ⟨o, its, n, e, c, _⟩
    · exact .base (.lst h)
    · exact .base (.frz h)
    · exact .kList e c
  | tup h _ =>
    rcases h with (h | ⟨o, h⟩) | ⟨o, its, n, e, c, _⟩
    · exact .base (.tup h)
    · exact .fTuple h
    · exact .kTuple e c
def isInt : PyData → Bool
  | .int _ => true
  | .bool _ => true
  | _ => false
def isBool : PyData → Bool
  | .bool _ => true
  | _ => false
def isStr : PyData → Bool
  | .str _ => true
  | _ => false
def isList : PyData → Bool
  | .list _ => true
  | _ => false
def isTuple : PyData → Bool
  | .tuple _ => true
  | _ => false
theorem kit_int (d : PyData) : kitB (tyD d) "int" = some (isInt d) := by cases d <;> kernel_rfl
theorem kit_bool (d : PyData) : kitB (tyD d) "bool" = some (isBool d) := by cases d <;> kernel_rfl
theorem kit_str (d : PyData) : kitB (tyD d) "str" = some (isStr d) := by cases d <;> kernel_rfl
theorem kit_list (d : PyData) : kitB (tyD d) "list" = some (isList d) := by cases d <;> kernel_rfl
theorem kit_tuple (d : PyData) : kitB (tyD d) "tuple" = some (isTuple d) := by cases d <;> kernel_rfl
theorem a_isi {v : V} {d : PyData} {T : String} {b : Bool} {Q : VK} (h : Dp K H v d) (e : kitB (tyD d) T = some b) (q : Q (.bl b) H) : rIsi K [v, .ty T] H Q := ⟨v, .ty T, _, _, b, rfl, .ty T, Dp.tyx h, kit_ty e, q⟩
end
/-! ### defs -/
section
variable {P : Program} {w : World} {K : PySem.W.Frag} {mg : Str → Option Value} {base : Heap}
abbrev FnD (K : PySem.W.Frag) (x qual : Str) (st : Stmt) (dvs : List V) (kws : List (Str × V)) (f : Addr) : Prop := ∃ fd, FunD K x qual (L2.defArgs st) (L2.defBody st) (L2.defScope st) dvs kws f fd
/-- a def without defaults, by its body -/
theorem cal_of {x : Str} {st : Stmt} {f : Addr} {N ps : List Str} {k : Nat} {sp : Sp} (D : FnD K x x st [] [] f) (g : mg x = some (.ref f)) (S : FnScope N ps (L2.defScope st))
    (hb : ∀ (kV doc pm : Value) (an : Option Addr) (cdv ct : Value) (us : List Value), us.length = ps.length → bindArgs (PySem.W.fnOf x x (L2.defArgs st) (L2.defBody st) (L2.defScope st) .none kV doc pm an cdv ct) ⟨us, []⟩ = pure (ps.zip us))
    (len : ∀ vs H Q E, sp vs H Q E → vs.length = ps.length)
    (hbody : ∀ (cdv : Value) (A : Around) (outer : List Env) (s : Shared) (H : Hp) (vs : List V) (Q : VK) (E : XK), Room k (A.deeper (envOfC x (L2.defScope st) s.heap.objs.size f cdv)) → sp vs H Q E →
      ∃ t, PSs (cxOf CX0 P w K mg base N x (L2.defScope st) f cdv A outer s H E).nox (L2.defBody st) t ∧ t { nx := fun _ H' => Q .non H', rt := Q } (start N vs) H) : Cal P w K mg base (k + 1) x sp [] := by
  obtain ⟨fd, F⟩ := D
  refine ⟨f, fd, ps, [], F.ok S len fun cdv A outer s H vs Q E hr h => ?_, g, F.kp, F.bindsN hb, .nil⟩
  obtain ⟨t, h1, h2⟩ := hbody cdv A outer s H vs Q E hr h
  exact ⟨t, h1.nox, h2⟩
theorem met_of {x qual : Str} {C : Addr} {st : Stmt} {f : Addr} {N ps : List Str} {k : Nat} {sp : Sp} (c : Cls K C) (me : Meth K C x f) (D : FnD K x qual st [] [] f) (S : FnScope N ps (L2.defScope st))
    (hb : ∀ (kV doc pm : Value) (an : Option Addr) (cdv ct : Value) (us : List Value), us.length = ps.length → bindArgs (PySem.W.fnOf x qual (L2.defArgs st) (L2.defBody st) (L2.defScope st) .none kV doc pm an cdv ct) ⟨us, []⟩ = pure (ps.zip us))
    (len : ∀ vs H Q E, sp vs H Q E → vs.length = ps.length)
    (hbody : ∀ (cdv : Value) (A : Around) (outer : List Env) (s : Shared) (H : Hp) (vs : List V) (Q : VK) (E : XK), Room k (A.deeper (envOfC qual (L2.defScope st) s.heap.objs.size f cdv)) → sp vs H Q E →
      ∃ t, PSs (cxOf CX0 P w K mg base N qual (L2.defScope st) f cdv A outer s H E).nox (L2.defBody st) t ∧ t { nx := fun _ H' => Q .non H', rt := Q } (start N vs) H) : Met P w K mg base (k + 1) C x sp [] := by
  obtain ⟨fd, F⟩ := D
  refine ⟨f, fd, ps, [], c, me, F.ok S len fun cdv A outer s H vs Q E hr h => ?_, F.bindsN hb, .nil⟩
  obtain ⟨t, h1, h2⟩ := hbody cdv A outer s H vs Q E hr h
  exact ⟨t, h1.nox, h2⟩
theorem mak_of {x qual : Str} {C : Addr} {st : Stmt} {f : Addr} {N ps : List Str} {k : Nat} {sp : Sp} (M : Mk K C f) (g : mg x = some (.ref C)) (D : FnD K "__init__" qual st [] [] f) (S : FnScope N ps (L2.defScope st))
    (hb : ∀ (kV doc pm : Value) (an : Option Addr) (cdv ct : Value) (us : List Value), us.length = ps.length → bindArgs (PySem.W.fnOf "__init__" qual (L2.defArgs st) (L2.defBody st) (L2.defScope st) .none kV doc pm an cdv ct) ⟨us, []⟩ = pure (ps.zip us))
    (len : ∀ vs H Q E, sp vs H Q E → vs.length = ps.length)
    (hbody : ∀ (cdv : Value) (A : Around) (outer : List Env) (s : Shared) (H : Hp) (vs : List V) (Q : VK) (E : XK), Room k (A.deeper (envOfC qual (L2.defScope st) s.heap.objs.size f cdv)) → sp vs H Q E →
      ∃ t, PSs (cxOf CX0 P w K mg base N qual (L2.defScope st) f cdv A outer s H E).nox (L2.defBody st) t ∧ t { nx := fun _ H' => Q .non H', rt := Q } (start N vs) H) : Mak P w K mg base (k + 1) x C sp [] := by
  obtain ⟨fd, F⟩ := D
  refine ⟨f, fd, ps, [], M, F.ok S len fun cdv A outer s H vs Q E hr h => ?_, g, F.bindsN hb, .nil⟩
  obtain ⟨t, h1, h2⟩ := hbody cdv A outer s H vs Q E hr h
  exact ⟨t, h1.nox, h2⟩
/-- a promise over data: it changes nothing that stood; its answer is a plain value -/
def spS (K : PySem.W.Frag) (n : Nat) (F : List PyData → Option V) : Sp := fun vs H Q _ => ∃ ms ds r, Tk H ms ∧ DpAll K (hide H ms) vs ds ∧ ds.length = n ∧ F ds = some r ∧ ∀ H', Same H H' → Q r H'
/-- .. its answer is data -/
def spD (K : PySem.W.Frag) (n : Nat) (F : List PyData → Option PyData) : Sp := fun vs H Q _ => ∃ ms ds d, Tk H ms ∧ DpAll K (hide H ms) vs ds ∧ ds.length = n ∧ F ds = some d ∧ ∀ H' r, Same H H' → Dp K (hide H' ms) r d → Q r H'
theorem spS_len {n : Nat} {F : List PyData → Option V} (vs : List V) (H : Hp) (Q : VK) (E : XK) (h : spS K n F vs H Q E) : vs.length = n := by
  obtain ⟨ms, ds, r, _, h, e, _⟩ := h
  rw [DpAll.length h, e]
theorem spD_len {n : Nat} {F : List PyData → Option PyData} (vs : List V) (H : Hp) (Q : VK) (E : XK) (h : spD K n F vs H Q E) : vs.length = n := by
  obtain ⟨ms, ds, r, _, h, e, _⟩ := h
  rw [DpAll.length h, e]
end
/-! ### readings made monotone -/
section
variable {X : Cx}
def tM (t : TE) : TE := fun σ H Q => ∃ Q' : VK, t σ H Q' ∧ ∀ v H', Q' v H' → Q v H'
def tMT (t : TT) : TT := fun σ H Q => ∃ Q' : Bool → Hp → Prop, t σ H Q' ∧ ∀ v H', Q' v H' → Q v H'
def gM (g : TG) : TG := fun v σ H Q => ∃ Q' : L2.St → Hp → Prop, g v σ H Q' ∧ ∀ σ' H', Q' σ' H' → Q σ' H'
theorem pe_m {e : Expr} {t : TE} (h : PE X e t) : PE X e (tM t) := ⟨fun pins s σ H Q I hw => by
  obtain ⟨Q', h1, m⟩ := hw
  exact thn (h.run pins s σ H Q' I h1) fun u s' ⟨v, H', I', r, q⟩ => ⟨v, H', I', r, m _ _ q⟩⟩
theorem pt_m {e : Expr} {t : TT} (h : PT X e t) : PT X e (tMT t) := ⟨fun pins s σ H Q I hw => by
  obtain ⟨Q', h1, m⟩ := hw
  exact thn (h.run pins s σ H Q' I h1) fun u s' ⟨H', I', q⟩ => ⟨H', I', m _ _ q⟩⟩
theorem pg_m {e : Expr} {t : TG} (h : PG X e t) : PG X e (gM t) := ⟨fun pins s σ H v u Q I r hw => by
  obtain ⟨Q', h1, m⟩ := hw
  exact thn (h.run pins s σ H v u Q' I r h1) fun _ s' ⟨σ', H', I', q⟩ => ⟨σ', H', I', m _ _ q⟩⟩
def tYesM : TT := tMT tYes
theorem pts_nilM : PTs X [] (tMT tYes) := ⟨fun pins s σ H Q I hw => by
  obtain ⟨Q', h1, m⟩ := hw
  exact wpAny_tests_nil ⟨H, I, m _ _ h1⟩⟩
end
/-- what a comprehension asks once its source is known -/
def LcGoal (g : TG) (tt : TT) (te : TE) (vs : List Nat) (σ : L2.St) (J : It) (H1 : Hp) (D : Addr) (Qd : Hp → Prop) : Prop :=
    ∃ W : Nat → Nat → Hp → Prop, (∃ m, W 0 m (upd H1 D (.lst []))) ∧ ∀ i m H, W i m H →
      (J.stop i H ∧ Qd H) ∨ (J.go i H ∧ ∃ Nx : Hp → Prop, (∀ H', Nx H' → ∃ m', m' < m ∧ W (i + 1) m' H') ∧ ∀ x H', J.yld i H x H' → gM g x (wipe σ vs) H' fun σ2 H2 => wipe σ2 vs = wipe σ vs ∧ tMT tt σ2 H2 fun b H3 =>
        if b = true then tM te σ2 H3 fun y H4 => ∃ acc, H4 D = some (.lst acc) ∧ acc.length < sizeLine ∧ Nx (upd H4 D (.lst (acc ++ [y]))) else Nx H3)
theorem a_lc {wi : TI} {g : TG} {tt : TT} {te : TE} {vs : List Nat} {σ : L2.St} {H : Hp} {Q : VK} (h : wi σ H fun J H1 => ∀ D, H1 D = none → LcGoal g tt te vs σ J H1 D fun H' => Q (.ref D) H') : tLc wi (gM g) (tMT tt) (tM te) vs σ H Q := h
/-- a comprehension whose turns change nothing: p which turns are kept, e what they give -/
theorem lc_pure {K : PySem.W.Frag} {J : It} {n : Nat} {G : Hp → Prop} {Y : Nat → Hp → V → Hp → Prop} (w : Walk J n G Y) {g : TG} {tt : TT} {te : TE} {vs : List Nat} {σ : L2.St} {H1 : Hp} {D : Addr} {Qd : Hp → Prop} {ms : List Addr}
    (hD : H1 D = none) (tk : Tk H1 ms) (hn : n < sizeLine) (hG : ∀ H, Same H1 H → G H) (p : Nat → Bool) (e : Nat → PyData)
    (step : ∀ i x H H', i < n → Same H1 H → H D ≠ none → Y i H x H' → g x (wipe σ vs) H' fun σ2 H2 => wipe σ2 vs = wipe σ vs ∧ tt σ2 H2 fun b H3 => b = p i ∧ (b = false → Same H H3) ∧ (b = true → te σ2 H3 fun y H4 => Same H H4 ∧ Dp K (hide H4 (D :: ms)) y (e i)))
    (done : ∀ H' ys, Same H1 H' → H' D = some (.lst ys) → DpAll K (hide H' (D :: ms)) ys (((List.range n).filter p).map e) → Qd H') :
    LcGoal g tt te vs σ J H1 D Qd := by
  refine lc_it w (fun i H => Same H1 H ∧ ∃ acc, H D = some (.lst acc) ∧ acc.length ≤ i ∧ DpAll K (hide H (D :: ms)) acc (((List.range i).filter p).map e)) ⟨same_new hD, [], upd_same, Nat.le_refl _, .nil⟩ (fun i H _ q => hG H q.1) ?_ ?_
  · rintro i x H H' hi ⟨s1, acc, hL, hl, ha⟩ y
    refine ⟨_, step i x H H' hi s1 (by rw [hL]; exact fun z => nomatch z) y, fun σ2 H2 q => ⟨q.1, _, q.2, fun b H3 q => ?_⟩⟩
    obtain ⟨e1, q0, q⟩ := q
    cases b with
    | true =>
      refine iteT ⟨_, q rfl, fun v H4 r => ?_⟩
      obtain ⟨s4, hv⟩ := r
      have h4 : H4 D = some (.lst acc) := s4 _ _ hL
      refine ⟨acc, h4, by omega, (fun b o z => by rw [upd_ne (ne_of_none z hD)]; exact s4 _ _ (s1 _ _ z)), _, upd_same, by rw [List.length_append, List.length_singleton]; omega, ?_⟩
      · rw [hide_upd (List.mem_cons_self ..), List.range_succ, List.filter_append, List.map_append]
        refine DpAll.append (DpAll.mono (Same.hide s4 _) ha) ?_
        rw [List.filter_cons, if_pos e1.symm]
        exact .cons hv .nil
    | false =>
      refine iteF ⟨s1.trans (q0 rfl), acc, q0 rfl _ _ hL, by omega, ?_⟩
      rw [List.range_succ, List.filter_append, List.map_append, List.filter_cons, if_neg (by rw [← e1]; exact Bool.false_ne_true)]
      rw [List.filter_nil, List.map_nil, List.append_nil]
      exact DpAll.mono (Same.hide (q0 rfl) _) ha
  · rintro H ⟨s1, acc, hL, _, ha⟩
    exact done H acc s1 hL ha
theorem cxK {CX : CXT} {P : Program} {w : World} {K : PySem.W.Frag} {mg : Str → Option Value} {base : Heap} {N : List Str} {q : Str} {sc : Scope} {f : Addr} {cd : Value} {A : Around} {outer : List Env} {s : Shared} {H : Hp} {E : XK} : (cxOf CX P w K mg base N q sc f cd A outer s H E).K = K := rfl
/-! ### answers: what a reading asks, by data -/
section
variable {X : Cx} {K : PySem.W.Frag} {H : Hp} {Q : VK} {v x y : V}
theorem atI_len {α β : Type} {xs : List α} {ys : List β} (h : xs.length = ys.length) {i : Int} {b : β} (e : atI ys i = some b) : ∃ j, ixN ys.length i = some j ∧ ys[j]? = some b ∧ atI xs i = xs[j]? := by
  unfold atI at e ⊢
  rw [h]
  cases q : ixN ys.length i with
  | none => rw [q] at e; cases e
  | some j => rw [q] at e; exact ⟨j, rfl, e, rfl⟩
theorem a_ixT {ds : List PyData} {i : Int} {d : PyData} (h : Dp K H v (.tuple ds)) (e : atI ds i = some d) (q : ∀ u, Dp K H u d → Q u H) : rIx K v (.int i) H Q := by
  obtain ⟨a, xs, rfl, hs, ha⟩ := dp_tuple h
  obtain ⟨j, _, e2, e3⟩ := atI_len (DpAll.length ha) e
  obtain ⟨u, e4, hu⟩ := DpAll.get ha e2
  exact .inr (.inl ⟨a, xs, i, u, rfl, rfl, hs, e3.trans e4, q u hu⟩)
theorem a_ixL {ds : List PyData} {i : Int} {d : PyData} (h : Dp K H v (.list ds)) (e : atI ds i = some d) (q : ∀ u, Dp K H u d → Q u H) : rIx K v (.int i) H Q := by
  obtain ⟨a, xs, rfl, hs, ha⟩ := dp_list h
  obtain ⟨j, _, e2, e3⟩ := atI_len (DpAll.length ha) e
  obtain ⟨u, e4, hu⟩ := DpAll.get ha e2
  exact .inl ⟨a, xs, i, u, rfl, rfl, hs, e3.trans e4, q u hu⟩
/-- len of a list or a tuple; of a text -/
def rLenQ (K : PySem.W.Frag) : List V → Hp → VK → Prop := fun xs H Q => ∃ p ys, xs = [.ref p] ∧ (SqL K H p ys ∨ SqT K H p ys) ∧ Q (.int ys.length) H
theorem call_lenQ : CallR X (.builtin "len") (rLenQ X.K) := call_len_seq
theorem a_lenL {ds : List PyData} (h : Dp K H v (.list ds)) (q : Q (.int ds.length) H) : rLenQ K [v] H Q := by
  obtain ⟨a, xs, rfl, hs, ha⟩ := dp_list h
  exact ⟨a, xs, rfl, .inl hs, by rw [DpAll.length ha]; exact q⟩
theorem a_lenT {ds : List PyData} (h : Dp K H v (.tuple ds)) (q : Q (.int ds.length) H) : rLenQ K [v] H Q := by
  obtain ⟨a, xs, rfl, hs, ha⟩ := dp_tuple h
  exact ⟨a, xs, rfl, .inr hs, by rw [DpAll.length ha]; exact q⟩
def rLenS : List V → Hp → VK → Prop := fun xs H Q => ∃ z : Str, xs = [.str z] ∧ z.length ≤ sizeLine ∧ Q (.int z.length) H
theorem call_lenS : CallR X (.builtin "len") rLenS := call_len_str
def rMin2 : List V → Hp → VK → Prop := fun xs H Q => ∃ i j, xs = [.int i, .int j] ∧ Q (.int (min i j)) H
def rMax2 : List V → Hp → VK → Prop := fun xs H Q => ∃ i j, xs = [.int i, .int j] ∧ Q (.int (max i j)) H
theorem call_min2' (hc : X.calm = true) : CallR X (.builtin "min") rMin2 := fun pins s σ H xs us Q I r h => by
  obtain ⟨i, j, e, q⟩ := h
  refine call_min2 hc pins s σ H xs us Q I r ⟨i, j, e, ?_⟩
  have e2 : (if j < i then j else i) = min i j := by split <;> omega
  rw [e2]; exact q
theorem call_max2' (hc : X.calm = true) : CallR X (.builtin "max") rMax2 := fun pins s σ H xs us Q I r h => by
  obtain ⟨i, j, e, q⟩ := h
  refine call_max2 hc pins s σ H xs us Q I r ⟨i, j, e, ?_⟩
  have e2 : (if j > i then j else i) = max i j := by split <;> omega
  rw [e2]; exact q
def rListOf (K : PySem.W.Frag) : List V → Hp → VK → Prop := fun xs H Q => ∃ p ys, xs = [.ref p] ∧ (SqL K H p ys ∨ SqT K H p ys) ∧ ∀ l, H l = none → Q (.ref l) (upd H l (.lst ys))
theorem call_listOf : CallR X (.type "list") (rListOf X.K) := call_list_of
def rTupOf (K : PySem.W.Frag) : List V → Hp → VK → Prop := fun xs H Q => ∃ p ys, xs = [.ref p] ∧ ((SqL K H p ys ∧ ∀ l, H l = none → Q (.ref l) (upd H l (.tup ys))) ∨ (SqT K H p ys ∧ Q (.ref p) H))
theorem call_tupOf : CallR X (.type "tuple") (rTupOf X.K) := call_tuple_of
def rAbs : List V → Hp → VK → Prop := fun xs H Q => ∃ i, xs = [.int i] ∧ Q (.int i.natAbs) H
theorem call_absI : CallR X (.builtin "abs") rAbs := fun pins s σ H xs us Q I r h => by
  obtain ⟨i, e, q⟩ := h
  refine call_abs pins s σ H xs us Q I r ⟨i, e, ?_⟩
  have e2 : (if i < 0 then -i else i) = (i.natAbs : Int) := by split <;> omega
  rw [e2]; exact q
theorem inV_strs {w : Str} : ∀ {ws : List Str}, inV (.str w) (ws.map V.str) = decide (w ∈ ws)
  | [] => by simp [inV]
  | x :: ws => by
    have ih := inV_strs (w := w) (ws := ws)
    unfold inV at ih ⊢
    rw [List.map_cons, List.any_cons, ih]
    have e : eqV (.str x) (.str w) = decide (x = w) := by
      unfold eqV
      first
        | rfl
        | (by_cases q : x = w <;> simp [q])
    rw [e]
    by_cases q : x = w
    · simp [q]
    · simp [q, Ne.symm q, fun z : w = x => q z.symm]
theorem flat_strs : ∀ ws : List Str, (ws.map V.str).all flatV = true
  | [] => rfl
  | w :: ws => by rw [List.map_cons, List.all_cons, flat_strs ws]; rfl
theorem a_in_strs {neg : Bool} {w : Str} {ws : List Str} {a : Addr} (h : SqL K H a (ws.map V.str) ∨ SqT K H a (ws.map V.str)) (q : Q (.bl (if neg then !decide (w ∈ ws) else decide (w ∈ ws))) H) : rIn K neg (.str w) (.ref a) H Q :=
  ⟨a, _, rfl, h, rfl, flat_strs ws, by rw [inV_strs]; exact q⟩
theorem a_eqD {d e : PyData} (h1 : Dp K H x d) (h2 : Dp K H y e) (s1 : SeqAt.shaped d = true) (s2 : SeqAt.shaped e = true) (q : Q (.bl (PyData.eqv d e)) H) : rEqD K x y H Q := ⟨d, e, h1, h2, s1, s2, q⟩
theorem a_neD {d e : PyData} (h1 : Dp K H x d) (h2 : Dp K H y e) (s1 : SeqAt.shaped d = true) (s2 : SeqAt.shaped e = true) (q : Q (.bl (!PyData.eqv d e)) H) : rNeD K x y H Q := ⟨d, e, h1, h2, s1, s2, q⟩
theorem a_all {bs : List Bool} (h : Dp K H v (.list (bs.map PyData.bool))) (q : Q (.bl (bs.all id)) H) : rAll K [v] H Q := by
  obtain ⟨a, xs, rfl, hs, ha⟩ := dp_list h
  rw [DpAll.bls_inv ha] at hs
  exact ⟨a, bs, rfl, hs, q⟩
theorem a_sum {ns : List Int} (h : Dp K H v (.list (ns.map PyData.int))) (q : Q (.int ns.sum) H) : rSum K [v] H Q := by
  obtain ⟨a, xs, rfl, hs, ha⟩ := dp_list h
  rw [DpAll.ints_inv ha] at hs
  exact ⟨a, ns, rfl, hs, q⟩
end
theorem range_getD {α : Type} (d : α) (l : List α) : (List.range l.length).map (fun i => l.getD i d) = l := by
  apply List.ext_getElem
  · rw [List.length_map, List.length_range]
  · intro i h1 h2
    rw [List.getElem_map, List.getElem_range, List.getD_eq_getElem?_getD, List.getElem?_eq_getElem h2]
    rfl
theorem range_fm {α β : Type} (d : α) (p : α → Bool) (g : α → β) (l : List α) : ((List.range l.length).filter (fun i => p (l.getD i d))).map (fun i => g (l.getD i d)) = (l.filter p).map g := by
  have e := range_getD d l
  have e2 : (l.filter p).map g = (((List.range l.length).map (fun i => l.getD i d)).filter p).map g := by rw [e]
  rw [e2, List.filter_map, List.map_map]
  rfl
theorem range_m {α β : Type} (d : α) (g : α → β) (l : List α) : ((List.range l.length).filter (fun _ => true)).map (fun i => g (l.getD i d)) = l.map g := by
  have e := range_fm d (fun _ => true) g l
  rw [e, List.filter_eq_self.mpr fun _ _ => rfl]
theorem atI_0 {α : Type} {x : α} {xs : List α} : atI (x :: xs) 0 = some x := by
  unfold atI ixN
  rw [if_pos (by omega), if_pos (by rw [List.length_cons]; omega)]
  rfl
theorem atI_1 {α : Type} {x y : α} {xs : List α} : atI (x :: y :: xs) 1 = some y := by
  unfold atI ixN
  rw [if_pos (by omega), if_pos (by rw [List.length_cons, List.length_cons]; omega)]
  rfl
/-- a comprehension over data -/
theorem lc_data {K : PySem.W.Frag} {J : It} {xs : List V} {ds : List PyData} {G : Hp → Prop} (w : Walk J xs.length G (YAt xs)) {g : TG} {tt : TT} {te : TE} {vs : List Nat} {σ : L2.St} {H1 : Hp} {D : Addr} {Qd : Hp → Prop} {ms : List Addr}
    (hD : H1 D = none) (tk : Tk H1 ms) (hn : ds.length < sizeLine) (ha : DpAll K (hide H1 ms) xs ds) (hG : ∀ H, Same H1 H → G H) (p : PyData → Bool) (f : PyData → PyData)
    (step : ∀ x d H, d ∈ ds → Same H1 H → H D ≠ none → Dp K (hide H (D :: ms)) x d → g x (wipe σ vs) H fun σ2 H2 => wipe σ2 vs = wipe σ vs ∧ tt σ2 H2 fun b H3 => b = p d ∧ (b = false → Same H H3) ∧ (b = true → te σ2 H3 fun y H4 => Same H H4 ∧ Dp K (hide H4 (D :: ms)) y (f d)))
    (done : ∀ H' ys, Same H1 H' → H' D = some (.lst ys) → DpAll K (hide H' (D :: ms)) ys ((ds.filter p).map f) → Qd H') :
    LcGoal g tt te vs σ J H1 D Qd := by
  have hl := DpAll.length ha
  refine lc_pure (K := K) w hD tk (by rw [hl]; exact hn) hG (fun i => p (ds.getD i .none)) (fun i => f (ds.getD i .none)) (fun i x H H' hi s1 hD2 y => ?_) (fun H' ys s1 e1 e2 => ?_)
  · obtain ⟨rfl, ex⟩ := y
    obtain ⟨d, ed, hd⟩ := DpAll.at ha ex
    have e3 : ds.getD i .none = d := by rw [List.getD_eq_getElem?_getD, ed]; rfl
    rw [e3]
    refine step x d _ (List.mem_of_getElem? ed) s1 hD2 (Dp.mono (fun b o e => ?_) hd)
    obtain ⟨q1, q2⟩ := hide_of e
    rw [hide_at (fun z => (List.mem_cons.mp z).elim (fun k => by rw [k, hD] at q1; cases q1) q2)]
    exact s1 _ _ q1
  · rw [hl, range_fm] at e2
    exact done H' ys s1 e1 e2
/-! ### a dict of the module, read at a text -/
def tKGet (K : PySem.W.Frag) (d : Addr) (td ty : TE) : TE := fun σ H Q => td σ H fun x H1 => ty σ H1 fun y H2 => ∃ (z : Str) (u0 : Value) (v0 : V), x = .ref d ∧ y = .str z ∧ PySem.W.nsIn K d z = some (some u0) ∧ RelV v0 u0 ∧ Q v0 H2
theorem pe_kdget {X : Cx} {d : Addr} {o i : Expr} {pos : Pos} {td ty : TE} (D : ∃ es n, KDict X.K X.w d es n) (ho : PE X o td) (hi : PE X i ty) (hs : NoSl i) : PE X (.Subscript o i pos) (tKGet X.K d td ty) := by
  obtain ⟨es, n, D⟩ := D
  refine ⟨fun pins s σ H Q I h => subD_of PySem.F.slot_dict_getitem.lookup hs (thn (ho.run pins s σ H _ I h) fun u s1 h1 => ?_)⟩
  obtain ⟨x, H1, I1, rx, q1⟩ := h1
  refine thn (hi.run pins s1 σ H1 _ I1 q1) fun iv s2 h2 => ?_
  obtain ⟨y, H2, I2, ry, q2⟩ := h2
  have q3 := q2
  obtain ⟨z, u0, v0, rfl, rfl, _⟩ := q3
  obtain rfl : u = Value.ref d := rx
  exact ⟨kd_type D I2, op_item_kd D _ _ _ _ (.ref d) _ _ _ _ I2 (show L2.RelV (.ref d) (.ref d) from rfl) ry q2⟩
theorem scal_ii {i j : Int} : L2.scal (.int i) (.int j) = true := rfl
theorem scal_ss {i j : Str} : L2.scal (.str i) (.str j) = true := rfl
theorem scal_bb {i j : Bool} : L2.scal (.bl i) (.bl j) = true := rfl
theorem scal_nn : L2.scal .non .non = true := rfl
theorem scal_ni {i : Int} : L2.scal .non (.int i) = true := rfl
theorem scal_in {i : Int} : L2.scal (.int i) .non = true := rfl
theorem scal_ns {i : Str} : L2.scal .non (.str i) = true := rfl
theorem scal_sn {i : Str} : L2.scal (.str i) .non = true := rfl
theorem scal_is {i : Int} {j : Str} : L2.scal (.int i) (.str j) = true := rfl
theorem scal_si {i : Int} {j : Str} : L2.scal (.str j) (.int i) = true := rfl
theorem cxP {CX : CXT} {P : Program} {w : World} {K : PySem.W.Frag} {mg : Str → Option Value} {base : Heap} {N : List Str} {q : Str} {sc : Scope} {f : Addr} {cd : Value} {A : Around} {outer : List Env} {s : Shared} {H : Hp} {E : XK} : (cxOf CX P w K mg base N q sc f cd A outer s H E).prog = P := rfl
theorem cxW {CX : CXT} {P : Program} {w : World} {K : PySem.W.Frag} {mg : Str → Option Value} {base : Heap} {N : List Str} {q : Str} {sc : Scope} {f : Addr} {cd : Value} {A : Around} {outer : List Env} {s : Shared} {H : Hp} {E : XK} : (cxOf CX P w K mg base N q sc f cd A outer s H E).w = w := rfl
/-- what a for asks once its source is known -/
def ForGoal (g : TG) (tb : TS) (D : Ends) (J : It) (σ : L2.St) (H : Hp) : Prop :=
  ∃ W : Nat → Nat → L2.St → Hp → Prop, (∃ m, W 0 m σ H) ∧ ∀ i m σ H, W i m σ H →
    (J.stop i H ∧ D.nx σ H) ∨ (J.go i H ∧ ∃ N : L2.St → Hp → Prop, (∀ σ' H', N σ' H' → ∃ m', m' < m ∧ W (i + 1) m' σ' H') ∧ ∀ x H', J.yld i H x H' → g x σ H' fun σ2 H2 => tb { D with nx := N, ct := N, bk := D.nx } σ2 H2)
theorem a_for {wi : TI} {g : TG} {tb : TS} {D : Ends} {σ : L2.St} {H : Hp} (h : wi σ H fun J H1 => ForGoal g tb D J σ H1) : tFor wi g tb D σ H := h
theorem for_go {J : It} {n : Nat} {G : Hp → Prop} {Y : Nat → Hp → V → Hp → Prop} (w : Walk J n G Y) {g : TG} {tb : TS} {D : Ends} {σ : L2.St} {H : Hp} (Pv : Nat → L2.St → Hp → Prop) (h0 : Pv 0 σ H) (hG : ∀ i σ H, i ≤ n → Pv i σ H → G H)
    (hs : ∀ i x σ H H', i < n → Pv i σ H → Y i H x H' → g x σ H' fun σ2 H2 => tb { D with nx := Pv (i + 1), ct := Pv (i + 1), bk := D.nx } σ2 H2) (hd : ∀ σ H, Pv n σ H → D.nx σ H) : ForGoal g tb D J σ H := for_it w Pv h0 hG hs hd
/-- the same, what holds at a turn's end kept from the simplifier's eyes: yes says when it does -/
theorem for_go2 {J : It} {n : Nat} {G : Hp → Prop} {Y : Nat → Hp → V → Hp → Prop} (w : Walk J n G Y) {g : TG} {tb : TS} {D : Ends} {σ : L2.St} {H : Hp} (Pv : Nat → L2.St → Hp → Prop) (h0 : Pv 0 σ H) (hG : ∀ i σ H, i ≤ n → Pv i σ H → G H)
    (hs : ∀ Pw : Nat → L2.St → Hp → Prop, (∀ i σ H, Pv i σ H → Pw i σ H) → ∀ i x σ H H', i < n → Pv i σ H → Y i H x H' → g x σ H' fun σ2 H2 => tb { D with nx := Pw (i + 1), ct := Pw (i + 1), bk := D.nx } σ2 H2) (hd : ∀ σ H, Pv n σ H → D.nx σ H) : ForGoal g tb D J σ H :=
  for_go w Pv h0 hG (fun i x σ H H' hi p y => hs Pv (fun _ _ _ q => q) i x σ H H' hi p y) hd
/-- what a while asks -/
def WhileGoal (c : TT) (tb : TS) (D : Ends) (σ : L2.St) (H : Hp) : Prop := tWhile c tb D σ H
/-! ### the same rules, the written part named -/
theorem pe_fldK {X : Cx} {K : PySem.W.Frag} {e : Expr} {f : Str} {pos : Pos} {ta : TE} (ha : PE X e ta) (hb : attributeBase e f X.env (eval e X.env) = eval e X.env) (hK : X.K = K := by rfl) : PE X (.Attribute e f pos) (tFld K ta f) := by
  subst hK; exact pe_fld ha hb
/-- a tuple taken apart -/
def gT (K : PySem.W.Frag) (n : Nat) (t : TGs) : TG := gTup K n t
section
variable {K : PySem.W.Frag} {H : Hp} {σ : L2.St} {Q : L2.St → Hp → Prop} {y : V} {i j k l : Nat}
theorem a_t2V {p : Addr} {u v : V} (h : SqT K H p [u, v]) (q : Q ((σ.set i (some u)).set j (some v)) H) : gT K 2 (gCons (gName i) (gCons (gName j) gNil)) (.ref p) σ H Q :=
  ⟨p, _, rfl, h, rfl, _, _, rfl, _, _, rfl, rfl, q⟩
theorem a_t3V {p : Addr} {u v x : V} (h : SqT K H p [u, v, x]) (q : Q (((σ.set i (some u)).set j (some v)).set k (some x)) H) : gT K 3 (gCons (gName i) (gCons (gName j) (gCons (gName k) gNil))) (.ref p) σ H Q :=
  ⟨p, _, rfl, h, rfl, _, _, rfl, _, _, rfl, _, _, rfl, rfl, q⟩
theorem a_t4V {p : Addr} {u v x z : V} (h : SqT K H p [u, v, x, z]) (q : Q ((((σ.set i (some u)).set j (some v)).set k (some x)).set l (some z)) H) : gT K 4 (gCons (gName i) (gCons (gName j) (gCons (gName k) (gCons (gName l) gNil)))) (.ref p) σ H Q :=
  ⟨p, _, rfl, h, rfl, _, _, rfl, _, _, rfl, _, _, rfl, _, _, rfl, rfl, q⟩
theorem dp_t2 {a b : PyData} (h : Dp K H y (.tuple [a, b])) : ∃ p u v, y = .ref p ∧ SqT K H p [u, v] ∧ Dp K H u a ∧ Dp K H v b := by
  obtain ⟨p, ys, rfl, hys, hya⟩ := dp_tuple h
  cases hya with
  | cons h1 hya =>
    cases hya with
    | cons h2 hya =>
      cases hya
      exact ⟨p, _, _, rfl, hys, h1, h2⟩
theorem dp_t3 {a b c : PyData} (h : Dp K H y (.tuple [a, b, c])) : ∃ p u v x, y = .ref p ∧ SqT K H p [u, v, x] ∧ Dp K H u a ∧ Dp K H v b ∧ Dp K H x c := by
  obtain ⟨p, ys, rfl, hys, hya⟩ := dp_tuple h
  cases hya with
  | cons h1 hya =>
    cases hya with
    | cons h2 hya =>
      cases hya with
      | cons h3 hya =>
        cases hya
        exact ⟨p, _, _, _, rfl, hys, h1, h2, h3⟩
theorem dp_t4 {a b c d : PyData} (h : Dp K H y (.tuple [a, b, c, d])) : ∃ p u v x z, y = .ref p ∧ SqT K H p [u, v, x, z] ∧ Dp K H u a ∧ Dp K H v b ∧ Dp K H x c ∧ Dp K H z d := by
  obtain ⟨p, ys, rfl, hys, hya⟩ := dp_tuple h
  cases hya with
  | cons h1 hya =>
    cases hya with
    | cons h2 hya =>
      cases hya with
      | cons h3 hya =>
        cases hya with
        | cons h4 hya =>
          cases hya
          exact ⟨p, _, _, _, _, rfl, hys, h1, h2, h3, h4⟩
theorem a_t2 {a b : PyData} (h : Dp K H y (.tuple [a, b])) (q : ∀ u v, Dp K H u a → Dp K H v b → Q ((σ.set i (some u)).set j (some v)) H) : gT K 2 (gCons (gName i) (gCons (gName j) gNil)) y σ H Q := by
  obtain ⟨p, u, v, rfl, hs, h1, h2⟩ := dp_t2 h
  exact a_t2V hs (q _ _ h1 h2)
theorem a_t3 {a b c : PyData} (h : Dp K H y (.tuple [a, b, c])) (q : ∀ u v x, Dp K H u a → Dp K H v b → Dp K H x c → Q (((σ.set i (some u)).set j (some v)).set k (some x)) H) : gT K 3 (gCons (gName i) (gCons (gName j) (gCons (gName k) gNil))) y σ H Q := by
  obtain ⟨p, u, v, x, rfl, hs, h1, h2, h3⟩ := dp_t3 h
  exact a_t3V hs (q _ _ _ h1 h2 h3)
theorem a_t4 {a b c d : PyData} (h : Dp K H y (.tuple [a, b, c, d])) (q : ∀ u v x z, Dp K H u a → Dp K H v b → Dp K H x c → Dp K H z d → Q ((((σ.set i (some u)).set j (some v)).set k (some x)).set l (some z)) H) : gT K 4 (gCons (gName i) (gCons (gName j) (gCons (gName k) (gCons (gName l) gNil)))) y σ H Q := by
  obtain ⟨p, u, v, x, z, rfl, hs, h1, h2, h3, h4⟩ := dp_t4 h
  exact a_t4V hs (q _ _ _ _ h1 h2 h3 h4)
theorem a_t2h {ms : List Addr} {a b : PyData} (h : Dp K (hide H ms) y (.tuple [a, b])) (q : ∀ u v, Dp K (hide H ms) u a → Dp K (hide H ms) v b → Q ((σ.set i (some u)).set j (some v)) H) : gT K 2 (gCons (gName i) (gCons (gName j) gNil)) y σ H Q := by
  obtain ⟨p, u, v, rfl, hs, h1, h2⟩ := dp_t2 h
  exact a_t2V (sqT_same same_show hs) (q _ _ h1 h2)
theorem a_t3h {ms : List Addr} {a b c : PyData} (h : Dp K (hide H ms) y (.tuple [a, b, c])) (q : ∀ u v x, Dp K (hide H ms) u a → Dp K (hide H ms) v b → Dp K (hide H ms) x c → Q (((σ.set i (some u)).set j (some v)).set k (some x)) H) : gT K 3 (gCons (gName i) (gCons (gName j) (gCons (gName k) gNil))) y σ H Q := by
  obtain ⟨p, u, v, x, rfl, hs, h1, h2, h3⟩ := dp_t3 h
  exact a_t3V (sqT_same same_show hs) (q _ _ _ h1 h2 h3)
theorem a_t4h {ms : List Addr} {a b c d : PyData} (h : Dp K (hide H ms) y (.tuple [a, b, c, d])) (q : ∀ u v x z, Dp K (hide H ms) u a → Dp K (hide H ms) v b → Dp K (hide H ms) x c → Dp K (hide H ms) z d → Q ((((σ.set i (some u)).set j (some v)).set k (some x)).set l (some z)) H) : gT K 4 (gCons (gName i) (gCons (gName j) (gCons (gName k) (gCons (gName l) gNil)))) y σ H Q := by
  obtain ⟨p, u, v, x, z, rfl, hs, h1, h2, h3, h4⟩ := dp_t4 h
  exact a_t4V (sqT_same same_show hs) (q _ _ _ _ h1 h2 h3 h4)
end
theorem pg_tupK {X : Cx} {K : PySem.W.Frag} {es : List Expr} {k : Nat} {t : TGs} {n : Nat} {pos : Pos} (hc : X.calm = true) (h : PGs X es t) (hn : (assignEach es X.env).length = n := by rfl) (hst : (assignEach es X.env).findIdx? (·.1) = none := by rfl) (hK : X.K = K := by rfl) :
    PG X (.Tuple es k pos) (gT K n t) := by
  subst hK; exact pg_tup hc h hn hst
end Pb

/-! PbOwn -/
set_option Elab.async false
set_option linter.all false
set_option maxRecDepth 100000
set_option maxHeartbeats 4000000
/-! Pb: == and len by an own __eq__, __len__ -/
namespace Pb
open PySem PySem.Spec PyProof.Rows L2
open C8 (Met)
section
variable {X : Cx} {n j : Nat} {C : Addr} {sp : Sp}
/-- x == y, x of the class at C, y too -/
def rEqO (C : Addr) (sp : Sp) : R2 := fun x y H Q => ∃ a b dx dy fs gs, x = .ref a ∧ y = .ref b ∧ H a = some (.ins C dx fs) ∧ H b = some (.ins C dy gs) ∧ sp [.ref a, .ref b] H (fun v H' => ∃ c, v = .bl c ∧ Q (.bl c) H') C8.E0
theorem op_eqO (c : Met X.prog X.w X.K X.mg X.base n C "__eq__" sp []) (hr : Room j X.A) (hk : n ≤ j) : OpR X (compareOp .Eq) (rEqO C sp) := by
  intro pins s σ H x y v u Q I rx ry hq
  obtain ⟨a, b, dx, dy, fs, gs, rfl, rfl, ha, hb, hsp⟩ := hq
  obtain ⟨f, fd, ps, ds, hc, me, F, hbi, hds⟩ := c.ex
  cases hds
  cases rx
  cases ry
  show wpAny (model X.prog X.w) X.A (richCompare .Eq (.ref a) (.ref b)) (EP X pins σ Q) X.xe s
  obtain ⟨mA, J1, _⟩ := ins_get I.hok ha
  obtain ⟨mB, J2, _⟩ := ins_get I.hok hb
  obtain ⟨od1, K1, _⟩ := J1.look
  obtain ⟨od2, K2, _⟩ := J2.look
  obtain ⟨m, hF⟩ := I.fr
  have hrn := hr.mono hk
  refine PySem.W.cmp_K (op := .Eq) (tb := .ref C) hrn.units0 hF I.ok.mod.kin K1 K2.type (by simp [PySem.W.notFirst]) me.at_ me.fn ?_
  have e0 : Env0 X.prog X.w X.K X.mg X.base X.A X.stack s H := I.env0
  have hl := F.len _ _ _ _ hsp
  have r2 : Vals [V.ref a, V.ref b] [Value.ref a, Value.ref b] := .cons rfl (.cons rfl .nil)
  refine wpAny_call (codeAny_mono (F.run X.A X.stack s H ⟨[.ref a, .ref b], []⟩ [.ref a, .ref b] [.ref a, .ref b] _ C8.E0 hrn e0 (by
    have q := hbi s [.ref a, .ref b] I.kIn (by simpa using hl)
    simpa using q) r2 hsp) fun r s' hq => ?_)
  cases r with
  | error e => exact C8.pass0 (E := C8.E0) pins σ H s e s' I hq
  | ok fl =>
    cases fl with
    | ret w =>
      obtain ⟨z, H', I', rz, c, ez, q⟩ := I.after hq
      subst ez
      cases (show w = Value.bool c from rz)
      exact ⟨.bl c, H', I', rfl, q⟩
    | next => exact False.elim hq
    | brk => exact False.elim hq
    | cont => exact False.elim hq
/-- len(x), x of the class at C -/
def rLenO (C : Addr) (sp : Sp) : List V → Hp → VK → Prop := fun xs H Q => ∃ a dx fs, xs = [.ref a] ∧ H a = some (.ins C dx fs) ∧ sp [.ref a] H (fun v H' => ∃ i : Nat, v = .int i ∧ i < 2 ^ 62 ∧ Q (.int i) H') C8.E0
theorem call_lenO (c : Met X.prog X.w X.K X.mg X.base n C "__len__" sp []) (hr : Room j X.A) (hk : n + 1 ≤ j) : CallR X (.builtin "len") (rLenO C sp) := by
  intro pins s σ H xs us Q I r hq
  obtain ⟨a, dx, fs, rfl, ha, hsp⟩ := hq
  obtain ⟨f, fd, ps, ds, hc, me, F, hbi, hds⟩ := c.ex
  cases hds
  obtain ⟨u, rfl, ru⟩ := vals1 r
  cases ru
  obtain ⟨mA, J1, _⟩ := ins_get I.hok ha
  obtain ⟨od1, K1, _⟩ := J1.look
  have hrn : Room n X.A.in1 := (hr.mono hk).in1
  have e0 : Env0 X.prog X.w X.K X.mg X.base X.A.in1 X.stack s H := by
    have e := I.env0
    exact ⟨e.frames, e.mod, e.bs, e.bsz, e.funs, e.frf, e.hok, e.bare⟩
  have hl := F.len _ _ _ _ hsp
  have r1 : Vals [V.ref a] [Value.ref a] := .cons rfl .nil
  have run : wpAny (model X.prog X.w) X.A.in1 (call (.ref f) [.ref a]) (fun v s' => ∃ i : Nat, (∃ t, v = .int i t) ∧ i < 2 ^ 62 ∧ ∃ H', L2.Inv X pins σ H' s' ∧ Q (.int i) H') X.xe s := by
    refine wpAny_call (codeAny_mono (F.run X.A.in1 X.stack s H ⟨[.ref a], []⟩ [.ref a] [.ref a] _ C8.E0 hrn e0 (by
      have q := hbi s [.ref a] I.kIn (by simpa using hl)
      simpa using q) r1 hsp) fun r s' hq => ?_)
    cases r with
    | error e => exact C8.pass0 (E := C8.E0) pins σ H s e s' I hq
    | ok fl =>
      cases fl with
      | ret w =>
        obtain ⟨z, H', I', rz, i, ez, hi, q⟩ := I.after hq
        subst ez
        obtain ⟨t, et⟩ := (show ∃ t, w = Value.int i t from rz)
        exact ⟨i, ⟨t, et⟩, hi, H', I', q⟩
      | next => exact False.elim hq
      | brk => exact False.elim hq
      | cont => exact False.elim hq
  refine Calls.call_function_entry kind_len plain_len entry_len (args_len1 _) ?_
  unfold Builtin.«len»
  refine wpAny_bind (m := oneArg "len" _) (wpAny_pure ?_)
  refine wpAny_bind (m := callSpecial? (.ref a) (Str.ofString "__len__")) ?_
  unfold callSpecial? specialOf
  refine wpAny_bind (wpAny_bind (K1.type.here ((PySem.W.looks_findIn I.kIn me.at_).here ?_)))
  refine wpAny_holding (wpAny_bind ((PySem.W.bind_fn I.kIn _ (beq_iff_eq.mp me.fn)).here ?_))
  refine wpAny_bind (wpAny_mono run (fun v s' hv => wpAny_pure ?_) fun _ _ h => h)
  obtain ⟨i, ⟨t, rfl⟩, hi, H', I', q⟩ := hv
  refine wpAny_bind (wpAny_holding (wpAny_pure ?_))
  refine wpAny_bind (wpAny_letGo ?_)
  show wpAny _ _ (if (i : Int) < 0 then _ else _) _ _ _
  rw [if_neg (by omega)]
  show wpAny _ _ (if (i : Int) ≥ 2 ^ 63 then _ else _) _ _ _
  rw [if_neg (by omega)]
  refine wpAny_bind (wpAny_mkInt (wpAny_pure ⟨_, rfl, ?_⟩))
  exact ⟨.int i, H', I'.tok _, ⟨_, rfl⟩, q⟩
end
/-! ### isinstance of an instance -/
structure IsaC (K : PySem.W.Frag) (C : Addr) : Prop where
  ha : PySem.W.findIn K (.ref C) "__class__" = some (some (.builtin "object.__class__"))
  hn : PySem.W.specialIn K (.builtin "object.__class__") "__get__" = some (some (.builtin "getset_descriptor.__get__"))
  ht : PySem.W.takesIn K (.builtin "object.__class__") = some true
  hm : PySem.W.mroIn K C (.type "object") = some true
def isaB (K : PySem.W.Frag) (C : Addr) : Bool := decide (PySem.W.findIn K (.ref C) "__class__" = some (some (.builtin "object.__class__"))) && (decide (PySem.W.specialIn K (.builtin "object.__class__") "__get__" = some (some (.builtin "getset_descriptor.__get__"))) &&
  (decide (PySem.W.takesIn K (.builtin "object.__class__") = some true) && decide (PySem.W.mroIn K C (.type "object") = some true)))
theorem isaB_ok {K : PySem.W.Frag} {C : Addr} (h : isaB K C = true) : IsaC K C := by
  unfold isaB at h
  have h1 := Bool.and_eq_true_iff.mp h
  have h2 := Bool.and_eq_true_iff.mp h1.2
  have h3 := Bool.and_eq_true_iff.mp h2.2
  exact ⟨of_decide_eq_true h1.1, of_decide_eq_true h2.1, of_decide_eq_true h3.1, of_decide_eq_true h3.2⟩
theorem a_isO {K : PySem.W.Frag} {H : Hp} {a C D dx : Addr} {fs : List (Str × V)} {b : Bool} {Q : VK} (e : H a = some (.ins C dx fs)) (c : Cls K C) (i : IsaC K C) (k : PySem.W.kitOne K (.ref C) (.ref D) = some b) (q : Q (.bl b) H) : rIsi K [.ref a, .ref D] H Q :=
  ⟨.ref a, .ref D, .ref C, .ref D, b, rfl, .own D, .base (.ins e c i.ha i.hn i.ht i.hm), k, q⟩
end Pb

/-! PbKw -/
set_option Elab.async false
set_option linter.all false
set_option maxRecDepth 100000
set_option maxHeartbeats 4000000
/-! Pb: defs with keyword-only parameters -/
namespace Pb
open PySem PySem.Spec PyProof.Rows L2
/-- the keyword-only default x of the def at f, if it is an object -/
def kwdAt (f : Addr) (x : Str) (K : PySem.W.Frag) : Addr := match K.lookup f with
  | some ⟨_, _, .func fd, _⟩ => (match fd.kwdefaults with
    | .ref D => (match PySem.W.nsIn K D x with
      | some (some (.ref a)) => a
      | _ => 0)
    | _ => 0)
  | _ => 0
/-- the empty tuple -/
def etB (K : PySem.W.Frag) (a : Addr) : Bool := match K.lookup a with
  | some ⟨.type c, _, .seq its _, _⟩ => decide (c = "tuple") && decide (its.size = 0)
  | _ => false
theorem etB_ok {K : PySem.W.Frag} {a : Addr} (h : etB K a = true) (H : Hp) : SqT K H a [] := by
  unfold etB at h
  cases q : K.lookup a with
  | none => rw [q] at h; cases h
  | some o =>
    obtain ⟨oc, od, dt, osl⟩ := o
    rw [q] at h
    cases oc with
    | type c =>
      cases dt with
      | seq its n =>
        have h1 := Bool.and_eq_true_iff.mp (show (decide (c = "tuple") && decide (its.size = 0)) = true from h)
        have e : its = #[] := Array.size_eq_zero_iff.mp (of_decide_eq_true h1.2)
        subst e
        exact .inr ⟨_, #[], n, q, congrArg Value.type (of_decide_eq_true h1.1), rfl, Nat.zero_le _, .nil⟩
      | _ => cases h
    | _ => cases dt <;> cases h
/-- a def with keyword-only defaults, its promise over all parameters -/
structure KDef (P : Program) (w : World) (K : PySem.W.Frag) (mg : Str → Option Value) (base : Heap) (k : Nat) (x : Str) (sp : Sp) (ps : List Str) (st : Stmt) (kws : List (Str × V)) : Prop where
  ex : ∃ f fd, FnOk P w K mg base CX0 k f fd ps sp ∧ mg x = some (.ref f) ∧ FunD K x x (L2.defArgs st) (L2.defBody st) (L2.defScope st) [] kws f fd
section
variable {P : Program} {w : World} {K : PySem.W.Frag} {mg : Str → Option Value} {base : Heap}
theorem kdef_of {x : Str} {st : Stmt} {f : Addr} {N ps : List Str} {k : Nat} {sp : Sp} {kws : List (Str × V)} (D : FnD K x x st [] kws f) (g : mg x = some (.ref f)) (S : FnScope N ps (L2.defScope st))
    (len : ∀ vs H Q E, sp vs H Q E → vs.length = ps.length)
    (hbody : ∀ (cdv : Value) (A : Around) (outer : List Env) (s : Shared) (H : Hp) (vs : List V) (Q : VK) (E : XK), Room k (A.deeper (envOfC x (L2.defScope st) s.heap.objs.size f cdv)) → sp vs H Q E →
      ∃ t, PSs (cxOf CX0 P w K mg base N x (L2.defScope st) f cdv A outer s H E).nox (L2.defBody st) t ∧ t { nx := fun _ H' => Q .non H', rt := Q } (start N vs) H) : KDef P w K mg base (k + 1) x sp ps st kws := by
  obtain ⟨fd, F⟩ := D
  refine ⟨f, fd, F.ok S len fun cdv A outer s H vs Q E hr h => ?_, g, F⟩
  obtain ⟨t, h1, h2⟩ := hbody cdv A outer s H vs Q E hr h
  exact ⟨t, h1.nox, h2⟩
end
section
variable {X : Cx} {k j : Nat} {x : Str} {sp : Sp} {ps : List Str} {st : Stmt} {kws : List (Str × V)} {p pos : Pos} {e : Expr} {es : List Expr} {kwe : List Keyword} {t tk : TA}
/-- f(e, .., k = v, ..) -/
theorem pe_callKD (c : KDef X.prog X.w X.K X.mg X.base k x sp ps st kws) (hr : Room j X.A) (hk : k ≤ j) (hg : Gl X x) (n : Nat) (ks : List Str) (ms : List (Str × V)) (g : {α : Type} → List α → List α → List α → List α) (hkws : kws ≠ []) (hms : ∀ q ∈ ms, q ∈ kws)
    (hrel : ∀ {vs mz zs : List V} {us mv ws : List Value}, Vals vs us → Vals mz mv → Vals zs ws → Vals (g vs mz zs) (g us mv ws))
    (h : ∀ (D : Addr) (doc pm : Value) (an : Option Addr) (cdv ct : Value) (us mv ws : List Value), us.length = n → mv.length = ms.length → ws.length = ks.length →
      KwChain D ((ms.map (·.1)).zip mv) (bindArgs (PySem.W.fnOf x x (L2.defArgs st) (L2.defBody st) (L2.defScope st) .none (.ref D) doc pm an cdv ct) ⟨us, ks.zip ws⟩) (ps.zip (g us mv ws)))
    (ha : PA X (e :: es) t) (hkw : PK X kwe tk) (hall : (backToKw pos (keywordEach kwe X.env)).all (·.1.isSome) = true := by rfl) (hks : (backToKw pos (keywordEach kwe X.env)).filterMap (·.1) = ks := by rfl)
    (hdb : (x == ("__debug__" : Str)) = false := by decide) (he : starEach (e :: es) X.env = (false, eval e X.env) :: starEach es X.env := by rfl)
    (hpl : ((backTo pos (starEach (e :: es) X.env)).any (·.1) || (backToKw pos (keywordEach kwe X.env)).any (·.1.isNone)) = false := by rfl) :
    PE X (.Call (.Name x p) (e :: es) kwe pos) (tCallN n ks.length sp (fun vs zs => g vs (ms.map (·.2)) zs) C8.E0 t tk) := by
  obtain ⟨f, fd, F, hm, D⟩ := c.ex
  obtain ⟨mv, hb⟩ := D.kbinds0 (ps := ps) n ks ms g hkws hms hrel h
  exact pe_callN F (hr.mono hk) hg hm D.kp hb C8.pass0 ha hkw hall hks hdb he hpl
end
end Pb

/-! PbG -/
set_option Elab.async false
set_option linter.all false
set_option maxRecDepth 100000
set_option maxHeartbeats 4000000
/-! Pb: str of nested data: it asks that no repr runs outside; a call layer that hands this on -/
namespace Pb
open PySem PySem.Spec PyProof.Rows L2
open C8 (Cal Mak Met)
/-- no repr runs -/
def Still (A : Around) : Prop := A.guards = some []
theorem Still.deeper {A : Around} {env : Env} (h : Still A) : Still (A.deeper env) := h
/-- a promise that may lean on it -/
structure GFn (P : Program) (w : World) (K : PySem.W.Frag) (mg : Str → Option Value) (base : Heap) (k : Nat) (f : Addr) (fd : FuncData) (ps : List Str) (sp : Sp) : Prop where
  len : ∀ vs H Q E, sp vs H Q E → vs.length = ps.length
  go : ∀ (A : Around), Still A → ∀ (outer : List Env) (t : Shared) (H : Hp) (ar : Args) (us : List Value) (vs : List V) (Q : VK) (E : XK), Room k A → Env0 P w K mg base A outer t H → BindsTo t fd ar (ps.zip us) → Vals vs us → sp vs H Q E →
    codeAny (model P w) A (.call (.ref f) ar) (CR CX0 outer P w H t Q E) t
section
variable {P : Program} {w : World} {K : PySem.W.Frag} {mg : Str → Option Value} {base : Heap}
theorem gfn_of {x qual : Str} {st : Stmt} {f : Addr} {fd : FuncData} {dvs : List V} {kws : List (Str × V)} {N ps : List Str} {k : Nat} {sp : Sp} (D : FunD K x qual (L2.defArgs st) (L2.defBody st) (L2.defScope st) dvs kws f fd) (S : FnScope N ps (L2.defScope st)) (len : ∀ vs H Q E, sp vs H Q E → vs.length = ps.length)
    (hbody : ∀ (cdv : Value) (A : Around) (outer : List Env) (s : Shared) (H : Hp) (vs : List V) (Q : VK) (E : XK), Still (A.deeper (envOfC qual (L2.defScope st) s.heap.objs.size f cdv)) → Room k (A.deeper (envOfC qual (L2.defScope st) s.heap.objs.size f cdv)) → sp vs H Q E →
      ∃ t, PSs (cxOf CX0 P w K mg base N qual (L2.defScope st) f cdv A outer s H E) (L2.defBody st) t ∧ t { nx := fun _ H' => Q .non H', rt := Q } (start N vs) H) : GFn P w K mg base (k + 1) f fd ps sp := by
  obtain ⟨oc, od, dV, kV, doc, pm, an, cdv, ct, osl, rfl, lk, hcd, _, _⟩ := D.ex
  refine ⟨len, fun A still outer t H ar us vs Q E room env bnd rel hsp => ?_⟩
  have n := len vs H Q E hsp
  have kin : K.In t.heap := env.mod.kin.keeps fun b o e => (env.bs b o e).1
  have noLim : t.heap.NoLimit := env.mod.nolimit.keeps fun b o e => (env.bs b o e).1
  refine codeAny_call_function room.depth (kin _ _ lk) rfl S.co S.gen rfl (PySem.W.codeRec_of kin hcd) (bnd _ _ _ _ ?_)
  have kinds : ∀ y ∈ ps.zip us, (L2.defScope st).names.lookup y.1 = some .local ∨ ((L2.defScope st).names.lookup y.1 = some .cell ∧ ((cellsFrom (t.heap.objs.size + 1) (L2.defScope st).names []).lookup y.1).isSome = true) := by
    rintro ⟨z, v⟩ hz
    exact (S.par z (List.of_mem_zip hz).1).imp id fun q => ⟨q, PySem.W.cellsFrom_some _ _ _ (.inl q)⟩
  refine wpAny_newFunctionEnv_cells S.kind kinds fun env2 eenv t1 inC => ?_
  subst eenv
  refine ⟨noLim.keeps inC.toInCall.keep, codeAny_func ?_⟩
  obtain ⟨tr, h1, h2⟩ := hbody cdv A outer t H vs Q E still.deeper (room.deeper _) hsp
  have J0 : L2.Inv (cxOf CX0 P w K mg base N qual (L2.defScope st) f cdv A outer t H E) [] (start N vs) H t1 := inv_start S room.hd env n rel inC
  refine wpAny_mono (h1.run [] t1 (start N vs) H _ J0 h2) (fun fl t2 hq => ?_) fun _ _ hq => hq
  have out : ∀ {σ : L2.St} {H' : Hp} {v : V} {u : Value}, L2.Inv (cxOf CX0 P w K mg base N qual (L2.defScope st) f cdv A outer t H E) [] σ H' t2 → RelV v u → Q v H' → CE outer P w H t Q u t2 := fun J r q => ⟨_, _, J.os, J.bare, J.base, J.hok, r, q⟩
  cases fl with
  | ret u => obtain ⟨v, σ, H', J, r, q⟩ := hq; exact out J r q
  | next => obtain ⟨σ, H', J, q⟩ := hq; exact out (v := V.non) (u := Value.none) J rfl q
  | brk => obtain ⟨_, _, _, q⟩ := hq; cases q
  | cont => obtain ⟨_, _, _, q⟩ := hq; cases q
/-- a def that may be called by its name -/
structure GCal (P : Program) (w : World) (K : PySem.W.Frag) (mg : Str → Option Value) (base : Heap) (k : Nat) (x : Str) (sp : Sp) : Prop where
  ex : ∃ (f : Addr) (fd : FuncData) (ps : List Str), GFn P w K mg base k f fd ps sp ∧ mg x = some (.ref f) ∧ PySem.W.keepIn K (.ref f) = true ∧ Binds K fd ps []
theorem gcal_of {x : Str} {st : Stmt} {f : Addr} {N ps : List Str} {k : Nat} {sp : Sp} (D : FnD K x x st [] [] f) (g : mg x = some (.ref f)) (S : FnScope N ps (L2.defScope st))
    (hb : ∀ (kV doc pm : Value) (an : Option Addr) (cdv ct : Value) (us : List Value), us.length = ps.length → bindArgs (PySem.W.fnOf x x (L2.defArgs st) (L2.defBody st) (L2.defScope st) .none kV doc pm an cdv ct) ⟨us, []⟩ = pure (ps.zip us))
    (len : ∀ vs H Q E, sp vs H Q E → vs.length = ps.length)
    (hbody : ∀ (cdv : Value) (A : Around) (outer : List Env) (s : Shared) (H : Hp) (vs : List V) (Q : VK) (E : XK), Still (A.deeper (envOfC x (L2.defScope st) s.heap.objs.size f cdv)) → Room k (A.deeper (envOfC x (L2.defScope st) s.heap.objs.size f cdv)) → sp vs H Q E →
      ∃ t, PSs (cxOf CX0 P w K mg base N x (L2.defScope st) f cdv A outer s H E).nox (L2.defBody st) t ∧ t { nx := fun _ H' => Q .non H', rt := Q } (start N vs) H) : GCal P w K mg base (k + 1) x sp := by
  obtain ⟨fd, F⟩ := D
  refine ⟨f, fd, ps, gfn_of F S len fun cdv A outer s H vs Q E hs hr h => ?_, g, F.kp, F.bindsN hb⟩
  obtain ⟨t, h1, h2⟩ := hbody cdv A outer s H vs Q E hs hr h
  exact ⟨t, h1.nox, h2⟩
end
section
variable {X : Cx} {k j : Nat} {x : Str} {sp : Sp} {p pos : Pos} {e : Expr} {es : List Expr} {t : TA}
/-- f(e, ..) of such a def -/
theorem pe_cG (c : GCal X.prog X.w X.K X.mg X.base k x sp) (st : Still X.A) (hr : Room j X.A) (hk : k ≤ j) (hg : Gl X x) (ha : PA X (e :: es) t)
    (hdb : (x == ("__debug__" : Str)) = false := by decide) (he : starEach (e :: es) X.env = (false, eval e X.env) :: starEach es X.env := by rfl) (hpl : (backTo pos (starEach es X.env)).any (·.1) = false := by rfl) :
    PE X (.Call (.Name x p) (e :: es) [] pos) (tCall sp [] C8.E0 t) := by
  obtain ⟨f, fd, ps, F, hm, kp, hbi⟩ := c.ex
  refine ⟨fun pins s σ H Q I h => wpAny_Call_Name_kw (ld_glob I hg hm ?_ hdb)⟩
  refine PySem.W.callWith_K (h₀ := X.base) I.ok.mod.kin kp (thn (ha.run pos pins s σ H _ I h) fun us s1 ⟨vs, H1, J, rel, q⟩ => ⟨J.kIn, ?_⟩) he hpl
  have rel2 : Vals (vs ++ []) (us ++ []) := rel.append .nil
  have n : (us ++ []).length = ps.length := by rw [← rel2.length]; exact F.len _ _ _ _ q
  refine wpAny_call (codeAny_mono (F.go X.A st X.stack s1 H1 ⟨us, []⟩ (us ++ []) (vs ++ []) Q C8.E0 (hr.mono hk) J.env0 (hbi s1 us J.kIn n) rel2 q) fun r s2 hq => ?_)
  match r, hq with
  | .error er, hq => exact C8.pass0 (E := C8.E0) pins σ H1 s1 er s2 J hq
  | .ok (.ret u), hq => exact J.after hq
/-- str(x), x data in which nothing is wider than may be shown -/
def rStrD (K : PySem.W.Frag) : List V → Hp → VK → Prop := fun xs H Q => ∃ v d, xs = [v] ∧ Dp K H v d ∧ (∃ a, v = .ref a) ∧ d.showable = true ∧ d.hasDict = false ∧ d.depth ≤ 50 ∧ d.shown.length ≤ sizeLine ∧ Q (.str d.shown) H
theorem call_strD (st : Still X.A) (hr : Room j X.A) : CallR X (.type "str") (rStrD X.K) := by
  intro pins s σ H xs us Q I r h
  obtain ⟨v, d, rfl, hd, ⟨a, rfl⟩, h1, h2, h3, h4, q⟩ := h
  obtain ⟨u, rfl, ru⟩ := vals1 r
  obtain ⟨as, rd⟩ := Dp.reads I d (.ref a) u hd ru
  cases ru
  have un := hr.un
  refine PySem.str_of_reads rd h1 (fun z => by rw [h2] at z; cases z) st (by omega) (fun b o e => e) (fun h' u tk kp => ?_) h4
  exact ⟨.str d.shown, H, I.kept (t' := tk) kp, ⟨_, rfl⟩, q⟩
end
/-! ### the end of a law whose def leans on it -/
section
variable {P : Program} {w : World} {K : PySem.W.Frag} {mg mb : Str → Option Value}
/-- from one abstract heap, in which at most the script stands -/
theorem law_at {k : Nat} {fa a : Addr} {fd : FuncData} {x : Str} {sp : Sp} {s1 : Shared} {H : Hp} (kin : K.In s1.heap) (nsM : s1.heap.Ns mainGlobals mg) (nsB : s1.heap.Ns builtinsNs mb) (bb : ∀ x : Str, x ≠ "__name__" → mb x = bootBuiltins x) (nl : s1.heap.NoLimit) (ng : s1.gens = #[])
    (room : Room k callerA) (F : ∀ base : Heap, K.In base → base.Ns mainGlobals mg → GFn P w K mg base k fa fd [x] sp) (bnd : ∀ (t : Shared) (u : Value), BindsTo t fd ⟨[u], []⟩ [(x, u)])
    (only : Only H) (hok : HOk P w H s1.heap) (nodict : ∀ b o es ep, H b ≠ none → s1.heap.get? b = some o → o.data = .dict es ep → False) (off : ∀ b o, K.lookup b = some o → H b = none) (hsp : sp [.ref a] H (fun v _ => v = .bl true) fun _ _ _ => False) :
    codeAny (model P w) callerA (.call (.ref fa) ⟨[.ref a], []⟩) (fun r s' => r = .ok (.ret (.bool true)) ∧ OldK s1.heap s'.heap ∧ s'.os = s1.os ∧ AllBare s'.gens) s1 := by
  have seen : ∀ b o, s1.heap.get? b = some o → H b = none → (hidT s1.heap H).get? b = some o := fun b o e n => hidT_get e n
  have ns : ∀ {b : Addr} {m : Str → Option Value}, s1.heap.Ns b m → (hidT s1.heap H).Ns b m := by
    rintro b m ⟨o, es, ep, e, d, r⟩
    refine ⟨o, es, ep, seen b o e ?_, d, r⟩
    cases q : H b with
    | none => rfl
    | some u => exact (nodict b o es ep (by rw [q]; exact fun z => nomatch z) e d).elim
  have kB : K.In (hidT s1.heap H) := fun b o e => seen b o (kin b o e) (off b o e)
  obtain ⟨mc, l1, l2⟩ := nl
  have md : Mod K mg (hidT s1.heap H) := ⟨kB, ns nsM, ⟨mb, ns nsB, bb⟩, ⟨mc, ns l1, l2⟩⟩
  have env : Env0 P w K mg (hidT s1.heap H) callerA [] s1 H := ⟨rfl, md, fun b o e => of_hidT e, Nat.le_of_eq (hidT_size _ _), trivial, fun b hb => (nomatch hb), hok, .of_eq ng⟩
  have run := (F _ kB (ns nsM)).go callerA rfl [] s1 H ⟨[.ref a], []⟩ [.ref a] [.ref a] _ _ room env (bnd s1 (.ref a)) (.cons rfl .nil) hsp
  refine codeAny_mono run fun r s2 hq => ?_
  match r, hq with
  | .error _, hq => exact False.elim hq
  | .ok .next, hq => exact False.elim hq
  | .ok .brk, hq => exact False.elim hq
  | .ok .cont, hq => exact False.elim hq
  | .ok (.ret u), ⟨v, H2, eos, bare, un, hok2, rel, ev⟩ =>
    subst ev
    cases (show u = Value.bool true from rel)
    refine ⟨rfl, OldK.of_keep fun b o e => ?_, eos, bare⟩
    rcases only b with z | ⟨ob, xs, z⟩
    · exact un.keep b o e z (fun m => nomatch m) (fun m => nomatch m)
    · have e1 := (hok b _ z).1
      have e2 := (hok2 b _ (un.frzs b ob _ z)).1
      rw [e] at e1
      cases e1
      exact e2
theorem law_of {k : Nat} {fa a : Addr} {fd : FuncData} {x : Str} {sp : Sp} {s1 : Shared} {us : List Value} {ns : List Int} (kin : K.In s1.heap) (nsM : s1.heap.Ns mainGlobals mg) (nsB : s1.heap.Ns builtinsNs mb) (bb : ∀ x : Str, x ≠ "__name__" → mb x = bootBuiltins x) (nl : s1.heap.NoLimit) (ng : s1.gens = #[])
    (ha : s1.heap.get? a = some { cls := .type "list", data := .seq us.toArray }) (hi : IntsAre us ns) (hl : ns.length ≤ sizeLine) (room : Room k callerA) (F : ∀ base : Heap, K.In base → base.Ns mainGlobals mg → GFn P w K mg base k fa fd [x] sp)
    (bnd : ∀ (t : Shared) (u : Value), BindsTo t fd ⟨[u], []⟩ [(x, u)]) (hsp : ∀ H : Hp, Only H → SqL K H a (ns.map V.int) → sp [.ref a] H (fun v _ => v = .bl true) fun _ _ _ => False) :
    codeAny (model P w) callerA (.call (.ref fa) ⟨[.ref a], []⟩) (fun r s' => r = .ok (.ret (.bool true)) ∧ OldK s1.heap s'.heap ∧ s'.os = s1.os ∧ AllBare s'.gens) s1 := by
  have rel := vals_ints hi
  have len := hi.length
  cases q : K.lookup a with
  | some o =>
    have e := kin a o q
    rw [ha] at e
    cases e
    have sq : SqL K (fun _ => none) a (ns.map V.int) := .inr ⟨_, us.toArray, _, q, rfl, rfl, rfl, by rw [List.size_toArray, len]; exact hl, by rw [List.toList_toArray]; exact rel⟩
    exact law_at kin nsM nsB bb nl ng room F bnd (fun _ => .inl rfl) (fun b u z => nomatch z) (fun b o es ep z => absurd rfl z) (fun _ _ _ => rfl) (hsp _ (fun _ => .inl rfl) sq)
  | none =>
    let ob : Obj := { cls := .type "list", data := .seq us.toArray }
    let H : Hp := upd (fun _ => none) a (.frz ob (.lst (ns.map V.int)))
    have at_ : H a = some (.frz ob (.lst (ns.map V.int))) := upd_same
    have ne : ∀ b, b ≠ a → H b = none := fun b z => upd_ne z
    have only : Only H := fun b => by
      by_cases e : b = a
      · exact .inr ⟨ob, _, by rw [e]; exact at_⟩
      · exact .inl (ne b e)
    refine law_at kin nsM nsB bb nl ng room F bnd only (fun b u z => ?_) (fun b o es ep z e d => ?_) (fun b o e => ?_) (hsp _ only (.inl (.inr ⟨ob, at_⟩)))
    · by_cases e : b = a
      · subst e
        rw [at_] at z
        cases z
        exact ⟨ha, by rw [List.length_map]; exact hl, us, 0, rel, ha⟩
      · rw [ne b e] at z
        cases z
    · by_cases eb : b = a
      · subst eb
        rw [ha] at e
        cases e
        exact nomatch d
      · exact z (ne b eb)
    · refine ne b fun z => ?_
      rw [z, q] at e
      cases e
end
theorem walk_ofG {l : PySem.W.OpenLaw} {n k : Nat} {q : Program} {loose : List Str} {XP : (Str → Option Value) → Heap → Prop} {YP : World → Heap → Prop} {d : DefRec} {x : Str} (hn : l.most = some n) (hn2 : n ≤ sizeLine) (hdf : d.params.defaults = []) (room : Room k callerA)
    (F : ∀ (w : World) (mg : Str → Option Value) (fa : Addr) (h : Heap), YP w h → h.Ns mainGlobals mg → mg d.name = some (.ref fa) →
      ∃ (K : PySem.W.Frag) (fd : FuncData) (sp : Sp), K.In h ∧ (∀ (s : Shared) (u : Value), BindsTo s fd ⟨[u], []⟩ [(x, u)]) ∧ (∀ (H : Hp) (a : Addr) (ns : List Int), ns.length ≤ n → Only H → SqL K H a (ns.map V.int) → sp [.ref a] H (fun v _ => v = .bl true) fun _ _ _ => False) ∧
        ∀ base : Heap, K.In base → base.Ns mainGlobals mg → GFn l.prog w K mg base k fa fd [x] sp) :
    PySem.W.WalkO q loose XP YP l.row.toRowW d [] (fun f vs => PySem.call f vs) := by
  refine Att.attach_call hn hdf fun w s0 s1 mg mb fa o pm cd doc a us ns G Y ho hd hcd hmg hobj hints hlen ng => ?_
  obtain ⟨K, fd, sp, kin, bnd, hsp, hF⟩ := F w mg fa _ Y G.T.g hmg
  exact law_of kin G.T.g G.T.b G.T.builtins G.T.nolimit ng hobj hints (Nat.le_trans hlen hn2) room hF bnd fun H only sq => hsp H a ns hlen only sq
end Pb

/-! PbTab -/
set_option Elab.async false
set_option linter.all false
set_option maxRecDepth 100000
set_option maxHeartbeats 4000000
/-! Pb: the end of a law in whose program one def's table grows -/
namespace Pb
open PySem PySem.Spec PyProof.Rows L2
section
variable {P : Program} {w : World} {K : PySem.W.Frag} {mg mb : Str → Option Value}
/-- what may stand in the abstract heap: the script, the table -/
def Few (H : Hp) (T : Addr) : Prop := ∀ b, b = T ∨ H b = none ∨ ∃ ob xs, H b = some (.frz ob (.lst xs))
theorem law_atT {k : Nat} {fa a c T : Addr} {fd : FuncData} {x : Str} {sp : Sp} {s1 : Shared} {H : Hp} (kin : K.In s1.heap) (nsM : s1.heap.Ns mainGlobals mg) (nsB : s1.heap.Ns builtinsNs mb) (bb : ∀ x : Str, x ≠ "__name__" → mb x = bootBuiltins x) (nl : s1.heap.NoLimit) (ng : s1.gens = #[])
    (hcd : PySem.W.codeHdIn K c T = true) (oT : s1.heap.get? T = some { cls := .none, data := .fields #[] }) (hbm : ∃ (bm : Addr) (ob : Obj), mg "__builtins__" = some (.ref bm) ∧ bm ≠ builtinsNs ∧ s1.heap.get? bm = some ob ∧ ob.cls = .type "module" ∧ ob.dict = some builtinsNs ∧ ob.data = .plain)
    (room : Room k callerA) (F : ∀ base : Heap, K.In base → base.Ns mainGlobals mg → LamX.TabB base mg c T → GFn P w K mg base k fa fd [x] sp) (bnd : ∀ (t : Shared) (u : Value), BindsTo t fd ⟨[u], []⟩ [(x, u)])
    (aT : H T = some (.tbl #[])) (few : Few H T) (hok : HOk P w H s1.heap) (seqs : ∀ b o, H b ≠ none → s1.heap.get? b = some o → (∃ vs n, o.data = .seq vs n) ∨ o.data = .fields #[]) (off : ∀ b o, K.lookup b = some o → H b = none) (hsp : sp [.ref a] H (fun v _ => v = .bl true) fun _ _ _ => False) :
    codeAny (model P w) callerA (.call (.ref fa) ⟨[.ref a], []⟩) (fun r s' => r = .ok (.ret (.bool true)) ∧ OldK s1.heap s'.heap ∧ s'.os = s1.os ∧ AllBare s'.gens) s1 := by
  have seen : ∀ b o, s1.heap.get? b = some o → H b = none → (hidT s1.heap H).get? b = some o := fun b o e n => hidT_get e n
  have untr : ∀ b o, s1.heap.get? b = some o → (∀ vs n, o.data ≠ .seq vs n) → o.data ≠ .fields #[] → H b = none := fun b o e n1 n2 => by
    cases q : H b with
    | none => rfl
    | some u =>
      rcases seqs b o (by rw [q]; exact fun z => nomatch z) e with ⟨vs, n, z⟩ | z
      · exact (n1 _ _ z).elim
      · exact (n2 z).elim
  have ns : ∀ {b : Addr} {m : Str → Option Value}, s1.heap.Ns b m → (hidT s1.heap H).Ns b m := by
    rintro b m ⟨o, es, ep, e, d, r⟩
    exact ⟨o, es, ep, seen b o e (untr b o e (fun vs n z => by rw [d] at z; cases z) fun z => by rw [d] at z; cases z), d, r⟩
  have kB : K.In (hidT s1.heap H) := fun b o e => seen b o (kin b o e) (off b o e)
  obtain ⟨mc, l1, l2⟩ := nl
  have md : Mod K mg (hidT s1.heap H) := ⟨kB, ns nsM, ⟨mb, ns nsB, bb⟩, ⟨mc, ns l1, l2⟩⟩
  have env : Env0 P w K mg (hidT s1.heap H) callerA [] s1 H := ⟨rfl, md, fun b o e => of_hidT e, Nat.le_of_eq (hidT_size _ _), trivial, fun b hb => (nomatch hb), hok, .of_eq ng⟩
  have gT : mainGlobals ≠ T := fun z => by
    obtain ⟨o, es, ep, e, d, _⟩ := nsM
    rw [z, oT] at e
    cases e
    cases d
  have tab : LamX.TabB (hidT s1.heap H) mg c T := by
    obtain ⟨bm, om, m1, m2, m3, m4, m5, m6⟩ := hbm
    refine NdefX.tabB_of_K kB hcd ⟨bm, om, m1, m2, fun z => ?_, fun z => ?_, seen _ _ m3 (untr _ _ m3 (fun vs n z => by rw [m6] at z; cases z) fun z => by rw [m6] at z; cases z), m4, m5, m6⟩ gT
    · obtain ⟨o, es, ep, e, d, _⟩ := nsM
      rw [z, e] at m3
      cases m3
      rw [d] at m6
      cases m6
    · rw [z, oT] at m3
      cases m3
      cases m6
  refine codeAny_mono ((F _ kB (ns nsM) tab).go callerA rfl [] s1 H ⟨[.ref a], []⟩ [.ref a] [.ref a] _ _ room env (bnd s1 (.ref a)) (.cons rfl .nil) hsp) fun r s2 hq => ?_
  match r, hq with
  | .error _, hq => exact False.elim hq
  | .ok .next, hq => exact False.elim hq
  | .ok .brk, hq => exact False.elim hq
  | .ok .cont, hq => exact False.elim hq
  | .ok (.ret u), ⟨v, H2, eos, bare, un, hok2, rel, ev⟩ =>
    subst ev
    cases (show u = Value.bool true from rel)
    have same : ∀ b o, b ≠ T → s1.heap.get? b = some o → s2.heap.get? b = some o := fun b o nb e => by
      rcases few b with z | z | ⟨ob, xs, z⟩
      · exact (nb z).elim
      · exact un.keep b o e z (fun m => nomatch m) (fun m => nomatch m)
      · have e1 := (hok b _ z).1
        have e2 := (hok2 b _ (un.frzs b ob _ z)).1
        rw [e] at e1
        cases e1
        exact e2
    obtain ⟨more, gr⟩ := un.tbls T #[] aT
    have grT : s2.heap.get? T = some { cls := .none, data := .fields (#[] ++ more) } := hok2 T _ gr
    refine ⟨rfl, ⟨fun b o e => ?_, fun b o e => ?_⟩, eos, bare⟩
    · by_cases hb : b = T
      · subst hb
        rw [oT] at e
        cases e
        refine .inr (.inl ⟨((PySem.W.codeHd_of_K kin hcd).tab oT).isCodeTable, rfl, #[], more, rfl, ?_⟩)
        exact grT
      · exact .inl (same b o hb e)
    · by_cases hb : b = T
      · exact ⟨_, by rw [hb]; exact grT⟩
      · exact ⟨o, same b o hb e⟩
theorem law_ofT {k : Nat} {fa a c T : Addr} {fd : FuncData} {x : Str} {sp : Sp} {s1 : Shared} {us : List Value} {ns : List Int} (kin : K.In s1.heap) (nsM : s1.heap.Ns mainGlobals mg) (nsB : s1.heap.Ns builtinsNs mb) (bb : ∀ x : Str, x ≠ "__name__" → mb x = bootBuiltins x) (nl : s1.heap.NoLimit) (ng : s1.gens = #[])
    (hcd : PySem.W.codeHdIn K c T = true) (oT : s1.heap.get? T = some { cls := .none, data := .fields #[] }) (nT : K.lookup T = none) (hbm : ∃ (bm : Addr) (ob : Obj), mg "__builtins__" = some (.ref bm) ∧ bm ≠ builtinsNs ∧ s1.heap.get? bm = some ob ∧ ob.cls = .type "module" ∧ ob.dict = some builtinsNs ∧ ob.data = .plain)
    (ha : s1.heap.get? a = some { cls := .type "list", data := .seq us.toArray }) (hi : IntsAre us ns) (hl : ns.length ≤ sizeLine) (room : Room k callerA) (F : ∀ base : Heap, K.In base → base.Ns mainGlobals mg → LamX.TabB base mg c T → GFn P w K mg base k fa fd [x] sp)
    (bnd : ∀ (t : Shared) (u : Value), BindsTo t fd ⟨[u], []⟩ [(x, u)]) (hsp : ∀ H : Hp, H T = some (.tbl #[]) → SqL K H a (ns.map V.int) → sp [.ref a] H (fun v _ => v = .bl true) fun _ _ _ => False) :
    codeAny (model P w) callerA (.call (.ref fa) ⟨[.ref a], []⟩) (fun r s' => r = .ok (.ret (.bool true)) ∧ OldK s1.heap s'.heap ∧ s'.os = s1.os ∧ AllBare s'.gens) s1 := by
  have rel := vals_ints hi
  have len := hi.length
  have neT : a ≠ T := fun z => by
    rw [z, oT] at ha
    cases ha
  cases q : K.lookup a with
  | some o =>
    have e := kin a o q
    rw [ha] at e
    cases e
    have at_ : upd (fun _ => none) T (HO.tbl #[]) T = some (.tbl #[]) := upd_same
    have ne : ∀ b, b ≠ T → upd (fun _ => none) T (HO.tbl #[]) b = none := fun b z => upd_ne z
    refine law_atT kin nsM nsB bb nl ng hcd oT hbm room F bnd at_ (fun b => ?_) (fun b u z => ?_) (fun b o z e => ?_) (fun b o e => ne b fun z => ?_) (hsp _ at_ (.inr ⟨_, us.toArray, _, q, rfl, rfl, rfl, by rw [List.size_toArray, len]; exact hl, by rw [List.toList_toArray]; exact rel⟩))
    · by_cases hb : b = T
      · exact .inl hb
      · exact .inr (.inl (ne b hb))
    · by_cases hb : b = T
      · subst hb
        rw [at_] at z
        cases z
        exact oT
      · rw [ne b hb] at z
        cases z
    · by_cases hb : b = T
      · subst hb
        rw [oT] at e
        cases e
        exact .inr rfl
      · exact (z (ne b hb)).elim
    · rw [z, nT] at e
      cases e
  | none =>
    let ob : Obj := { cls := .type "list", data := .seq us.toArray }
    let H : Hp := upd (upd (fun _ => none) T (.tbl #[])) a (.frz ob (.lst (ns.map V.int)))
    have atA : H a = some (.frz ob (.lst (ns.map V.int))) := upd_same
    have atT : H T = some (.tbl #[]) := (upd_ne (Ne.symm neT)).trans upd_same
    have ne : ∀ b, b ≠ a → b ≠ T → H b = none := fun b z1 z2 => (upd_ne z1).trans (upd_ne z2)
    refine law_atT kin nsM nsB bb nl ng hcd oT hbm room F bnd atT (fun b => ?_) (fun b u z => ?_) (fun b o z e => ?_) (fun b o e => ne b (fun z => ?_) fun z => ?_) (hsp _ atT (.inl (.inr ⟨ob, atA⟩)))
    · by_cases h1 : b = T
      · exact .inl h1
      · by_cases h2 : b = a
        · exact .inr (.inr ⟨ob, _, by rw [h2]; exact atA⟩)
        · exact .inr (.inl (ne b h2 h1))
    · by_cases h2 : b = a
      · subst h2
        rw [atA] at z
        cases z
        exact ⟨ha, by rw [List.length_map]; exact hl, us, 0, rel, ha⟩
      · by_cases h1 : b = T
        · subst h1
          rw [atT] at z
          cases z
          exact oT
        · rw [ne b h2 h1] at z
          cases z
    · by_cases h2 : b = a
      · subst h2
        rw [ha] at e
        cases e
        exact .inl ⟨_, _, rfl⟩
      · by_cases h1 : b = T
        · subst h1
          rw [oT] at e
          cases e
          exact .inr rfl
        · exact (z (ne b h2 h1)).elim
    · rw [z, q] at e
      cases e
    · rw [z, nT] at e
      cases e
end
theorem walk_ofGT {l : PySem.W.OpenLaw} {n k : Nat} {q : Program} {loose : List Str} {XP : (Str → Option Value) → Heap → Prop} {YP : World → Heap → Prop} {d : DefRec} {x : Str} (hn : l.most = some n) (hn2 : n ≤ sizeLine) (hdf : d.params.defaults = []) (room : Room k callerA)
    (F : ∀ (w : World) (mg : Str → Option Value) (fa : Addr) (h : Heap), YP w h → h.Ns mainGlobals mg → mg d.name = some (.ref fa) →
      ∃ (K : PySem.W.Frag) (fd : FuncData) (sp : Sp) (c T : Addr), K.In h ∧ PySem.W.codeHdIn K c T = true ∧ h.get? T = some { cls := .none, data := .fields #[] } ∧ K.lookup T = none ∧ (∀ (s : Shared) (u : Value), BindsTo s fd ⟨[u], []⟩ [(x, u)]) ∧
        (∀ (H : Hp) (a : Addr) (ns : List Int), ns.length ≤ n → H T = some (.tbl #[]) → SqL K H a (ns.map V.int) → sp [.ref a] H (fun v _ => v = .bl true) fun _ _ _ => False) ∧ ∀ base : Heap, K.In base → base.Ns mainGlobals mg → LamX.TabB base mg c T → GFn l.prog w K mg base k fa fd [x] sp) :
    PySem.W.WalkO q loose XP YP l.row.toRowW d [] (fun f vs => PySem.call f vs) := by
  refine Att.attach_call hn hdf fun w s0 s1 mg mb fa o pm cd doc a us ns G Y ho hd hcd hmg hobj hints hlen ng => ?_
  obtain ⟨K, fd, sp, c, T, kin, hT, oT, nT, bnd, hsp, hF⟩ := F w mg fa _ Y G.T.g hmg
  exact law_ofT kin G.T.g G.T.b G.T.builtins G.T.nolimit ng hT oT nT G.T.bmain hobj hints (Nat.le_trans hlen hn2) room hF bnd fun H aT sq => hsp H a ns hlen aT sq
end Pb

/-! PbRules -/
set_option Elab.async false
set_option linter.all false
set_option maxRecDepth 100000
set_option maxHeartbeats 4000000
namespace Pb
open PySem PySem.Spec PyProof.Rows L2 PySem.W
/-! ### a, *b = a tuple or a list -/
section
variable {prog : Program} {w : World} {A : Around} {E : Value → Shared → Prop} {s : Shared} {env : Env} {elts : List Expr} {k : Nat} {pos : Pos}
/-- the unpacking with the star behind i plain targets, by its four calls -/
theorem unpack_last {M : Model} {v : Value} {i : Nat} {Q : List Value → Shared → Prop}
    (h : wpAny M A (notIterableAtAll v) (fun b sa => b = false ∧ wpAny M A (pyIter v) (fun it sb => wpAny M A (draw it i) (fun fs sc => fs.length = i ∧ wpAny M A (collect it) (fun rs sd =>
      rs.length ≤ sizeLine ∧ Q (fs ++ [.ref sd.heap.objs.size]) { sd with heap := sd.heap.push { cls := .type "list", data := .seq rs.toArray } }) E sc) E sb) E sa) E s) :
    wpAny M A (unpackItems v (i + 1) (some i)) Q E s := by
  unfold unpackItems
  refine wpAny_bind (thn h fun b sa hb => ?_)
  obtain ⟨rfl, hb⟩ := hb
  simp only [Bool.false_eq_true, if_false]
  refine wpAny_bind (wpAny_holding (thn hb fun it sb hc => wpAny_bind (wpAny_holding (thn hc fun fs sc hd => ?_))))
  obtain ⟨hl, hd⟩ := hd
  rw [if_neg (by omega)]
  refine wpAny_bind (wpAny_holding (thn hd fun rs sd he => ?_))
  have e1 : i + 1 - 1 - i = 0 := by omega
  simp only [e1, Nat.not_lt_zero, if_false, Nat.sub_zero, List.take_length, List.drop_length]
  refine wpAny_bind (wpAny_newList (wpAny_pure ?_) he.1)
  simpa using he.2
/-- what stood ahead of an iterator's making and turns still stands -/
theorem still {h h1 h2 : Heap} {o : Obj} (s1 : Heap.SameBut h.objs.size (h.push o) h1) (s2 : ∀ b u, b ≠ h.objs.size → h1.get? b = some u → h2.get? b = some u) : ∀ b u, h.get? b = some u → h2.get? b = some u := fun b u e =>
  s2 b u (Nat.ne_of_lt (Heap.lt_size e)) (s1.extBut b u (Nat.ne_of_lt (Heap.lt_size e)) (Heap.get?_push_of_some _ e))
theorem star_lst {l : Addr} {items : Array Value} {i : Nat} {Q : List Value → Shared → Prop} (hl : s.heap.IsList l items) (hh : A.handled = none) (hi : i ≤ items.size) (hz : items.size ≤ 16384)
    (h : ∀ (h' : Heap) (tk : Nat), (∀ b o, s.heap.get? b = some o → h'.get? b = some o) → Q (items.toList.take i ++ [.ref h'.objs.size]) { s with heap := h'.push { cls := .type "list", data := .seq (items.toList.drop i).toArray }, toks := tk }) :
    wpAny (model prog w) A (unpackItems (.ref l) (i + 1) (some i)) Q E s := by
  have ne : l ≠ s.heap.objs.size := fun z => by obtain ⟨o, ho, _⟩ := hl; exact absurd (z ▸ Heap.lt_size ho) (Nat.lt_irrefl _)
  refine unpack_last ?_
  unfold notIterableAtAll
  refine wpAny_bind (wpAny_specialOf hl.typeIs slot_list_iter.lookup (wpAny_pure ⟨rfl, wpAny_pyIter_list hl ?_⟩))
  refine kun_draw ne i 0 _ _ ⟨_, Heap.get?_push_size _ rfl, rfl, rfl⟩ (hl.push _) (by omega) fun h1 t1 b1 => ⟨by simp only [List.drop_zero, List.length_take, Array.length_toList]; omega, ?_⟩
  rw [Nat.zero_add] at t1
  have l1 : h1.IsList l items := (hl.push _).extBut b1.extBut ne
  have z1 : s.heap.objs.size < h1.objs.size := by obtain ⟨o, ho, _⟩ := t1; exact Heap.lt_size ho
  have z2 : l < h1.objs.size := by obtain ⟨o, ho, _⟩ := l1; exact Heap.lt_size ho
  refine kun_collect (s := { s with heap := h1 }) (.inr (.inr (.inl rfl))) (Walks.list (A := A.in1) hh s.heap.objs.size l ne items) (fun _ _ st => st.1.typeIs) hi ⟨t1, l1⟩ z1 z2 (fun h2 tk k2 => ?_) (by rw [sizeLine_eq]; omega)
  refine ⟨by rw [List.length_drop, Array.length_toList, sizeLine_eq]; omega, ?_⟩
  rw [List.drop_zero]
  exact h h2 tk (still b1 k2)
theorem star_tup {l : Addr} {items : Array Value} {i : Nat} {Q : List Value → Shared → Prop} (hl : IsTup s.heap l items) (hh : A.handled = none) (hi : i ≤ items.size) (hz : items.size ≤ 16384)
    (h : ∀ (h' : Heap) (tk : Nat), (∀ b o, s.heap.get? b = some o → h'.get? b = some o) → Q (items.toList.take i ++ [.ref h'.objs.size]) { s with heap := h'.push { cls := .type "list", data := .seq (items.toList.drop i).toArray }, toks := tk }) :
    wpAny (model prog w) A (unpackItems (.ref l) (i + 1) (some i)) Q E s := by
  have ne : l ≠ s.heap.objs.size := fun z => by obtain ⟨o, ho, _⟩ := hl; exact absurd (z ▸ Heap.lt_size ho) (Nat.lt_irrefl _)
  refine unpack_last ?_
  unfold notIterableAtAll
  refine wpAny_bind (wpAny_specialOf hl.typeIs slot_tuple_iter.lookup (wpAny_pure ⟨rfl, iter_tuple hl ?_⟩))
  refine draw_tuple ne i 0 _ _ ⟨_, Heap.get?_push_size _ rfl, rfl, rfl⟩ (hl.push _) (by omega) fun h1 t1 b1 => ⟨by simp only [List.drop_zero, List.length_take, Array.length_toList]; omega, ?_⟩
  rw [Nat.zero_add] at t1
  have l1 : IsTup h1 l items := (hl.push _).extBut b1.extBut ne
  have z1 : s.heap.objs.size < h1.objs.size := by obtain ⟨o, ho, _⟩ := t1; exact Heap.lt_size ho
  have z2 : l < h1.objs.size := by obtain ⟨o, ho, _⟩ := l1; exact Heap.lt_size ho
  refine kun_collect (s := { s with heap := h1 }) (.inr (.inr (.inr rfl))) (Walks.tuple (A := A.in1) hh s.heap.objs.size l ne items) (fun _ _ st => st.1.typeIs) hi ⟨t1, l1⟩ z1 z2 (fun h2 tk k2 => ?_) (by rw [sizeLine_eq]; omega)
  refine ⟨by rw [List.length_drop, Array.length_toList, sizeLine_eq]; omega, ?_⟩
  rw [List.drop_zero]
  exact h h2 tk (still b1 k2)
end
/-- a, .., *b = a list or a tuple: i plain targets, then the star -/
def gStar (K : PySem.W.Frag) (i : Nat) (t : TGs) : TG := fun v σ H Q => ∃ a xs, v = .ref a ∧ (SqT K H a xs ∨ SqL K H a xs) ∧ i ≤ xs.length ∧ xs.length ≤ 16384 ∧ ∀ D, H D = none → t (xs.take i ++ [.ref D]) σ (upd H D (.lst (xs.drop i))) Q
section
variable {X : Cx}
theorem pgs_star {e : Expr} {es : List Expr} {p : Pos} {t : TG} {u : TGs} (h1 : PG X e t) (h2 : PGs X es u) : PGs X (.Starred e p :: es) (gCons t u) := by
  refine ⟨fun pins s σ H vs us Q I r h => ?_⟩
  obtain ⟨v, vr, e1, h⟩ := h
  subst e1
  cases r with
  | cons r rr =>
    have hs : (assignEach (.Starred e p :: es) X.env).map (·.2) = assign e X.env :: (assignEach es X.env).map (·.2) := rfl
    rw [hs]
    refine assignInOrder_cons (thn (h1.run pins s σ H _ _ _ I r h) fun _ s1 ⟨σ1, H1, I1, q1⟩ => ?_)
    exact h2.run pins s1 σ1 H1 _ _ Q I1 rr q1
theorem pg_star {es : List Expr} {k i : Nat} {pos : Pos} {t : TGs} (hc : X.calm = true) (h : PGs X es t)
    (hn : (assignEach es X.env).length = i + 1 := by rfl) (hst : (assignEach es X.env).findIdx? (·.1) = some i := by rfl) : PG X (.Tuple es k pos) (gStar X.K i t) := by
  refine ⟨fun pins s σ H v u Q I r hw => ?_⟩
  obtain ⟨a, xs, e1, hq, hl, hz, hw⟩ := hw
  subst e1
  cases r
  rw [assign_Tuple]
  refine wpAny_bind (wpAny_standAt ?_)
  unfold unpack
  rw [hn, hst]
  have last : ∀ (its : List Value) (h' : Heap) (tk : Nat), Vals xs its → (∀ b o, s.heap.get? b = some o → h'.get? b = some o) →
      wpAny (model X.prog X.w) X.A (assignInOrder ((assignEach es X.env).map (·.2)) (its.take i ++ [.ref h'.objs.size])) (fun _ s' => ∃ σ' H', L2.Inv X pins σ' H' s' ∧ Q σ' H') X.xe { s with heap := h'.push { cls := .type "list", data := .seq (its.drop i).toArray }, toks := tk } := by
    intro its h' tk rv hk
    have I1 : L2.Inv X pins σ H { s with heap := h', toks := tk } := I.kept hk
    have hf : H h'.objs.size = none := I1.hok.fresh (Nat.le_refl _)
    have I2 : L2.Inv X pins σ (upd H h'.objs.size (.lst (xs.drop i))) { s with heap := h'.push { cls := .type "list", data := .seq (its.drop i).toArray }, toks := tk } :=
      I1.laid (t' := tk) (fun b u e => Heap.get?_push_of_some _ e) (Nat.le_refl _) ⟨by rw [List.length_drop, sizeLine_eq]; omega, its.drop i, 0, rv.drop i, Heap.get?_push_size _ rfl⟩
    exact h.run pins _ σ _ _ _ Q I2 ((rv.take i).append (.cons (show L2.RelV (.ref h'.objs.size) (.ref h'.objs.size) from rfl) .nil)) (hw _ hf)
  rcases hq with hq | hq
  · obtain ⟨its, rv, ht, hsz⟩ := I.tuple hq
    have hlen := rv.length
    refine wpAny_bind (wpAny_holding (star_tup ht (I.ok.hd hc) (by rw [List.size_toArray]; omega) (by rw [List.size_toArray]; omega) fun h' tk hk => ?_))
    have q := last its h' tk rv hk
    simpa using q
  · obtain ⟨its, rv, ht, hsz⟩ := I.list hq
    have hlen := rv.length
    refine wpAny_bind (wpAny_holding (star_lst ht.isList (I.ok.hd hc) (by rw [List.size_toArray]; omega) (by rw [List.size_toArray]; omega) fun h' tk hk => ?_))
    have q := last its h' tk rv hk
    simpa using q
theorem pg_starK {K : PySem.W.Frag} {es : List Expr} {k i : Nat} {pos : Pos} {t : TGs} (hc : X.calm = true) (h : PGs X es t)
    (hn : (assignEach es X.env).length = i + 1 := by rfl) (hst : (assignEach es X.env).findIdx? (·.1) = some i := by rfl) (hK : X.K = K := by rfl) : PG X (.Tuple es k pos) (gStar K i t) := by
  subst hK; exact pg_star hc h hn hst
end
end Pb

/-! PbSet -/
set_option Elab.async false
set_option linter.all false
set_option maxRecDepth 100000
set_option maxHeartbeats 4000000
namespace Pb
open PySem PySem.Spec PyProof.Rows L2 PpSet
/-! ### a set comprehension without tests, whatever its set holds
C D z: what is known of the set at D; Z: of the new one; R H z y z': the value y, added to such a set, makes it z' -/
structure Bag (X : Cx) {ζ : Type} (C : Addr → ζ → HO) (Z : ζ) (R : Hp → ζ → V → ζ → Prop) : Prop where
  new : ∀ (H : Hp) (h : Heap), ObjOk X.prog X.w H (h.push { cls := .type "set", dict := none, data := .set #[] 0 (.fresh 0 0 (!X.w.params.followText "set-order")) }) h.objs.size (C h.objs.size Z)
  add : ∀ (Y : Cx) (pins : List (Addr × Obj)) (σ : L2.St) (H : Hp) (s : Shared) (D : Addr) (z z' : ζ) (y : V) (u : Value) (Q : Value → Shared → Prop) (E : Value → Shared → Prop), Y.prog = X.prog → Y.w = X.w → Y.K = X.K → Y.A = X.A →
    L2.Inv Y pins σ H s → H D = some (C D z) → RelV y u → R H z y z' → (∀ s', L2.Inv Y pins σ (upd H D (C D z')) s' → Q .none s') → wpAny (model X.prog X.w) X.A (call (.builtin "set.add") [.ref D, u]) Q E s
/-- one turn's wish -/
def ScTurn {ζ : Type} (C : Addr → ζ → HO) (R : Hp → ζ → V → ζ → Prop) (D : Addr) (g : TG) (te : TE) (vs : List Nat) (σ : L2.St) (J : It) (i : Nat) (H : Hp) (Nx : Hp → Prop) : Prop :=
  ∀ x H', J.yld i H x H' → g x (wipe σ vs) H' fun σ2 H2 => wipe σ2 vs = wipe σ vs ∧ te σ2 H2 fun y H4 => ∃ z z', H4 D = some (C D z) ∧ R H4 z y z' ∧ Nx (upd H4 D (C D z'))
def ScGoal {ζ : Type} (C : Addr → ζ → HO) (Z : ζ) (R : Hp → ζ → V → ζ → Prop) (g : TG) (te : TE) (vs : List Nat) (σ : L2.St) (J : It) (H1 : Hp) (D : Addr) (Qd : Hp → Prop) : Prop :=
  ∃ W : Nat → Nat → Hp → Prop, (∃ m, W 0 m (upd H1 D (C D Z))) ∧ ∀ i m H, W i m H →
    (J.stop i H ∧ Qd H) ∨ (J.go i H ∧ ∃ Nx : Hp → Prop, (∀ H', Nx H' → ∃ m', m' < m ∧ W (i + 1) m' H') ∧ ScTurn C R D g te vs σ J i H Nx)
def tScB {ζ : Type} (C : Addr → ζ → HO) (Z : ζ) (R : Hp → ζ → V → ζ → Prop) (wi : TI) (g : TG) (te : TE) (vs : List Nat) : TE := fun σ H Q => wi σ H fun J H1 => ∀ D, H1 D = none → ScGoal C Z R g te vs σ J H1 D fun H' => Q (.ref D) H'
section
variable {X : Cx} {ζ : Type} {C : Addr → ζ → HO} {Z : ζ} {R : Hp → ζ → V → ζ → Prop}
/-- the block's loop: from the state at a turn's head to the block's end -/
theorem sc_loop {Y : Cx} {elt tg iter : Expr} {scope : Scope} {pos : Pos} {g : TG} {te : TE} {vs : List Nat} {σ : L2.St} {J : It} {D it : Addr} {fp : List Addr} {tn : Nat → Heap → Prop} {W : Nat → Nat → Hp → Prop} {Qd : Hp → Prop} {Rs : Result → Shared → Prop}
    (B : Bag X C Z R) (hp : Y.prog = X.prog) (hw : Y.w = X.w) (hk : Y.K = X.K) (hA : Y.A = X.A) (hc : Y.calm = true) (hexc : Y.xe = fun _ _ => False) (hpn : Y.pn = []) (hex : ∀ b ∈ fp, b ∈ Y.ex)
    (T : Turn X.prog X.w X.K tg J fp it tn) (pg : PG Y tg g) (pe : PE Y elt te)
    (turns : ∀ i m H, W i m H → (J.stop i H ∧ Qd H) ∨ (J.go i H ∧ ∃ Nx : Hp → Prop, (∀ H', Nx H' → ∃ m', m' < m ∧ W (i + 1) m' H') ∧ ScTurn C R D g te vs σ J i H Nx))
    (done : ∀ s H, L2.Inv Y [] (wipe σ vs) H s → Qd H → Rs (.ok .next) s) {m0 : Nat} {H0 : Hp} {s0 : Shared} (I0 : L2.Inv Y [] (wipe σ vs) H0 s0) (t0 : tn 0 s0.heap) (n0 : ∀ b ∈ fp, H0 b = none) (w0 : W 0 m0 H0) :
    codeAny (model X.prog X.w) X.A (.compLoop (.SetComp elt [⟨tg, iter, [], 0⟩] scope pos) 0 (.ref it) (.ref D) Y.env) Rs s0 := by
  have free : ∀ {σ' : L2.St} {H' : Hp} {s' : Shared}, L2.Inv Y [] σ' H' s' → (∀ b ∈ fp, H' b = none) → ∀ b ∈ fp, FpOk Y [] H' b := fun {σ' H' s'} I' hn b hb =>
    ⟨hn b hb, (I'.ok.exf b (hex b hb)).1, I'.ok.exfs b (hex b hb), .inl (hex b hb), fun x c e => (I'.ok.exf b (hex b hb)).2 x c e, fun p hp' => by rw [hpn] at hp'; cases hp'⟩
  refine compLoopS_any (fun n s' => ∃ i H', L2.Inv Y [] (wipe σ vs) H' s' ∧ tn i s'.heap ∧ (∀ b ∈ fp, H' b = none) ∧ W i n H') ?_ m0 ⟨0, H0, I0, t0, n0, w0⟩
  rintro n s1 ⟨i, H1, I1, t1, n1, w1⟩
  rcases turns i n H1 w1 with ⟨st, q⟩ | ⟨go, Nx, hN, turn⟩
  · have td := T.done Y hp hw hk hc i [] s1 _ H1 (fun _ _ => False) I1 (free I1 n1) t1 st
    rw [hA] at td
    refine thnF td fun r s2 hr => ?_
    obtain ⟨rfl, I2⟩ := hr
    exact done s2 H1 I2 q
  · have ti := T.item Y hp hw hk hc i [] s1 _ H1 (fun _ _ => False) I1 (free I1 n1) t1 go
    rw [hA] at ti
    refine thnF ti fun r s2 hr => ?_
    obtain ⟨u, rfl, h2⟩ := hr
    refine thnF h2 fun _ s3 h3 => ?_
    obtain ⟨x, H3, I3, r3, y3, t3, n3⟩ := h3
    have J3 := I3.pinned (free I3 n3) (T.obj _ _ t3)
    have a1 := pg.run _ s3 _ H3 x u _ J3 r3 (turn x H3 y3)
    rw [hp, hw, hA, hexc] at a1
    refine thnF a1 fun _ s4 h4 => ?_
    obtain ⟨σ4, H4, I4, e4, q4⟩ := h4
    refine wpAny_tests_nil ?_
    rw [if_pos rfl]
    have a2 := pe.run _ s4 σ4 H4 _ I4 q4
    rw [hp, hw, hA, hexc] at a2
    refine thnF a2 fun z s5 h5 => ?_
    obtain ⟨yv, H5, I5, r5, z1, z2, hD, hR, nx⟩ := h5
    refine B.add Y _ _ _ _ D z1 z2 yv z _ _ hp hw hk hA I5 hD r5 hR fun s6 I6 => ?_
    obtain ⟨m', hm, w'⟩ := hN _ nx
    have stay : ∀ b ∈ fp, ∀ o, s3.heap.get? b = some o → s6.heap.get? b = some o ∧ upd H5 D (C D z2) b = none := fun b hb o e => by
      have q := I6.pin (b, o) (List.mem_append_right _ (List.mem_append_right _ (mem_pinsAt hb e)))
      exact ⟨q.1, q.2.1⟩
    have wl : (wipe σ vs).length = σ4.length := by rw [← e4, wipe_length]
    refine ⟨m', hm, i + 1, _, (I6.unpinned (pins := [])).weak wl (fun j v e => ?_), T.keep _ _ _ t3 fun b hb o e => (stay b hb o e).1, fun b hb => ?_, w'⟩
    · rw [← e4] at e
      exact (wipe_some e).1
    · obtain ⟨o, e, _⟩ := T.obj _ _ t3 b hb
      exact (stay b hb o e).2
theorem pe_scB {elt tg iter : Expr} {scope : Scope} {own : List (PySem.Str × Nat)} {pos : Pos} {wi : TI} {g : TG} {te : TE} (B : Bag X C Z R) (hc : X.calm = true) (hN : X.N.Nodup) (hi : PI X tg iter wi) (ok : BlkOk X.N X.env.scope scope own)
    (hg : ∀ (s : Shared) (H : Hp) (c : Addr) (cl : List (PySem.Str × Addr)) (fp : List Addr), PG (X.blk s H scope (compEnvC scope cl c X.env) fp) tg g)
    (he : ∀ (s : Shared) (H : Hp) (c : Addr) (cl : List (PySem.Str × Addr)) (fp : List Addr), PE (X.blk s H scope (compEnvC scope cl c X.env) fp) elt te) (hs : ∀ x, foldedSetIterable iter X.env x = pure x := by intro _; rfl) :
    PE X (.SetComp elt [⟨tg, iter, [], 0⟩] scope pos) (tScB C Z R wi g te (own.map (·.2))) := by
  refine ⟨fun pins s σ H Q I h => ?_⟩
  rw [eval_SetComp]
  have cells : ∀ y ∈ scope.names, y.2 = .free → ∃ c, X.env.cells.lookup y.1 = some c := fun y hy e => (ok.free y hy e).elim (fun k => I.ok.has _ (.inl k)) fun k => I.ok.has _ (.inr k)
  refine wpAny_comprehension_free (use := none) rfl hs (closure_ok cells) ok.kind (fun y hy e => by rw [ok.uniq y hy, e]) (thn (hi.run pins s σ H _ I h) fun xv s1 h1 => thn h1 fun iv s2 h2 => ?_)
  obtain ⟨it, fp, tn, J, H2, rfl, I2, T, t2, f2, q⟩ := h2
  refine newSet_ok (newEnv_comp ?_)
  have hDn : H2 s2.heap.objs.size = none := I2.hok.fresh (Nat.le_refl _)
  obtain ⟨W, ⟨m0, w0⟩, turns⟩ := q _ hDn
  generalize hO : ({ cls := .type "set", dict := none, data := .set #[] 0 (.fresh 0 0 (!X.w.params.followText "set-order")) } : Obj) = O
  have I3 : L2.Inv X pins σ (upd H2 s2.heap.objs.size (C s2.heap.objs.size Z)) { s2 with heap := s2.heap.push O } :=
    I2.laid (t' := s2.toks) (fun b o e => Heap.get?_push_of_some _ e) (Nat.le_refl _) (by rw [← hO]; exact B.new _ _)
  have low : ∀ b ∈ fp, b < s2.heap.objs.size := fun b hb => by
    obtain ⟨o, e, _⟩ := T.obj _ _ t2 b hb
    exact Heap.lt_size e
  have f3 : ∀ b ∈ fp, FpOk X pins (upd H2 s2.heap.objs.size (C s2.heap.objs.size Z)) b ∧ b < (s2.heap.push O).objs.size := fun b hb =>
    ⟨⟨(upd_ne (Nat.ne_of_lt (low b hb))).trans (f2 b hb).1, (f2 b hb).2⟩, by rw [Heap.size_push]; exact Nat.lt_succ_of_lt (low b hb)⟩
  have I4 := block_start I3 ok hN f3
  have kp : ∀ b o, s2.heap.get? b = some o → (pushCells ((s2.heap.push O).push { cls := .type "dict", data := .dict #[] }) scope.names).get? b = some o := fun b o e =>
    pushCells_keeps _ _ _ _ (Heap.get?_push_of_some _ (Heap.get?_push_of_some _ e))
  have t4 := T.keep _ _ _ t2 fun b _ o e => kp b o e
  refine codeAny_compStart_set ?_ (T.self X.A 0 _ _ _ t4 ?_)
  all_goals
    refine sc_loop (Y := X.blk _ _ scope _ fp) B rfl rfl rfl rfl hc rfl rfl (fun b hb => hb) T (hg _ _ _ _ _) (he _ _ _ _ _) turns (fun s6 H6 I6 qd => ?_) I4 t4 (fun b hb => (f3 b hb).1.1) w0
    obtain ⟨m, hn, _⟩ := I6.loc
    have nC : H6 (s2.heap.push O).objs.size = none := I6.free
    have I7 : L2.Inv X pins σ H6 s6 := I3.call' (ch := fp) I6.os I6.base I6.hok I6.bare fun b hb => ⟨(f3 b hb).1.2.2.2.1, (f3 b hb).1.2.1, (f3 b hb).1.2.2.2.2.1, (f3 b hb).1.2.2.2.2.2⟩
    obtain ⟨k0, k1, k2, k3, k4, k5⟩ := I3.fpOk (Nat.le_refl _) nC
    exact ⟨m, hn, fun h'' sb => ⟨.ref _, H6, I7.turned (t' := s6.toks) (fun b o hb e => (sb.2 b hb).trans e) k0 k1 k3 k4 k5, rfl, qd⟩⟩
end
/-! ### the set of keys, by the list of those that it holds -/
def kMem (l : List Key) (k : Key) : Bool := l.any fun j => decide (j = k)
def addKey (l : List Key) (k : Key) : List Key := if kMem l k = true then l else l ++ [k]
def KeySet (P : Program) (w : World) (a : Addr) (l : List Key) : HO := SetK P w a (kMem l) l.length
theorem kMem_iff {l : List Key} {k : Key} : kMem l k = true ↔ k ∈ l := by
  unfold kMem
  rw [List.any_eq_true]
  constructor
  · rintro ⟨j, hj, e⟩
    rw [← of_decide_eq_true e]; exact hj
  · intro h
    exact ⟨k, h, decide_eq_true rfl⟩
theorem keySet_add (l : List Key) (k : Key) : (fun j => kMem l j || decide (j = k)) = kMem (addKey l k) := by
  funext j
  rw [Bool.eq_iff_iff, Bool.or_eq_true, decide_eq_true_eq, kMem_iff, kMem_iff]
  unfold addKey
  by_cases h : kMem l k = true
  · rw [if_pos h]
    have h2 := kMem_iff.mp h
    constructor
    · rintro (q | q)
      · exact q
      · rw [q]; exact h2
    · exact .inl
  · rw [if_neg h, List.mem_append, List.mem_singleton]
theorem keySet_len (l : List Key) (k : Key) : (if kMem l k = true then l.length else l.length + 1) = (addKey l k).length := by
  unfold addKey
  by_cases h : kMem l k = true
  · rw [if_pos h, if_pos h]
  · rw [if_neg h, if_neg h, List.length_append, List.length_singleton]
def RKey : Hp → List Key → V → List Key → Prop := fun _ l y l' => ∃ k : Key, y = kV k ∧ l.length + 1 < scanBound ∧ l' = addKey l k
theorem bagKey {X : Cx} : Bag X (KeySet X.prog X.w) [] RKey where
  new := fun H h => setK_new ⟨_, #[], 0, _, Heap.get?_push_size _ rfl, ⟨rfl, rfl, rfl⟩, rfl, (fun e he => by simp at he), (fun k => by simp [kMem]), (by decide), (by rfl), rfl⟩
  add := fun Y pins σ H s D l l' y u Q E hp hw hk hA I hD r hR hq => by
    obtain ⟨k, rfl, room, rfl⟩ := hR
    have g : s.heap.SetOf (mixKind X.prog X.w) D (kMem l) l.length := by
      have q := (I.hok D _ hD).1
      exact q
    refine call_set_add (kV_is r) (key_scan r) g room fun h' sb new => ?_
    have ex : ∃ o, h'.get? D = some o := by
      have ⟨o, _, _, _, ho, _⟩ := new
      exact ⟨o, ho⟩
    rw [keySet_add, keySet_len] at new
    refine hq _ (I.write (e := D) (t' := s.toks + 1) (by rw [hD]; trivial) (.inl rfl) (fun b o hb e => (sb.2 b hb).trans e) ex ?_)
    rw [hp, hw]
    exact setK_new new
/-- len of such a set -/
def rLenK (P : Program) (w : World) : List V → Hp → VK → Prop := fun xs H Q => ∃ a l, xs = [.ref a] ∧ H a = some (KeySet P w a l) ∧ Q (.int (l.length : Nat)) H
theorem call_lenK {X : Cx} : CallR X (.builtin "len") (rLenK X.prog X.w) := by
  intro pins s σ H xs us Q I r h
  obtain ⟨a, l, rfl, ha, q⟩ := h
  cases r with
  | cons r0 rt =>
    cases rt
    cases r0
    obtain ⟨o, es, ep, t, ho, hx, hd, _, _, hb, hf, hn⟩ := (I.hok a _ ha).1
    refine call_len_set ho hx hd hf ?_ ?_
    · have h1 : es.size < scanBound := hb
      have h2 : scanBound ≤ 2 ^ 62 := by decide
      omega
    · rw [hn]
      exact ⟨.int (l.length : Nat), H, I.tok _, ⟨_, rfl⟩, q⟩
/-- over data: the keys in turn -/
theorem sc_keys {P : Program} {w : World} {K : PySem.W.Frag} {J : It} {xs : List V} {ds : List PyData} {G : Hp → Prop} (wk : Walk J xs.length G (YAt xs)) {g : TG} {te : TE} {vs : List Nat} {σ : L2.St} {H1 : Hp} {D : Addr} {Qd : Hp → Prop} {ms : List Addr}
    (hD : H1 D = none) (hn : ds.length < 4000) (ha : DpAll K (hide H1 ms) xs ds) (hG : ∀ H, Same H1 H → G H) (key : PyData → Key)
    (step : ∀ x d H (Q : VK), d ∈ ds → Same H1 H → Dp K (hide H ms) x d → (∀ H4, Same H H4 → Q (kV (key d)) H4) → g x (wipe σ vs) H fun σ2 H2 => wipe σ2 vs = wipe σ vs ∧ te σ2 H2 Q)
    (done : ∀ H', Same H1 H' → H' D = some (KeySet P w D ((ds.map key).foldl addKey [])) → Qd H') : ScGoal (KeySet P w) [] RKey g te vs σ J H1 D Qd := by
  have hl := DpAll.length ha
  refine ⟨fun i m H => m = xs.length - i ∧ i ≤ xs.length ∧ Same H1 H ∧ H D = some (KeySet P w D (((ds.take i).map key).foldl addKey [])), ⟨xs.length, by simp, Nat.zero_le _, same_new hD, upd_same⟩, ?_⟩
  rintro i m H ⟨rfl, hi, s1, hK⟩
  by_cases hlt : i < xs.length
  · refine .inr ⟨wk.goes i H hlt (hG H s1), fun H' => Same H1 H' ∧ H' D = some (KeySet P w D (((ds.take (i + 1)).map key).foldl addKey [])), fun H' q => ⟨xs.length - (i + 1), by omega, rfl, hlt, q⟩, fun x H' y => ?_⟩
    obtain ⟨e0, ex⟩ := wk.yields i H x H' hlt (hG H s1) y
    subst e0
    obtain ⟨d, ed, hd⟩ := DpAll.at ha ex
    refine step x d _ _ (List.mem_of_getElem? ed) s1 (Dp.mono (Same.hide s1 ms) hd) fun H4 s4 => ?_
    have hz : (((ds.take i).map key).foldl addKey []).length ≤ i := by
      have q : ∀ (l : List Key) (a : List Key), (l.foldl addKey a).length ≤ a.length + l.length := by
        intro l
        induction l with
        | nil => intro a; simp
        | cons k l ih =>
          intro a
          have q1 := ih (addKey a k)
          have q2 : (addKey a k).length ≤ a.length + 1 := by unfold addKey; split <;> simp
          rw [List.foldl_cons, List.length_cons]
          omega
      have q3 := q ((ds.take i).map key) []
      rw [List.length_map, List.length_take, List.length_nil] at q3
      omega
    refine ⟨_, _, s4 _ _ hK, ⟨key d, rfl, by show _ < 4096; omega, rfl⟩, fun b o e => ?_, ?_⟩
    · rw [upd_ne (ne_of_none e hD)]
      exact s4 _ _ (s1 _ _ e)
    · rw [upd_same, List.take_succ, ed, List.map_append, List.foldl_append]
      rfl
  · have e : i = xs.length := by omega
    subst e
    rw [hl, List.take_length] at hK
    exact .inl ⟨wk.stops H (hG H s1), done H s1 hK⟩
theorem a_sc {ζ : Type} {C : Addr → ζ → HO} {Z : ζ} {R : Hp → ζ → V → ζ → Prop} {wi : TI} {g : TG} {te : TE} {vs : List Nat} {σ : L2.St} {H : Hp} {Q : VK} (h : wi σ H fun J H1 => ∀ D, H1 D = none → ScGoal C Z R g te vs σ J H1 D fun H' => Q (.ref D) H') : tScB C Z R wi g te vs σ H Q := h
end Pb

/-! PbMore -/
set_option Elab.async false
set_option linter.all false
set_option maxRecDepth 100000
set_option maxHeartbeats 4000000
/-! Pb: more rules: list + list whatever they are, dicts made by comprehension, parallel assignment -/
namespace Pb
open PySem PySem.Spec PyProof.Rows L2
/-! ### list + list -/
def rCatS (K : PySem.W.Frag) : R2 := fun x y H Q => ∃ l b xs zs, x = .ref l ∧ y = .ref b ∧ SqL K H l xs ∧ SqL K H b zs ∧ xs.length + zs.length ≤ sizeLine ∧ ∀ p, H p = none → Q (.ref p) (upd H p (.lst (xs ++ zs)))
section
variable {X : Cx}
theorem meets_catS (l : Addr) (items : Array Value) (n : Nat) (sl : Array (Option Value)) (b : Addr) (items2 : Array Value) (n2 : Nat) (sl2 : Array (Option Value)) (hc0 : items.size + items2.size ≤ sizeLine) :
    Meets (Builtin.«list.__add__» ⟨[.ref l, .ref b], []⟩) (fun _ R s => s.heap.get? l = some { cls := .type "list", dict := none, data := .seq items n, slots := sl } ∧ s.heap.get? b = some { cls := .type "list", dict := none, data := .seq items2 n2, slots := sl2 } ∧ R (.ok (.ret (Value.ref s.heap.objs.size))) { s with heap := s.heap.push { cls := Value.type "list", data := Data.seq (items ++ items2) } }) :=
  .of_wp fun prog w A R s hh => by
    have g1 := AutoSeq1.sub_list_list
    have g2 := AutoSeq1.idx_int
    obtain ⟨ha, hb, hr⟩ := hh
    obtain ⟨hp, g, d, tk, os⟩ := s
    wp_walk using AutoSeq1.wpAny_loadPart' ha, AutoSeq1.wpAny_loadPart' hb
    exact ⟨_, rfl, hr⟩
theorem op_catS : OpR X (binaryOp .Add) (rCatS X.K) := by
  intro pins s σ H x y v u Q I rx ry h
  obtain ⟨l, b, xs, zs, rfl, rfl, hl, hb, hz, q⟩ := h
  cases rx
  cases ry
  obtain ⟨i1, r1, ⟨⟨c1, d1, t1, sl1⟩, n1, e1, rfl, rfl, rfl⟩, z1⟩ := I.list hl
  obtain ⟨i2, r2, ⟨⟨c2, d2, t2, sl2⟩, n2, e2, rfl, rfl, rfl⟩, z2⟩ := I.list hb
  have k1 := r1.length
  have k2 := r2.length
  refine concat_meets ⟨_, e1, rfl⟩ ⟨_, e2, rfl⟩ noFill_list_add seq_list_add F.slot_list_add F.entry_list_add (F.args_list_add_2 _ _) (meets_catS l _ n1 sl1 b _ n2 sl2 (by rw [List.size_toArray, List.size_toArray]; omega)) ⟨e1, e2, ?_⟩
  have ea : i1.toArray ++ i2.toArray = (i1 ++ i2).toArray := by simp
  rw [ea]
  exact ⟨.ref _, _, I.lnew (t' := s.toks) (r1.append r2) (by rw [List.length_append]; omega), rfl, q _ I.fresh⟩
end
section
variable {K : PySem.W.Frag} {H : Hp} {Q : VK} {x y : V}
theorem a_cat {ds es : List PyData} (h1 : Dp K H x (.list ds)) (h2 : Dp K H y (.list es)) (hz : ds.length + es.length ≤ sizeLine)
    (q : ∀ p xs, H p = none → DpAll K H xs (ds ++ es) → Q (.ref p) (upd H p (.lst xs))) : rCatS K x y H Q := by
  obtain ⟨a, xs, rfl, hs, ha⟩ := dp_list h1
  obtain ⟨b, ys, rfl, hs2, hb⟩ := dp_list h2
  have e1 := DpAll.length ha
  have e2 := DpAll.length hb
  exact ⟨a, b, xs, ys, rfl, rfl, hs, hs2, by omega, fun p hp => q p _ hp (DpAll.append ha hb)⟩
end
section
variable {K : PySem.W.Frag} {H : Hp} {Q : VK} {x y : V} {ms : List Addr}
theorem a_catH {ds es : List PyData} (h1 : Dp K (hide H ms) x (.list ds)) (h2 : Dp K (hide H ms) y (.list es)) (hz : ds.length + es.length ≤ sizeLine)
    (q : ∀ p xs, H p = none → DpAll K (hide H ms) xs (ds ++ es) → Q (.ref p) (upd H p (.lst xs))) : rCatS K x y H Q := by
  obtain ⟨a, xs, rfl, hs, ha⟩ := dp_list h1
  obtain ⟨b, ys, rfl, hs2, hb⟩ := dp_list h2
  have e1 := DpAll.length ha
  have e2 := DpAll.length hb
  exact ⟨a, b, xs, ys, rfl, rfl, sqL_same same_show hs, sqL_same same_show hs2, by omega, fun p hp => q p _ hp (DpAll.append ha hb)⟩
theorem a_ixTh {ds : List PyData} {i : Int} {d : PyData} (h : Dp K (hide H ms) x (.tuple ds)) (e : atI ds i = some d) (q : ∀ u, Dp K (hide H ms) u d → Q u H) : rIx K x (.int i) H Q := by
  obtain ⟨a, xs, rfl, hs, ha⟩ := dp_tuple h
  obtain ⟨j, _, e2, e3⟩ := atI_len (DpAll.length ha) e
  obtain ⟨u, e4, hu⟩ := DpAll.get ha e2
  exact .inr (.inl ⟨a, xs, i, u, rfl, rfl, sqT_same same_show hs, e3.trans e4, q u hu⟩)
theorem a_ixLh {ds : List PyData} {i : Int} {d : PyData} (h : Dp K (hide H ms) x (.list ds)) (e : atI ds i = some d) (q : ∀ u, Dp K (hide H ms) u d → Q u H) : rIx K x (.int i) H Q := by
  obtain ⟨a, xs, rfl, hs, ha⟩ := dp_list h
  obtain ⟨j, _, e2, e3⟩ := atI_len (DpAll.length ha) e
  obtain ⟨u, e4, hu⟩ := DpAll.get ha e2
  exact .inl ⟨a, xs, i, u, rfl, rfl, sqL_same same_show hs, e3.trans e4, q u hu⟩
end
/-! ### dict comprehensions -/
def DcGoal (g : TG) (tt : TT) (tk tv : TE) (vs : List Nat) (σ : L2.St) (J : It) (H1 : Hp) (D : Addr) (Qd : Hp → Prop) : Prop :=
  ∃ W : Nat → Nat → Hp → Prop, (∃ m, W 0 m (upd H1 D (.dK []))) ∧ ∀ i m H, W i m H →
    (J.stop i H ∧ Qd H) ∨ (J.go i H ∧ ∃ Nx : Hp → Prop, (∀ H', Nx H' → ∃ m', m' < m ∧ W (i + 1) m' H') ∧ ∀ x H', J.yld i H x H' → gM g x (wipe σ vs) H' fun σ2 H2 => wipe σ2 vs = wipe σ vs ∧ tMT tt σ2 H2 fun b H3 =>
      if b = true then tM tk σ2 H3 fun y H4 => tM tv σ2 H4 fun z H5 => ∃ kvs k, y = kV k ∧ H5 D = some (.dK kvs) ∧ kvs.length < sizeLine ∧ Nx (upd H5 D (.dK (putK kvs k z))) else Nx H3)
theorem a_dc {wi : TI} {g : TG} {tt : TT} {tk tv : TE} {vs : List Nat} {σ : L2.St} {H : Hp} {Q : VK} (h : wi σ H fun J H1 => ∀ D, H1 D = none → DcGoal g tt tk tv vs σ J H1 D fun H' => Q (.ref D) H') : tDc wi (gM g) (tMT tt) (tM tk) (tM tv) vs σ H Q := h
/-- what a dict holds, key by key -/
inductive KvD (K : PySem.W.Frag) (H : Hp) : List (Key × V) → List (Key × PyData) → Prop where
  | nil : KvD K H [] []
  | cons {k : Key} {v : V} {d : PyData} {vs : List (Key × V)} {ds : List (Key × PyData)} (h : Dp K H v d) (a : KvD K H vs ds) : KvD K H ((k, v) :: vs) ((k, d) :: ds)
section
variable {K : PySem.W.Frag} {H H' : Hp}
theorem KvD.mono (s : Same H H') : ∀ {vs : List (Key × V)} {ds : List (Key × PyData)}, KvD K H vs ds → KvD K H' vs ds
  | _, _, .nil => .nil
  | _, _, .cons h a => .cons (Dp.mono s h) (KvD.mono s a)
theorem KvD.append : ∀ {vs ws : List (Key × V)} {ds es : List (Key × PyData)}, KvD K H vs ds → KvD K H ws es → KvD K H (vs ++ ws) (ds ++ es)
  | _, _, _, _, .nil, b => b
  | _, _, _, _, .cons h a, b => .cons h (KvD.append a b)
theorem KvD.keys : ∀ {vs : List (Key × V)} {ds : List (Key × PyData)}, KvD K H vs ds → vs.map (·.1) = ds.map (·.1)
  | _, _, .nil => rfl
  | _, _, .cons _ a => congrArg _ (KvD.keys a)
theorem KvD.length {vs : List (Key × V)} {ds : List (Key × PyData)} (h : KvD K H vs ds) : vs.length = ds.length := by
  have e := congrArg List.length (KvD.keys h)
  rw [List.length_map, List.length_map] at e
  exact e
/-- the entry of a key -/
def look (ds : List (Key × PyData)) (k : Key) : Option PyData := (ds.find? fun q => decide (q.1 = k)).map (·.2)
theorem KvD.get : ∀ {vs : List (Key × V)} {ds : List (Key × PyData)} {k : Key} {d : PyData}, KvD K H vs ds → look ds k = some d → ∃ v, valV vs k = some v ∧ Dp K H v d
  | _, _, _, _, .nil, e => by cases e
  | _, _, k, d, .cons (k := k0) h a, e => by
    by_cases q : k0 = k
    · unfold look at e
      rw [List.find?_cons_of_pos (by exact decide_eq_true q)] at e
      cases e
      exact ⟨_, valV_pos q, h⟩
    · unfold look at e
      rw [List.find?_cons_of_neg (by show ¬ decide (k0 = k) = true; rw [decide_eq_false q]; exact Bool.false_ne_true)] at e
      obtain ⟨v, h1, h2⟩ := KvD.get a e
      exact ⟨v, (valV_neg q).trans h1, h2⟩
theorem KvD.off : ∀ {vs : List (Key × V)} {ds : List (Key × PyData)} {k : Key}, KvD K H vs ds → look ds k = none → valV vs k = none
  | _, _, _, .nil, e => rfl
  | _, _, k, .cons (k := k0) h a, e => by
    by_cases q : k0 = k
    · unfold look at e
      rw [List.find?_cons_of_pos (by exact decide_eq_true q)] at e
      cases e
    · unfold look at e
      rw [List.find?_cons_of_neg (by show ¬ decide (k0 = k) = true; rw [decide_eq_false q]; exact Bool.false_ne_true)] at e
      exact (valV_neg q).trans (KvD.off a e)
theorem look_not {ds : List (Key × PyData)} {k : Key} (h : k ∉ ds.map (·.1)) : look ds k = none := by
  unfold look
  rw [List.find?_eq_none.mpr fun x hx => by
    rw [decide_eq_true_eq]
    exact fun z => h (List.mem_map.mpr ⟨x, hx, z⟩)]
  rfl
theorem KvD.put {vs : List (Key × V)} {ds : List (Key × PyData)} {k : Key} {v : V} {d : PyData} (h : KvD K H vs ds) (hv : Dp K H v d) (hn : k ∉ ds.map (·.1)) : KvD K H (putK vs k v) (ds ++ [(k, d)]) := by
  rw [putK_new v (KvD.off h (look_not hn))]
  exact KvD.append h (.cons hv .nil)
end
/-- a dict comprehension whose turns change nothing, over data, the keys unlike: kf the key, vf the value -/
theorem dc_data {K : PySem.W.Frag} {J : It} {xs : List V} {ds : List PyData} {G : Hp → Prop} (w : Walk J xs.length G (YAt xs)) {g : TG} {tt : TT} {tk tv : TE} {vs : List Nat} {σ : L2.St} {H1 : Hp} {D : Addr} {Qd : Hp → Prop} {ms : List Addr}
    (hD : H1 D = none) (hn : ds.length < sizeLine) (ha : DpAll K (hide H1 ms) xs ds) (hG : ∀ H, Same H1 H → G H) (kf : PyData → Key) (vf : PyData → PyData) (nd : (ds.map kf).Nodup)
    (step : ∀ x d H, d ∈ ds → Same H1 H → H D ≠ none → Dp K (hide H (D :: ms)) x d → g x (wipe σ vs) H fun σ2 H2 => wipe σ2 vs = wipe σ vs ∧ tt σ2 H2 fun b H3 => b = true ∧ tk σ2 H3 fun y H4 => y = kV (kf d) ∧ tv σ2 H4 fun z H5 => Same H H5 ∧ Dp K (hide H5 (D :: ms)) z (vf d))
    (done : ∀ H' kvs, Same H1 H' → H' D = some (.dK kvs) → KvD K (hide H' (D :: ms)) kvs (ds.map fun d => (kf d, vf d)) → Qd H') :
    DcGoal g tt tk tv vs σ J H1 D Qd := by
  have hl := DpAll.length ha
  refine ⟨fun i m H => m = xs.length - i ∧ i ≤ xs.length ∧ Same H1 H ∧ ∃ kvs, H D = some (.dK kvs) ∧ KvD K (hide H (D :: ms)) kvs ((ds.take i).map fun d => (kf d, vf d)), ⟨xs.length, by simp, Nat.zero_le _, same_new hD, [], upd_same, .nil⟩, ?_⟩
  rintro i m H ⟨rfl, hi, s1, kvs, hK, hkv⟩
  by_cases hlt : i < xs.length
  · refine .inr ⟨w.goes i H hlt (hG H s1), fun H' => Same H1 H' ∧ ∃ kvs, H' D = some (.dK kvs) ∧ KvD K (hide H' (D :: ms)) kvs ((ds.take (i + 1)).map fun d => (kf d, vf d)), fun H' q => ⟨xs.length - (i + 1), by omega, rfl, hlt, q⟩, fun x H' y => ?_⟩
    obtain ⟨e0, ex⟩ := w.yields i H x H' hlt (hG H s1) y
    subst e0
    obtain ⟨d, ed, hd⟩ := DpAll.at ha ex
    have hd2 : Dp K (hide H' (D :: ms)) x d := Dp.mono (fun b o e => by
      obtain ⟨q1, q2⟩ := hide_of e
      rw [hide_at (fun z => (List.mem_cons.mp z).elim (fun k => by rw [k, hD] at q1; cases q1) q2)]
      exact s1 _ _ q1) hd
    refine ⟨_, step x d _ (List.mem_of_getElem? ed) s1 (by rw [hK]; exact fun z => nomatch z) hd2, fun σ2 H2 q => ⟨q.1, _, q.2, fun b H3 q => ?_⟩⟩
    obtain ⟨rfl, q⟩ := q
    refine iteT ⟨_, q, fun y H4 q => ⟨_, q.2, fun z H5 r => ?_⟩⟩
    obtain ⟨ey, _⟩ := q
    obtain ⟨s5, hz⟩ := r
    have h5 : H5 D = some (.dK kvs) := s5 _ _ hK
    have hlk := KvD.length hkv
    rw [List.length_map, List.length_take] at hlk
    refine ⟨kvs, kf d, ey, h5, by omega, (fun b o z => by rw [upd_ne (ne_of_none z hD)]; exact s5 _ _ (s1 _ _ z)), _, upd_same, ?_⟩
    rw [hide_upd (List.mem_cons_self ..), List.take_succ, ed, List.map_append]
    refine KvD.put (KvD.mono (Same.hide s5 _) hkv) hz ?_
    rw [List.map_map]
    intro hm
    have e1 : ds.take (i + 1) = ds.take i ++ [d] := by rw [List.take_succ, ed]; rfl
    have nd2 : ((ds.take (i + 1)).map kf).Nodup := nd.sublist ((List.take_sublist _ _).map kf)
    rw [e1, List.map_append] at nd2
    exact (List.nodup_append.mp nd2).2.2 _ hm _ (List.mem_singleton.mpr rfl) rfl
  · have e : i = xs.length := by omega
    subst e
    refine .inl ⟨w.stops H (hG H s1), ?_⟩
    rw [hl, List.take_length] at hkv
    exact done H kvs s1 hK hkv
/-! ### a list comprehension of two loops -/
def iM (wi : TI) : TI := fun σ H Q => ∃ Q' : It → Hp → Prop, wi σ H Q' ∧ ∀ J H', Q' J H' → Q J H'
theorem pi_m {X : Cx} {tg iter : Expr} {wi : TI} (h : PI X tg iter wi) : PI X tg iter (iM wi) := ⟨fun pins s σ H R I hw => by
  obtain ⟨Q', h1, m⟩ := hw
  refine thn (h.run pins s σ H Q' I h1) fun v s1 h2 => thn h2 fun u s2 h3 => ?_
  obtain ⟨it, fp, tn, J, H2, e, I2, T, t2, f2, q⟩ := h3
  exact ⟨it, fp, tn, J, H2, e, I2, T, t2, f2, m _ _ q⟩⟩
def Lc2Goal (g : TG) (tt : TT) (wi1 : TI) (g1 : TG) (tt1 : TT) (te : TE) (vs vs1 : List Nat) (σ : L2.St) (J : It) (H1 : Hp) (D : Addr) (Qd : Hp → Prop) : Prop :=
  ∃ W : Nat → Nat → Hp → Prop, (∃ m, W 0 m (upd H1 D (.lst []))) ∧ ∀ i m H, W i m H →
  (J.stop i H ∧ Qd H) ∨ (J.go i H ∧ ∃ Nx : Hp → Prop, (∀ H', Nx H' → ∃ m', m' < m ∧ W (i + 1) m' H') ∧ ∀ x H', J.yld i H x H' → gM g x (wipe σ vs) H' fun σ2 H2 => wipe σ2 vs = wipe σ vs ∧ tMT tt σ2 H2 fun b H3 =>
    if b = true then iM wi1 σ2 H3 fun J1 H4 => ∃ W1 : Nat → Nat → Hp → Prop, (∃ m, W1 0 m H4) ∧ ∀ j k H, W1 j k H →
      (J1.stop j H ∧ Nx H) ∨ (J1.go j H ∧ ∃ Nx1 : Hp → Prop, (∀ H', Nx1 H' → ∃ k', k' < k ∧ W1 (j + 1) k' H') ∧ ∀ x H', J1.yld j H x H' → gM g1 x (wipe σ2 vs1) H' fun σ3 H5 => wipe σ3 vs1 = wipe σ2 vs1 ∧ tMT tt1 σ3 H5 fun b H6 =>
        if b = true then tM te σ3 H6 fun y H7 => ∃ acc, H7 D = some (.lst acc) ∧ acc.length < sizeLine ∧ Nx1 (upd H7 D (.lst (acc ++ [y]))) else Nx1 H6)
    else Nx H3)
theorem a_lc2 {wi wi1 : TI} {g g1 : TG} {tt tt1 : TT} {te : TE} {vs vs1 : List Nat} {σ : L2.St} {H : Hp} {Q : VK} (h : wi σ H fun J H1 => ∀ D, H1 D = none → Lc2Goal g tt wi1 g1 tt1 te vs vs1 σ J H1 D fun H' => Q (.ref D) H') : tLc2 wi (gM g) (tMT tt) (iM wi1) (gM g1) (tMT tt1) (tM te) vs vs1 σ H Q := h
/-- over data, nothing left out: sf the inner loop's source, ef what is told -/
theorem lc2_data {K : PySem.W.Frag} {J : It} {xs : List V} {ds : List PyData} {G : Hp → Prop} (w : Walk J xs.length G (YAt xs)) {g g1 : TG} {tt tt1 : TT} {wi1 : TI} {te : TE} {vs vs1 : List Nat} {σ : L2.St} {H1 : Hp} {D : Addr} {Qd : Hp → Prop} {ms : List Addr}
    (hD : H1 D = none) (N : Nat) (ha : DpAll K (hide H1 ms) xs ds) (hG : ∀ H, Same H1 H → G H) (sf : PyData → List PyData) (ef : PyData → PyData → PyData) (hN : ∀ d ∈ ds, (sf d).length ≤ N) (hn : ds.length * N < sizeLine)
    (step : ∀ x d H, d ∈ ds → Same H1 H → H D ≠ none → Dp K (hide H (D :: ms)) x d → g x (wipe σ vs) H fun σ2 H2 => wipe σ2 vs = wipe σ vs ∧ tt σ2 H2 fun b H3 => b = true ∧ wi1 σ2 H3 fun J1 H4 => Same H H4 ∧ ∃ (xs1 : List V) (G1 : Hp → Prop),
      Walk J1 xs1.length G1 (YAt xs1) ∧ DpAll K (hide H4 (D :: ms)) xs1 (sf d) ∧ (∀ H5, Same (hide H4 [D]) (hide H5 [D]) → G1 H5) ∧
      ∀ y e H5, e ∈ sf d → Same (hide H4 [D]) (hide H5 [D]) → H5 D ≠ none → Dp K (hide H5 (D :: ms)) y e → g1 y (wipe σ2 vs1) H5 fun σ3 H6 => wipe σ3 vs1 = wipe σ2 vs1 ∧ tt1 σ3 H6 fun b H7 => b = true ∧ te σ3 H7 fun z H8 => Same H5 H8 ∧ Dp K (hide H8 (D :: ms)) z (ef d e))
    (done : ∀ H' ys, Same H1 H' → H' D = some (.lst ys) → DpAll K (hide H' (D :: ms)) ys (ds.map fun d => (sf d).map (ef d)).flatten → Qd H') :
    Lc2Goal g tt wi1 g1 tt1 te vs vs1 σ J H1 D Qd := by
  have hl := DpAll.length ha
  have hDm : ∀ {H : Hp} {b : Addr} {o : HO}, hide H (D :: ms) b = some o → hide H [D] b = some o := fun {H b o} e => by
    obtain ⟨q1, q2⟩ := hide_of e
    rw [hide_at fun z => q2 (List.mem_cons.mpr (.inl (List.mem_singleton.mp z)))]
    exact q1
  have wide : ∀ {A B : Hp}, Same (hide A [D]) (hide B [D]) → Same (hide A (D :: ms)) (hide B (D :: ms)) := fun {A B} s b o e => by
    obtain ⟨q1, q2⟩ := hide_of e
    obtain ⟨q3, q4⟩ := hide_of (s b o (hDm e))
    rw [hide_at q2]
    exact q3
  have cut : ∀ {A B : Hp}, Same H1 A → Same (hide A [D]) (hide B [D]) → Same H1 B := fun {A B} s1 s b o e => by
    have hb : b ∉ [D] := fun z => by rw [List.mem_singleton.mp z, hD] at e; cases e
    have q := s b o (by rw [hide_at hb]; exact s1 b o e)
    rw [hide_at hb] at q
    exact q
  refine ⟨fun i m H => m = xs.length - i ∧ i ≤ xs.length ∧ Same H1 H ∧ ∃ acc, H D = some (.lst acc) ∧ acc.length ≤ i * N ∧ DpAll K (hide H (D :: ms)) acc ((ds.take i).map fun d => (sf d).map (ef d)).flatten, ⟨xs.length, by simp, Nat.zero_le _, same_new hD, [], upd_same, Nat.zero_le _, .nil⟩, ?_⟩
  rintro i m H ⟨rfl, hi, s1, acc, hK, hz, hkv⟩
  by_cases hlt : i < xs.length
  · refine .inr ⟨w.goes i H hlt (hG H s1), fun H => Same H1 H ∧ ∃ acc, H D = some (.lst acc) ∧ acc.length ≤ (i + 1) * N ∧ DpAll K (hide H (D :: ms)) acc ((ds.take (i + 1)).map fun d => (sf d).map (ef d)).flatten, fun H' q => ⟨xs.length - (i + 1), by omega, rfl, hlt, q⟩, fun x H' y => ?_⟩
    obtain ⟨e0, ex⟩ := w.yields i H x H' hlt (hG H s1) y
    subst e0
    obtain ⟨d, ed, hd⟩ := DpAll.at ha ex
    have hd2 : Dp K (hide H' (D :: ms)) x d := Dp.mono (fun b o e => by
      obtain ⟨q1, q2⟩ := hide_of e
      rw [hide_at (fun z => (List.mem_cons.mp z).elim (fun k => by rw [k, hD] at q1; cases q1) q2)]
      exact s1 _ _ q1) hd
    have hdm := List.mem_of_getElem? ed
    have hNd := hN d hdm
    have hil : i < ds.length := by omega
    have hbig : (i + 1) * N ≤ ds.length * N := Nat.mul_le_mul_right N hil
    have hsucc : (i + 1) * N = i * N + N := Nat.succ_mul i N
    have etake : ((ds.take (i + 1)).map fun d => (sf d).map (ef d)).flatten = ((ds.take i).map fun d => (sf d).map (ef d)).flatten ++ (sf d).map (ef d) := by
      rw [List.take_succ, ed, List.map_append, List.flatten_append]
      simp
    refine ⟨_, step x d _ hdm s1 (by rw [hK]; exact fun z => nomatch z) hd2, fun σ2 H2 q => ⟨q.1, _, q.2, fun b H3 q => ?_⟩⟩
    obtain ⟨rfl, q⟩ := q
    refine iteT ⟨_, q, fun J1 H4 q => ?_⟩
    obtain ⟨s4, xs1, G1, w1, ha1, hG1, st⟩ := q
    have hK4 : H4 D = some (.lst acc) := s4 _ _ hK
    have hl1 := DpAll.length ha1
    refine ⟨fun j k H5 => k = xs1.length - j ∧ j ≤ xs1.length ∧ Same (hide H4 [D]) (hide H5 [D]) ∧ ∃ acc', H5 D = some (.lst acc') ∧ acc'.length ≤ i * N + j ∧ DpAll K (hide H5 (D :: ms)) acc' (((ds.take i).map fun d => (sf d).map (ef d)).flatten ++ ((sf d).take j).map (ef d)), ⟨xs1.length, by simp, Nat.zero_le _, Same.refl _, acc, hK4, by omega, ?_⟩, ?_⟩
    · rw [List.take_zero, List.map_nil, List.append_nil]
      exact DpAll.mono (Same.hide s4 _) hkv
    rintro j k H5 ⟨rfl, hj, s5, acc5, hK5, hz5, hkv5⟩
    by_cases hlt1 : j < xs1.length
    · refine .inr ⟨w1.goes j H5 hlt1 (hG1 H5 s5), fun H5 => Same (hide H4 [D]) (hide H5 [D]) ∧ ∃ acc', H5 D = some (.lst acc') ∧ acc'.length ≤ i * N + (j + 1) ∧ DpAll K (hide H5 (D :: ms)) acc' (((ds.take i).map fun d => (sf d).map (ef d)).flatten ++ ((sf d).take (j + 1)).map (ef d)), fun H' q => ⟨xs1.length - (j + 1), by omega, rfl, hlt1, q⟩, fun y H6 yy => ?_⟩
      obtain ⟨e0, ey⟩ := w1.yields j H5 y H6 hlt1 (hG1 H5 s5) yy
      subst e0
      obtain ⟨e, ee, he⟩ := DpAll.at ha1 ey
      refine ⟨_, st y e _ (List.mem_of_getElem? ee) s5 (by rw [hK5]; exact fun z => nomatch z) (Dp.mono (wide s5) he), fun σ3 H6 q => ⟨q.1, _, q.2, fun b H7 q => ?_⟩⟩
      obtain ⟨rfl, q⟩ := q
      refine iteT ⟨_, q, fun z H8 r => ?_⟩
      obtain ⟨s8, hzv⟩ := r
      refine ⟨acc5, s8 _ _ hK5, by omega, ?_, _, upd_same, by rw [List.length_append, List.length_singleton]; omega, ?_⟩
      · rw [hide_upd (List.mem_singleton.mpr rfl)]
        exact s5.trans (Same.hide s8 _)
      · rw [hide_upd (List.mem_cons_self ..), List.take_succ, ee, List.map_append, ← List.append_assoc]
        exact DpAll.append (DpAll.mono (Same.hide s8 _) hkv5) (.cons hzv .nil)
    · have e : j = xs1.length := by omega
      subst e
      refine .inl ⟨w1.stops H5 (hG1 H5 s5), cut (s1.trans s4) s5, acc5, hK5, by omega, ?_⟩
      rw [etake]
      rw [hl1, List.take_length] at hkv5
      exact hkv5
  · have e : i = xs.length := by omega
    subst e
    refine .inl ⟨w.stops H (hG H s1), ?_⟩
    rw [hl, List.take_length] at hkv
    exact done H acc s1 hK hkv
/-! ### data that == may look at -/
def Shp (n : Nat) (d : PyData) : Prop := d.canLay0 = true ∧ d.depth ≤ n
theorem shp_int {n : Nat} {i : Int} : Shp n (.int i) := ⟨by simp [PyData.canLay0], by simp [PyData.depth]⟩
theorem shp_bool {n : Nat} {i : Bool} : Shp n (.bool i) := ⟨by simp [PyData.canLay0], by simp [PyData.depth]⟩
theorem shp_none {n : Nat} : Shp n .none := ⟨by simp [PyData.canLay0], by simp [PyData.depth]⟩
theorem shp_str {n : Nat} {x : Str} (h : PyData.strOk x = true) : Shp n (.str x) := ⟨by simpa [PyData.canLay0] using h, by simp [PyData.depth]⟩
theorem shp_all {n : Nat} : ∀ {ds : List PyData}, (∀ d ∈ ds, Shp n d) → PyData.canLayAll0 ds = true ∧ PyData.depthAll ds ≤ n
  | [], _ => ⟨by simp [PyData.canLayAll0], by simp [PyData.depthAll]⟩
  | d :: ds, h => by
    have h1 := h d (List.mem_cons_self ..)
    have h2 := shp_all (ds := ds) fun e he => h e (List.mem_cons_of_mem _ he)
    refine ⟨by simp [PyData.canLayAll0, h1.1, h2.1], ?_⟩
    have a := h1.2
    have b := h2.2
    simp only [PyData.depthAll]
    omega
theorem shp_list {n : Nat} {ds : List PyData} (h : ∀ d ∈ ds, Shp n d) : Shp (n + 1) (.list ds) := by
  have q := shp_all h
  exact ⟨by simpa [PyData.canLay0] using q.1, by simp only [PyData.depth]; omega⟩
theorem shp_tup {n : Nat} {ds : List PyData} (h : ∀ d ∈ ds, Shp n d) : Shp (n + 1) (.tuple ds) := by
  have q := shp_all h
  exact ⟨by simpa [PyData.canLay0] using q.1, by simp only [PyData.depth]; omega⟩
theorem Shp.mono {n m : Nat} {d : PyData} (h : Shp n d) (e : n ≤ m) : Shp m d := ⟨h.1, Nat.le_trans h.2 e⟩
theorem shaped_of {n : Nat} {d : PyData} (h : Shp n d) (e : n ≤ 64) : SeqAt.shaped d = true := by
  unfold SeqAt.shaped
  rw [h.1, decide_eq_true (Nat.le_trans h.2 e)]
  rfl
theorem shaped_strs {ls : List Str} (h : ∀ l ∈ ls, PyData.strOk l = true) : SeqAt.shaped (.list (ls.map PyData.str)) = true := shaped_of (n := 1) (shp_list fun d hd => by
  obtain ⟨l, hl, e⟩ := List.mem_map.mp hd
  rw [← e]
  exact shp_str (h l hl)) (by decide)
theorem eqv_nil_strs : ∀ (ls : List Str), PyData.eqv (.list (ls.map PyData.str)) (.list []) = decide (ls = [])
  | [] => by simp [PyData.eqv, PyData.eqvAll]
  | l :: ls => by simp [PyData.eqv, PyData.eqvAll]
/-! ### len of a dict -/
def rLenDK : List V → Hp → VK → Prop := fun xs H Q => ∃ a kvs, xs = [V.ref a] ∧ H a = some (.dK kvs) ∧ Q (.int kvs.length) H
theorem call_lenDK {X : Cx} : CallR X (.builtin "len") rLenDK := call_lenD
/-! ### all but the first -/
theorem sIx1 {n d : Nat} : HT.sIx (n + 1) d (some 1) = 1 := by
  show (if (1 : Int) < 0 then ((1 : Int) + ((n + 1 : Nat) : Int)).toNat else min (1 : Int).toNat (n + 1)) = 1
  rw [if_neg (by omega)]
  show min 1 (n + 1) = 1
  omega
theorem cut1 {x : V} {xs : List V} : cutV (x :: xs) (some 1) none = xs := by
  unfold cutV
  rw [List.length_cons, sIx1, HT.sIx_none]
  rw [List.drop_succ_cons, List.drop_zero, List.take_of_length_le (by omega)]
theorem cut1_not {x : V} {xs : List V} : ¬ (HT.sIx (x :: xs).length 0 (some 1) = 0 ∧ HT.sIx (x :: xs).length (x :: xs).length none = (x :: xs).length) := by
  rw [List.length_cons, sIx1]
  exact fun z => absurd z.1 (by decide)
/-! ### walks, the written part named -/
section
variable {X : Cx} {K : PySem.W.Frag} {tg l : Expr} {tl : TE}
theorem pi_listK (hl : PE X l tl) (hK : X.K = K := by rfl) : PI X tg l (iList K tl) := by
  subst hK; exact pi_list hl
theorem pi_tupK (hl : PE X l tl) (hK : X.K = K := by rfl) : PI X tg l (iTup K tl) := by
  subst hK; exact pi_tup hl
end
/-! ### a walk over what may be a list or a tuple -/
def iSeq (K : PySem.W.Frag) (tl : TE) : TI := fun σ H R => tl σ H fun x H1 => ∃ a, x = .ref a ∧ (((∃ xs, SqL K H1 a xs) ∧ R (Itl K a) H1) ∨ ((∃ xs, SqT K H1 a xs) ∧ R (Itt K a) H1))
section
variable {X : Cx} {tg l : Expr} {tl : TE}
theorem pi_seq {K : PySem.W.Frag} (hl : PE X l tl) (hK : X.K = K := by rfl) : PI X tg l (iSeq K tl) := by
  subst hK
  refine ⟨fun pins s0 σ H W I h => ?_⟩
  refine thn (hl.run pins s0 σ H _ I h) fun itv s ⟨y, H2, J, rel, a, ey, q⟩ => ?_
  subst ey
  cases rel
  have new : ∀ ob : Obj, L2.Inv X pins σ H2 { s with heap := s.heap.push ob } := fun ob => J.kept (t' := s.toks) fun b u e => Heap.get?_push_of_some _ e
  have fp : ∀ b ∈ [s.heap.objs.size], FpOk X pins H2 b := fun b hb => by
    rw [List.mem_singleton.mp hb]
    exact J.fpOk (Nat.le_refl _) (J.hok.fresh (Nat.le_refl _))
  rcases q with ⟨⟨xs, hx⟩, q⟩ | ⟨⟨xs, hx⟩, q⟩
  · obtain ⟨its, _, pl, _⟩ := J.list hx
    exact wpAny_pyIter_list pl.isList ⟨_, [s.heap.objs.size], _, _, H2, rfl, new _, turn_list a _, ⟨_, Heap.get?_push_size _ rfl, rfl, rfl⟩, fp, q⟩
  · obtain ⟨its, _, pl, _⟩ := J.tuple hx
    exact wpAny_pyIter_tuple (show s.heap.IsTuple a its.toArray from pl) ⟨_, [s.heap.objs.size], _, _, H2, rfl, new _, turn_tuple a _, ⟨_, Heap.get?_push_size _ rfl, rfl, rfl⟩, fp, q⟩
end
/-- a while, its turns' ends kept from the simplifier's eyes -/
theorem while_go {c : TT} {tb : TS} {D : Ends} {σ : L2.St} {H : Hp} (Pv : Nat → L2.St → Hp → Prop) (m0 : Nat) (h0 : Pv m0 σ H)
    (step : ∀ Pw : Nat → L2.St → Hp → Prop, (∀ m σ H, Pv m σ H → Pw m σ H) → ∀ m σ H, Pv m σ H → c σ H fun b H1 => if b = true then ∃ N : L2.St → Hp → Prop, (∀ σ' H', N σ' H' → ∃ m', m' < m ∧ Pw m' σ' H') ∧ tb { D with nx := N, ct := N, bk := D.nx } σ H1 else D.nx σ H1) :
    tWhile c tb D σ H := ⟨Pv, ⟨m0, h0⟩, fun m σ H p => step Pv (fun _ _ _ q => q) m σ H p⟩
/-- one statement, then the rest: what stands between -/
theorem seq_mid {a R : TS} {D : Ends} {σ : L2.St} {H : Hp} (mid : L2.St → Hp → Prop) (h : ∀ Kx : L2.St → Hp → Prop, (∀ σ' H', mid σ' H' → Kx σ' H') → a { D with nx := Kx } σ H) (rest : ∀ σ' H', mid σ' H' → R D σ' H') : tSeq a R D σ H := h (R D) rest
/-- a comprehension whose turns may change things -/
theorem lc_inv {J : It} {n : Nat} {G : Hp → Prop} {Y : Nat → Hp → V → Hp → Prop} (w : Walk J n G Y) {g : TG} {tt : TT} {te : TE} {vs : List Nat} {σ : L2.St} {H1 : Hp} {D : Addr} {Qd : Hp → Prop} (Pv : Nat → Hp → Prop) (h0 : Pv 0 (upd H1 D (.lst []))) (hG : ∀ i H, i ≤ n → Pv i H → G H)
    (hs : ∀ Pw : Nat → Hp → Prop, (∀ i H, Pv i H → Pw i H) → ∀ i x H H', i < n → Pv i H → Y i H x H' → g x (wipe σ vs) H' fun σ2 H2 => wipe σ2 vs = wipe σ vs ∧ tt σ2 H2 fun b H3 =>
      if b = true then te σ2 H3 fun y H4 => ∃ acc, H4 D = some (.lst acc) ∧ acc.length < sizeLine ∧ Pw (i + 1) (upd H4 D (.lst (acc ++ [y]))) else Pw (i + 1) H3) (hd : ∀ H, Pv n H → Qd H) : LcGoal g tt te vs σ J H1 D Qd := by
  refine lc_it w Pv h0 hG (fun i x H H' hi p y => ⟨_, hs Pv (fun _ _ q => q) i x H H' hi p y, fun σ2 H2 q => ⟨q.1, _, q.2, fun b H3 q => ?_⟩⟩) hd
  cases b with
  | true => exact ⟨_, q, fun _ _ q => q⟩
  | false => exact q
end Pb

/-! A0 -/
set_option Elab.async false
set_option linter.all false
set_option maxRecDepth 100000
set_option maxHeartbeats 4000000
namespace Pb
open PySem PySem.Spec PyProof.Rows L2
open C8 (Cal Mak Met pe_c pe_mk pe_mt pe_mt0 pe_gc fnScope_by)
/-! short words -/
local macro_rules | `(tactic| walk_at "rd") => `(tactic| try simp only [tVar, tC, tAdd, tSub, t2I, tIsN, tNotN, tB, tAnd, tOr, tNot, tAndV, tOrV, tNotV, tIf, tSeq, tPar, tPar3, tNext, tBreak, tCont, tDrop, tRet, tRetN, tIfS, gName, gNil, gCons, gTup, gSub, tAsg, tAug, ipI, iList, iTup, iRng1, iRng2, iStr, iEnum, iZip,
  tOp, tUn, rI, rI0, rU, tTest, tChain, tFld, sFld, sFldAug, L2.rAdd, L2.rSub, tNil, tCons, tTup, tLst, tCall, tMeth, tMake, tCB, tNoPart, tPart, tSl, tBM0, tBM, tDGet, tDGet1, tDGet2, tDIn, tDNotIn, sDPut, tDNewK, rEq, rNe, scal_ii, scal_ss, scal_bb, scal_nn, scal_ni, scal_in, scal_ns, scal_sn, scal_is, scal_si, List.take_succ_cons, List.take_zero, List.drop_succ_cons, List.drop_zero, upd_same, upd_upd, and_assoc, tKGet, gStar, tDisp, tPairs, tYes,
  L2.start, List.map_cons, List.map_nil, List.length_cons, List.length_nil, List.cons_append, List.nil_append, List.append_nil, List.replicate, Nat.sub_self, Nat.add_sub_cancel, Nat.reduceAdd, Nat.reduceSub, List.set_cons_zero, List.set_cons_succ, List.getElem?_cons_zero, List.getElem?_cons_succ,
  Option.some.injEq, V.int.injEq, V.bl.injEq, V.str.injEq, V.ref.injEq, exists_eq_left', exists_eq_left, exists_eq', exists_eq, true_and, and_true, if_true, if_false, Bool.false_eq_true, List.cons.injEq, Bool.not_true, Bool.not_false, cxK, cxP, cxW, ite_true, ite_false, wipe, reduceCtorEq, and_self, decide_true, decide_false, exists_and_left, exists_const, decide_eq_true_eq])
local macro_rules | `(tactic| walk_at "len") => `(tactic| (intro vs H Q E h; repeat (first | (obtain ⟨e, _⟩ := h; subst e; rfl) | (obtain ⟨_, h⟩ := h))))
local macro_rules | `(tactic| walk_at "wd") => `(tactic| simp (config := {decide := true}) only [V.str.injEq, scal_ss, true_and, if_true, if_false])

def top (i : Nat) : Stmt := PySem.Challenge.pw_pileboxes_k04_whole_covered.main.body.getD i (.Pass ⟨0, 0, 0, 0⟩)
abbrev s_is_whole : Stmt := top 2
theorem sc_is_whole : FnScope ["thing"] ["thing"] (defScope s_is_whole) := ⟨rfl, rfl, rfl, by decide +kernel, rfl, by decide +kernel, by decide +kernel⟩
abbrev s_within : Stmt := top 3
theorem sc_within : FnScope ["thing", "low", "high"] ["thing", "low", "high"] (defScope s_within) := ⟨rfl, rfl, rfl, by decide +kernel, rfl, by decide +kernel, by decide +kernel⟩
abbrev s_parts_at : Stmt := top 6
theorem sc_parts_at : FnScope ["words", "joins", "one", "at", "found", "count", "row", "cost"] ["words", "joins", "one", "at"] (defScope s_parts_at) := ⟨rfl, rfl, rfl, by decide +kernel, rfl, by decide +kernel, by decide +kernel⟩
abbrev s_Cover___init__ : Stmt := inClass (top 7) 0
theorem sc_Cover___init__ : FnScope ["self", "parts", "numbers"] ["self", "parts", "numbers"] (defScope s_Cover___init__) := ⟨rfl, rfl, rfl, by decide +kernel, rfl, by decide +kernel, by decide +kernel⟩
abbrev s_Cover_shows : Stmt := inClass (top 7) 1
theorem sc_Cover_shows : FnScope ["self", "words", "joins", "one", "number", "at", "total", "part", "here", "row", "place", "count", "many", "cost"] ["self", "words", "joins", "one"] (defScope s_Cover_shows) := ⟨rfl, rfl, rfl, by decide +kernel, rfl, by decide +kernel, by decide +kernel⟩
abbrev s_are_words : Stmt := top 19
theorem sc_are_words : FnScope ["thing", "least", "most", "word"] ["thing", "least", "most"] (defScope s_are_words) := ⟨rfl, rfl, rfl, by decide +kernel, rfl, by decide +kernel, by decide +kernel⟩
abbrev s_is_join : Stmt := top 20
theorem sc_is_join : FnScope ["thing"] ["thing"] (defScope s_is_join) := ⟨rfl, rfl, rfl, by decide +kernel, rfl, by decide +kernel, by decide +kernel⟩
abbrev s_covered : Stmt := top 21
theorem sc_covered : FnScope ["words", "joins", "one", "join", "numbers", "best", "at", "rows", "count", "many", "cost", "total", "parts"] ["words", "joins", "one"] (defScope s_covered) := ⟨rfl, rfl, rfl, by decide +kernel, rfl, by decide +kernel, by decide +kernel⟩
abbrev s__law_cell_at : Stmt := top 23
theorem sc__law_cell_at : FnScope ["_law_script", "_law_k"] ["_law_script", "_law_k"] (defScope s__law_cell_at) := ⟨rfl, rfl, rfl, by decide +kernel, rfl, by decide +kernel, by decide +kernel⟩
abbrev s__law_draw : Stmt := top 24
theorem sc__law_draw : FnScope ["_law_cell", "_law_k", "_law_cap", "_law_primes"] ["_law_cell", "_law_k", "_law_cap"] (defScope s__law_draw) := ⟨rfl, rfl, rfl, by decide +kernel, rfl, by decide +kernel, by decide +kernel⟩
abbrev s__law_number : Stmt := top 25
theorem sc__law_number : FnScope ["_law_cell", "_law_k", "_law_limit", "_law_rest", "_law_turn", "_law_small"] ["_law_cell", "_law_k", "_law_limit"] (defScope s__law_number) := ⟨rfl, rfl, rfl, by decide +kernel, rfl, by decide +kernel, by decide +kernel⟩
abbrev s__law_next : Stmt := top 26
theorem sc__law_next : FnScope ["_law_state", "_law_limit", "_law_at", "_law_cell"] ["_law_state", "_law_limit"] (defScope s__law_next) := ⟨rfl, rfl, rfl, by decide +kernel, rfl, by decide +kernel, by decide +kernel⟩
abbrev s__law_drawn : Stmt := top 27
theorem sc__law_drawn : FnScope ["_law_state", "_law_names", "_law_few", "_law_words", "_law_joins", "_law_turn", "_law_row", "_law_k", "_law_join"] ["_law_state"] (defScope s__law_drawn) := ⟨rfl, rfl, rfl, by decide +kernel, rfl, by decide +kernel, by decide +kernel⟩
abbrev s__law_parts : Stmt := top 28
theorem sc__law_parts : FnScope ["_law_words", "_law_joins", "_law_price", "_law_at", "_law_found", "_law_count", "_law_row", "_law_cost"] ["_law_words", "_law_joins", "_law_price", "_law_at"] (defScope s__law_parts) := ⟨rfl, rfl, rfl, by decide +kernel, rfl, by decide +kernel, by decide +kernel⟩
abbrev s__law_least : Stmt := top 29
theorem sc__law_least : FnScope ["_law_words", "_law_joins", "_law_price", "_law_found", "_law_back", "_law_at", "_law_count", "_law_many", "_law_cost"] ["_law_words", "_law_joins", "_law_price"] (defScope s__law_least) := ⟨rfl, rfl, rfl, by decide +kernel, rfl, by decide +kernel, by decide +kernel⟩
abbrev s__law_due : Stmt := top 30
theorem sc__law_due : FnScope ["_law_words", "_law_joins", "_law_price", "_law_found", "_law_at", "_law_total", "_law_numbers", "_law_part", "_law_some", "_law_row", "_law_place", "_law_count", "_law_many", "_law_cost"] ["_law_words", "_law_joins", "_law_price", "_law_found"] (defScope s__law_due) := ⟨rfl, rfl, rfl, by decide +kernel, rfl, by decide +kernel, by decide +kernel⟩
abbrev s__law_hand_right : Stmt := top 31
theorem sc__law_hand_right : FnScope ["_law_words", "_law_joins", "_law_price", "_law_found", "_law_rows", "_law_least_here", "_law_numbers", "_law_number_here", "_law_at", "_law_parts_here", "_law_row", "_law_handed", "_law_other", "_law_late"] ["_law_words", "_law_joins", "_law_price", "_law_found"] (defScope s__law_hand_right) := ⟨rfl, rfl, rfl, by decide +kernel, rfl, by decide +kernel, by decide +kernel⟩
abbrev s__law_right : Stmt := top 32
theorem sc__law_right : FnScope ["_law_words", "_law_joins", "_law_price", "_law_others", "_law_handed", "_law_rows", "_law_found", "_law_other"] ["_law_words", "_law_joins", "_law_price", "_law_others"] (defScope s__law_right) := ⟨rfl, rfl, rfl, by decide +kernel, rfl, by decide +kernel, by decide +kernel⟩
abbrev s_law : Stmt := top 33
theorem sc_law : FnScope ["_law_script", "_law_by", "_law_state", "_law_lots", "_law_turn", "_law_at", "_law_lot", "_law_near", "_law_joins", "_law_found"] ["_law_script"] (defScope s_law) := ⟨rfl, rfl, rfl, by decide +kernel, rfl, by decide +kernel, by decide +kernel⟩
def c_WORDS : List Str := ["put", "plus", "less", "times", "under", "same", "over", "swap", "drop", "tell", "hear"]
structure Tx (w : World) (K : PySem.W.Frag) (mg : Str → Option Value) : Prop where
  b_isinstance : mg "isinstance" = none
  b_int : mg "int" = none
  b_bool : mg "bool" = none
  b_enumerate : mg "enumerate" = none
  b_len : mg "len" = none
  b_tuple : mg "tuple" = none
  b_list : mg "list" = none
  b_range : mg "range" = none
  b_all : mg "all" = none
  b_str : mg "str" = none
  b_reversed : mg "reversed" = none
  b_min : mg "min" = none
  b_max : mg "max" = none
  v_WORDS : ∃ u, mg "WORDS" = some u ∧ RelV (.ref (He.ga K "WORDS")) u
  t_WORDS : ∀ H, SqT K H (He.ga K "WORDS") (c_WORDS.map V.str)
  v_ONE : ∃ u, mg "ONE" = some u ∧ RelV (.int (3)) u
  v_MOST_WORDS : ∃ u, mg "MOST_WORDS" = some u ∧ RelV (.int (40)) u
  v_MOST_JOINS : ∃ u, mg "MOST_JOINS" = some u ∧ RelV (.int (6)) u
  v_LONGEST_JOIN : ∃ u, mg "LONGEST_JOIN" = some u ∧ RelV (.int (4)) u
  v_MOST_COST : ∃ u, mg "MOST_COST" = some u ∧ RelV (.int (9)) u
  g_is_whole : mg "is_whole" = some (.ref (He.ga K "is_whole"))
  D_is_whole : FnD K "is_whole" "is_whole" s_is_whole [] [] (He.ga K "is_whole")
  g_within : mg "within" = some (.ref (He.ga K "within"))
  D_within : FnD K "within" "within" s_within [] [] (He.ga K "within")
  g_parts_at : mg "parts_at" = some (.ref (He.ga K "parts_at"))
  D_parts_at : FnD K "parts_at" "parts_at" s_parts_at [] [] (He.ga K "parts_at")
  D_Cover___init__ : FnD K "__init__" "Cover.__init__" s_Cover___init__ [] [] (He.ma K (He.ga K "Cover") "__init__")
  D_Cover_shows : FnD K "shows" "Cover.shows" s_Cover_shows [] [("one", .int 3)] (He.ma K (He.ga K "Cover") "shows")
  g_are_words : mg "are_words" = some (.ref (He.ga K "are_words"))
  D_are_words : FnD K "are_words" "are_words" s_are_words [] [] (He.ga K "are_words")
  g_is_join : mg "is_join" = some (.ref (He.ga K "is_join"))
  D_is_join : FnD K "is_join" "is_join" s_is_join [] [] (He.ga K "is_join")
  g_covered : mg "covered" = some (.ref (He.ga K "covered"))
  D_covered : FnD K "covered" "covered" s_covered [] [("one", .int 3)] (He.ga K "covered")
  g__law_cell_at : mg "_law_cell_at" = some (.ref (He.ga K "_law_cell_at"))
  D__law_cell_at : FnD K "_law_cell_at" "_law_cell_at" s__law_cell_at [] [] (He.ga K "_law_cell_at")
  g__law_draw : mg "_law_draw" = some (.ref (He.ga K "_law_draw"))
  D__law_draw : FnD K "_law_draw" "_law_draw" s__law_draw [] [] (He.ga K "_law_draw")
  g__law_number : mg "_law_number" = some (.ref (He.ga K "_law_number"))
  D__law_number : FnD K "_law_number" "_law_number" s__law_number [] [] (He.ga K "_law_number")
  g__law_next : mg "_law_next" = some (.ref (He.ga K "_law_next"))
  D__law_next : FnD K "_law_next" "_law_next" s__law_next [] [] (He.ga K "_law_next")
  g__law_drawn : mg "_law_drawn" = some (.ref (He.ga K "_law_drawn"))
  D__law_drawn : FnD K "_law_drawn" "_law_drawn" s__law_drawn [] [] (He.ga K "_law_drawn")
  g__law_parts : mg "_law_parts" = some (.ref (He.ga K "_law_parts"))
  D__law_parts : FnD K "_law_parts" "_law_parts" s__law_parts [] [] (He.ga K "_law_parts")
  g__law_least : mg "_law_least" = some (.ref (He.ga K "_law_least"))
  D__law_least : FnD K "_law_least" "_law_least" s__law_least [] [] (He.ga K "_law_least")
  g__law_due : mg "_law_due" = some (.ref (He.ga K "_law_due"))
  D__law_due : FnD K "_law_due" "_law_due" s__law_due [] [] (He.ga K "_law_due")
  g__law_hand_right : mg "_law_hand_right" = some (.ref (He.ga K "_law_hand_right"))
  D__law_hand_right : FnD K "_law_hand_right" "_law_hand_right" s__law_hand_right [] [] (He.ga K "_law_hand_right")
  g__law_right : mg "_law_right" = some (.ref (He.ga K "_law_right"))
  D__law_right : FnD K "_law_right" "_law_right" s__law_right [] [] (He.ga K "_law_right")
  g_law : mg "law" = some (.ref (He.ga K "law"))
  D_law : FnD K "law" "law" s_law [] [] (He.ga K "law")
  i_Answer : IsaC K (He.ga K "Answer")
  q_Answer_Answer : PySem.W.kitOne K (.ref (He.ga K "Answer")) (.ref (He.ga K "Answer")) = some true
  q_Answer_Cover : PySem.W.kitOne K (.ref (He.ga K "Answer")) (.ref (He.ga K "Cover")) = some false
  g_Answer : mg "Answer" = some (.ref (He.ga K "Answer"))
  c_Answer : Cls K (He.ga K "Answer")
  i_Cover : IsaC K (He.ga K "Cover")
  q_Cover_Answer : PySem.W.kitOne K (.ref (He.ga K "Cover")) (.ref (He.ga K "Answer")) = some true
  q_Cover_Cover : PySem.W.kitOne K (.ref (He.ga K "Cover")) (.ref (He.ga K "Cover")) = some true
  g_Cover : mg "Cover" = some (.ref (He.ga K "Cover"))
  c_Cover : Cls K (He.ga K "Cover")
  n_Cover_parts : NoAttr K (He.ga K "Cover") "parts"
  n_Cover_numbers : NoAttr K (He.ga K "Cover") "numbers"
  mk_Cover : Mk K (He.ga K "Cover") (He.ma K (He.ga K "Cover") "__init__")
  me_Cover_shows : Meth K (He.ga K "Cover") "shows" (He.ma K (He.ga K "Cover") "shows")
end Pb

/-! Z4 -/
set_option Elab.async false
set_option linter.all false
set_option maxRecDepth 100000
set_option maxHeartbeats 4000000
namespace Pb
open PySem PySem.Spec PyProof.Rows L2
open C8 (Cal Mak Met pe_c pe_mk pe_mt pe_mt0 pe_gc fnScope_by)
/-! short words -/
local macro_rules | `(tactic| walk_at "rd") => `(tactic| try simp only [tVar, tC, tAdd, tSub, t2I, tIsN, tNotN, tB, tAnd, tOr, tNot, tAndV, tOrV, tNotV, tIf, tSeq, tPar, tPar3, tNext, tBreak, tCont, tDrop, tRet, tRetN, tIfS, gName, gNil, gCons, gTup, gSub, tAsg, tAug, ipI, iList, iTup, iRng1, iRng2, iStr, iEnum, iZip,
  tOp, tUn, rI, rI0, rU, tTest, tChain, tFld, sFld, sFldAug, L2.rAdd, L2.rSub, tNil, tCons, tTup, tLst, tCall, tMeth, tMake, tCB, tNoPart, tPart, tSl, tBM0, tBM, tDGet, tDGet1, tDGet2, tDIn, tDNotIn, sDPut, tDNewK, rEq, rNe, scal_ii, scal_ss, scal_bb, scal_nn, scal_ni, scal_in, scal_ns, scal_sn, scal_is, scal_si, List.take_succ_cons, List.take_zero, List.drop_succ_cons, List.drop_zero, upd_same, upd_upd, and_assoc, tKGet, gStar, tDisp, tPairs, tYes,
  L2.start, List.map_cons, List.map_nil, List.length_cons, List.length_nil, List.cons_append, List.nil_append, List.append_nil, List.replicate, Nat.sub_self, Nat.add_sub_cancel, Nat.reduceAdd, Nat.reduceSub, List.set_cons_zero, List.set_cons_succ, List.getElem?_cons_zero, List.getElem?_cons_succ,
  Option.some.injEq, V.int.injEq, V.bl.injEq, V.str.injEq, V.ref.injEq, exists_eq_left', exists_eq_left, exists_eq', exists_eq, true_and, and_true, if_true, if_false, Bool.false_eq_true, List.cons.injEq, Bool.not_true, Bool.not_false, cxK, cxP, cxW, ite_true, ite_false, wipe, reduceCtorEq, and_self, decide_true, decide_false, exists_and_left, exists_const, decide_eq_true_eq])
local macro_rules | `(tactic| walk_at "len") => `(tactic| (intro vs H Q E h; repeat (first | (obtain ⟨e, _⟩ := h; subst e; rfl) | (obtain ⟨_, h⟩ := h))))
local macro_rules | `(tactic| walk_at "wd") => `(tactic| simp (config := {decide := true}) only [V.str.injEq, scal_ss, true_and, if_true, if_false])

def dd_is_whole : He.DefD := ⟨("is_whole", none), "is_whole", "is_whole", L2.defArgs s_is_whole, L2.defBody s_is_whole, L2.defScope s_is_whole, [], []⟩
def dd_within : He.DefD := ⟨("within", none), "within", "within", L2.defArgs s_within, L2.defBody s_within, L2.defScope s_within, [], []⟩
def dd_parts_at : He.DefD := ⟨("parts_at", none), "parts_at", "parts_at", L2.defArgs s_parts_at, L2.defBody s_parts_at, L2.defScope s_parts_at, [], []⟩
def dd_Cover___init__ : He.DefD := ⟨("Cover", some "__init__"), "__init__", "Cover.__init__", L2.defArgs s_Cover___init__, L2.defBody s_Cover___init__, L2.defScope s_Cover___init__, [], []⟩
def dd_Cover_shows : He.DefD := ⟨("Cover", some "shows"), "shows", "Cover.shows", L2.defArgs s_Cover_shows, L2.defBody s_Cover_shows, L2.defScope s_Cover_shows, [], [("one", .int 3)]⟩
def dd_are_words : He.DefD := ⟨("are_words", none), "are_words", "are_words", L2.defArgs s_are_words, L2.defBody s_are_words, L2.defScope s_are_words, [], []⟩
def dd_is_join : He.DefD := ⟨("is_join", none), "is_join", "is_join", L2.defArgs s_is_join, L2.defBody s_is_join, L2.defScope s_is_join, [], []⟩
def dd_covered : He.DefD := ⟨("covered", none), "covered", "covered", L2.defArgs s_covered, L2.defBody s_covered, L2.defScope s_covered, [], [("one", .int 3)]⟩
def dd__law_cell_at : He.DefD := ⟨("_law_cell_at", none), "_law_cell_at", "_law_cell_at", L2.defArgs s__law_cell_at, L2.defBody s__law_cell_at, L2.defScope s__law_cell_at, [], []⟩
def dd__law_draw : He.DefD := ⟨("_law_draw", none), "_law_draw", "_law_draw", L2.defArgs s__law_draw, L2.defBody s__law_draw, L2.defScope s__law_draw, [], []⟩
def dd__law_number : He.DefD := ⟨("_law_number", none), "_law_number", "_law_number", L2.defArgs s__law_number, L2.defBody s__law_number, L2.defScope s__law_number, [], []⟩
def dd__law_next : He.DefD := ⟨("_law_next", none), "_law_next", "_law_next", L2.defArgs s__law_next, L2.defBody s__law_next, L2.defScope s__law_next, [], []⟩
def dd__law_drawn : He.DefD := ⟨("_law_drawn", none), "_law_drawn", "_law_drawn", L2.defArgs s__law_drawn, L2.defBody s__law_drawn, L2.defScope s__law_drawn, [], []⟩
def dd__law_parts : He.DefD := ⟨("_law_parts", none), "_law_parts", "_law_parts", L2.defArgs s__law_parts, L2.defBody s__law_parts, L2.defScope s__law_parts, [], []⟩
def dd__law_least : He.DefD := ⟨("_law_least", none), "_law_least", "_law_least", L2.defArgs s__law_least, L2.defBody s__law_least, L2.defScope s__law_least, [], []⟩
def dd__law_due : He.DefD := ⟨("_law_due", none), "_law_due", "_law_due", L2.defArgs s__law_due, L2.defBody s__law_due, L2.defScope s__law_due, [], []⟩
def dd__law_hand_right : He.DefD := ⟨("_law_hand_right", none), "_law_hand_right", "_law_hand_right", L2.defArgs s__law_hand_right, L2.defBody s__law_hand_right, L2.defScope s__law_hand_right, [], []⟩
def dd__law_right : He.DefD := ⟨("_law_right", none), "_law_right", "_law_right", L2.defArgs s__law_right, L2.defBody s__law_right, L2.defScope s__law_right, [], []⟩
def dd_law : He.DefD := ⟨("law", none), "law", "law", L2.defArgs s_law, L2.defBody s_law, L2.defScope s_law, [], []⟩
def hfn : List He.DefD := [dd_is_whole, dd_within, dd_parts_at, dd_Cover___init__, dd_Cover_shows, dd_are_words, dd_is_join, dd_covered, dd__law_cell_at, dd__law_draw, dd__law_number, dd__law_next, dd__law_drawn, dd__law_parts, dd__law_least, dd__law_due, dd__law_hand_right, dd__law_right, dd_law]
def hfa : List He.Fa := [.free "isinstance", .free "int", .free "bool", .free "enumerate", .free "len", .free "tuple", .free "list", .free "range", .free "all", .free "str", .free "reversed", .free "min", .free "max", .glo "WORDS", .int "ONE" (3), .int "MOST_WORDS" (40), .int "MOST_JOINS" (6), .int "LONGEST_JOIN" (4), .int "MOST_COST" (9), .glo "is_whole", .glo "within", .glo "parts_at", .glo "are_words", .glo "is_join", .glo "covered", .glo "_law_cell_at", .glo "_law_draw", .glo "_law_number", .glo "_law_next", .glo "_law_drawn", .glo "_law_parts", .glo "_law_least", .glo "_law_due", .glo "_law_hand_right", .glo "_law_right", .glo "law", .glo "Answer", .cls "Answer", .glo "Cover", .cls "Cover", .noat "Cover" "parts", .noat "Cover" "numbers", .mkr "Cover", .meth "Cover" "shows"]
def hts : List He.Tab := []
def exL (K : PySem.W.Frag) : List Bool := [He.tupB K "WORDS" [.str "put", .str "plus", .str "less", .str "times", .str "under", .str "same", .str "over", .str "swap", .str "drop", .str "tell", .str "hear"],
  isaB K (He.ga K "Answer"),
  decide (PySem.W.kitOne K (.ref (He.ga K "Answer")) (.ref (He.ga K "Answer")) = some true),
  decide (PySem.W.kitOne K (.ref (He.ga K "Answer")) (.ref (He.ga K "Cover")) = some false),
  isaB K (He.ga K "Cover"),
  decide (PySem.W.kitOne K (.ref (He.ga K "Cover")) (.ref (He.ga K "Answer")) = some true),
  decide (PySem.W.kitOne K (.ref (He.ga K "Cover")) (.ref (He.ga K "Cover")) = some true)]
def hex (K : PySem.W.Frag) : Bool := (exL K).all id
theorem exAt {K : PySem.W.Frag} (h : hex K = true) (i : Nat) {b : Bool} (e : (exL K)[i]? = some b) : b = true := List.all_eq_true.mp h b (List.mem_of_getElem? e)
def htf : List He.Defn := [("covered", none)]
def asR (n : Nat) : List Addr := (List.range n).reverse
def obsY (n : Nat) (fa : List He.Fa) (fn : List He.DefD) (ts : List He.Tab) (tf : List He.Defn) (ex : PySem.W.Frag → Bool) (g : Addr → Option Obj) : He.AlX := (He.obsT fa fn ts (He.frT g (asR n)), ex (He.frT g (asR n)) && He.tabsB g tf (He.frT g (asR n)))
theorem saysY {n : Nat} {fa : List He.Fa} {fn : List He.DefD} {ts : List He.Tab} {tf : List He.Defn} {ex : PySem.W.Frag → Bool} {w : World} {h : Heap} (e : obsY n fa fn ts tf ex h.get? = He.valX fn ts w) : He.SaysX fa fn ts tf ex w h (He.frT h.get? (asR n)) := by
  have a1 : He.obsT fa fn ts (He.frT h.get? (asR n)) = He.valT fn ts w := congrArg (fun z : He.AlX => z.1) e
  have a2 : (ex (He.frT h.get? (asR n)) && He.tabsB h.get? tf (He.frT h.get? (asR n))) = true := congrArg (fun z : He.AlX => z.2) e
  have a3 := Bool.and_eq_true_iff.mp a2
  have all : ∀ p ∈ tf, PySem.W.codeHdIn (He.frT h.get? (asR n)) (He.cT (He.frT h.get? (asR n)) p).1 (He.cT (He.frT h.get? (asR n)) p).2 = true ∧ ∃ o, h.get? (He.cT (He.frT h.get? (asR n)) p).2 = some o ∧ He.emptyTab o = true := by
    intro p hp
    have b := Bool.and_eq_true_iff.mp (List.all_eq_true.mp a3.2 p hp)
    refine ⟨b.1, ?_⟩
    have b2 := b.2
    generalize h.get? (He.cT (He.frT h.get? (asR n)) p).2 = u at b2
    cases u with
    | none => cases b2
    | some o => exact ⟨o, rfl, b2⟩
  refine ⟨a1, a3.1, fun p hp => (all p hp).1, fun p hp => ?_, fun p hp => ?_⟩
  · obtain ⟨o, q, z⟩ := (all p hp).2
    exact He.frT_none q z
  · obtain ⟨o, q, z⟩ := (all p hp).2
    rw [q, He.emptyTab_eq z]
def hookY (n : Nat) (fa : List He.Fa) (fn : List He.DefD) (ts : List He.Tab) (tf : List He.Defn) (ex : PySem.W.Frag → Bool) : PySem.W.Hook where
  α := He.AlX
  obs := fun s => obsY n fa fn ts tf ex s.heap.get?
  val := fun w => He.valX fn ts w
  says := fun w h => ∃ K : PySem.W.Frag, K.In h ∧ He.SaysX fa fn ts tf ex w h K
  of := fun _ _ e => ⟨_, He.frT_in, saysY e⟩
  keeps := fun _ _ _ ⟨K, hK, c⟩ k => ⟨K, PySem.W.Frag.In.keeps hK k, ⟨c.t, c.more, c.hd, c.out, fun p hp => k _ _ (c.empty p hp)⟩⟩
theorem obsY_eq {n : Nat} {fa : List He.Fa} {fn : List He.DefD} {ts : List He.Tab} {tf : List He.Defn} {ex : PySem.W.Frag → Bool} {g : Addr → Option Obj} {s : Shared} (h : ∀ a, g a = s.heap.get? a) : obsY n fa fn ts tf ex g = (hookY n fa fn ts tf ex).obs s := by
  have e : g = s.heap.get? := funext h
  rw [e] <;> rfl
abbrev hk : PySem.W.Hook := hookY 1500 hfa hfn hts htf hex
def hob (s : PySem.W.SharedT) : He.AlX := obsY 1500 hfa hfn hts htf hex (HandSHeadRun.getT s)
theorem hob_eq (s : PySem.W.SharedT) : hob s = hk.obs s.abs := obsY_eq (HandSHeadRun.getT_eq s)
abbrev hR : PySem.W.OpenRow := PySem.W.OpenLaw.row PySem.Challenge.rw_pileboxes_k04_whole_covered
abbrev hq : Program := PySem.W.view hR.prog [33]
def hnames : List PySem.Str := (["WORDS", "is_whole", "within", "Answer", "parts_at", "Cover", "PileError", "BadJoins", "BadWords", "BadCost", "ONE", "MOST_WORDS", "MOST_JOINS", "LONGEST_JOIN", "MOST_COST", "are_words", "is_join", "covered", "_law_cell_at", "_law_draw", "_law_number", "_law_next", "_law_drawn", "_law_parts", "_law_least", "_law_due", "_law_hand_right", "_law_right"] : List PySem.Str)
theorem runF (w : World) : HandSHeadRun.RunEq hR hq hk hob 12000 hnames (w.withFollow "special-get-raises" false) := by
  intro os
  kernel_rfl
theorem runT (w : World) : HandSHeadRun.RunEq hR hq hk hob 12000 hnames (w.withFollow "special-get-raises" true) := by
  intro os
  kernel_rfl
theorem hrun (w : World) : HandSHeadRun.RunEq hR hq hk hob 12000 hnames w := PySem.W.byRow2 "special-get-raises" runF runT w
theorem tx_of {w : World} {K : PySem.W.Frag} {h : Heap} {mg : Str → Option Value} (X : K.In h) (G : h.Ns mainGlobals mg) (c : He.SaysX hfa hfn hts htf hex w h K) : Tx w K mg where
  b_isinstance := He.free_ok X G (c.t.d.fact 0 (f := .free "isinstance") rfl)
  b_int := He.free_ok X G (c.t.d.fact 1 (f := .free "int") rfl)
  b_bool := He.free_ok X G (c.t.d.fact 2 (f := .free "bool") rfl)
  b_enumerate := He.free_ok X G (c.t.d.fact 3 (f := .free "enumerate") rfl)
  b_len := He.free_ok X G (c.t.d.fact 4 (f := .free "len") rfl)
  b_tuple := He.free_ok X G (c.t.d.fact 5 (f := .free "tuple") rfl)
  b_list := He.free_ok X G (c.t.d.fact 6 (f := .free "list") rfl)
  b_range := He.free_ok X G (c.t.d.fact 7 (f := .free "range") rfl)
  b_all := He.free_ok X G (c.t.d.fact 8 (f := .free "all") rfl)
  b_str := He.free_ok X G (c.t.d.fact 9 (f := .free "str") rfl)
  b_reversed := He.free_ok X G (c.t.d.fact 10 (f := .free "reversed") rfl)
  b_min := He.free_ok X G (c.t.d.fact 11 (f := .free "min") rfl)
  b_max := He.free_ok X G (c.t.d.fact 12 (f := .free "max") rfl)
  v_WORDS := ⟨_, He.glo_ok X G (c.t.d.fact 13 (f := .glo "WORDS") rfl), rfl⟩
  t_WORDS := fun H => He.tupB_ok (vs := [.str "put", .str "plus", .str "less", .str "times", .str "under", .str "same", .str "over", .str "swap", .str "drop", .str "tell", .str "hear"]) (exAt c.more 0 rfl) H
  v_ONE := by obtain ⟨t, e⟩ := He.int_ok X G (c.t.d.fact 14 (f := .int "ONE" (3)) rfl); exact ⟨_, e, t, rfl⟩
  v_MOST_WORDS := by obtain ⟨t, e⟩ := He.int_ok X G (c.t.d.fact 15 (f := .int "MOST_WORDS" (40)) rfl); exact ⟨_, e, t, rfl⟩
  v_MOST_JOINS := by obtain ⟨t, e⟩ := He.int_ok X G (c.t.d.fact 16 (f := .int "MOST_JOINS" (6)) rfl); exact ⟨_, e, t, rfl⟩
  v_LONGEST_JOIN := by obtain ⟨t, e⟩ := He.int_ok X G (c.t.d.fact 17 (f := .int "LONGEST_JOIN" (4)) rfl); exact ⟨_, e, t, rfl⟩
  v_MOST_COST := by obtain ⟨t, e⟩ := He.int_ok X G (c.t.d.fact 18 (f := .int "MOST_COST" (9)) rfl); exact ⟨_, e, t, rfl⟩
  g_is_whole := He.glo_ok X G (c.t.d.fact 19 (f := .glo "is_whole") rfl)
  D_is_whole := c.t.d.def_ 0 (d := dd_is_whole) rfl
  g_within := He.glo_ok X G (c.t.d.fact 20 (f := .glo "within") rfl)
  D_within := c.t.d.def_ 1 (d := dd_within) rfl
  g_parts_at := He.glo_ok X G (c.t.d.fact 21 (f := .glo "parts_at") rfl)
  D_parts_at := c.t.d.def_ 2 (d := dd_parts_at) rfl
  D_Cover___init__ := c.t.d.def_ 3 (d := dd_Cover___init__) rfl
  D_Cover_shows := c.t.d.def_ 4 (d := dd_Cover_shows) rfl
  g_are_words := He.glo_ok X G (c.t.d.fact 22 (f := .glo "are_words") rfl)
  D_are_words := c.t.d.def_ 5 (d := dd_are_words) rfl
  g_is_join := He.glo_ok X G (c.t.d.fact 23 (f := .glo "is_join") rfl)
  D_is_join := c.t.d.def_ 6 (d := dd_is_join) rfl
  g_covered := He.glo_ok X G (c.t.d.fact 24 (f := .glo "covered") rfl)
  D_covered := c.t.d.def_ 7 (d := dd_covered) rfl
  g__law_cell_at := He.glo_ok X G (c.t.d.fact 25 (f := .glo "_law_cell_at") rfl)
  D__law_cell_at := c.t.d.def_ 8 (d := dd__law_cell_at) rfl
  g__law_draw := He.glo_ok X G (c.t.d.fact 26 (f := .glo "_law_draw") rfl)
  D__law_draw := c.t.d.def_ 9 (d := dd__law_draw) rfl
  g__law_number := He.glo_ok X G (c.t.d.fact 27 (f := .glo "_law_number") rfl)
  D__law_number := c.t.d.def_ 10 (d := dd__law_number) rfl
  g__law_next := He.glo_ok X G (c.t.d.fact 28 (f := .glo "_law_next") rfl)
  D__law_next := c.t.d.def_ 11 (d := dd__law_next) rfl
  g__law_drawn := He.glo_ok X G (c.t.d.fact 29 (f := .glo "_law_drawn") rfl)
  D__law_drawn := c.t.d.def_ 12 (d := dd__law_drawn) rfl
  g__law_parts := He.glo_ok X G (c.t.d.fact 30 (f := .glo "_law_parts") rfl)
  D__law_parts := c.t.d.def_ 13 (d := dd__law_parts) rfl
  g__law_least := He.glo_ok X G (c.t.d.fact 31 (f := .glo "_law_least") rfl)
  D__law_least := c.t.d.def_ 14 (d := dd__law_least) rfl
  g__law_due := He.glo_ok X G (c.t.d.fact 32 (f := .glo "_law_due") rfl)
  D__law_due := c.t.d.def_ 15 (d := dd__law_due) rfl
  g__law_hand_right := He.glo_ok X G (c.t.d.fact 33 (f := .glo "_law_hand_right") rfl)
  D__law_hand_right := c.t.d.def_ 16 (d := dd__law_hand_right) rfl
  g__law_right := He.glo_ok X G (c.t.d.fact 34 (f := .glo "_law_right") rfl)
  D__law_right := c.t.d.def_ 17 (d := dd__law_right) rfl
  g_law := He.glo_ok X G (c.t.d.fact 35 (f := .glo "law") rfl)
  D_law := c.t.d.def_ 18 (d := dd_law) rfl
  i_Answer := isaB_ok (exAt c.more 1 rfl)
  q_Answer_Answer := of_decide_eq_true (exAt c.more 2 rfl)
  q_Answer_Cover := of_decide_eq_true (exAt c.more 3 rfl)
  g_Answer := He.glo_ok X G (c.t.d.fact 36 (f := .glo "Answer") rfl)
  c_Answer := He.cls_ok (c.t.d.fact 37 (f := .cls "Answer") rfl)
  i_Cover := isaB_ok (exAt c.more 4 rfl)
  q_Cover_Answer := of_decide_eq_true (exAt c.more 5 rfl)
  q_Cover_Cover := of_decide_eq_true (exAt c.more 6 rfl)
  g_Cover := He.glo_ok X G (c.t.d.fact 38 (f := .glo "Cover") rfl)
  c_Cover := He.cls_ok (c.t.d.fact 39 (f := .cls "Cover") rfl)
  n_Cover_parts := He.noat_ok (c.t.d.fact 40 (f := .noat "Cover" "parts") rfl)
  n_Cover_numbers := He.noat_ok (c.t.d.fact 41 (f := .noat "Cover" "numbers") rfl)
  mk_Cover := He.mkr_ok (c.t.d.fact 42 (f := .mkr "Cover") rfl)
  me_Cover_shows := He.meth_ok (c.t.d.fact 43 (f := .meth "Cover" "shows") rfl)
end Pb

/-! V1 -/
set_option Elab.async false
set_option linter.all false
set_option maxRecDepth 100000
set_option maxHeartbeats 4000000
namespace Pb
open PySem PySem.Spec PyProof.Rows L2
open C8 (Cal Mak Met pe_c pe_mk pe_mt pe_mt0 pe_gc fnScope_by)
/-! short words -/
local macro_rules | `(tactic| walk_at "rd") => `(tactic| try simp only [tVar, tC, tAdd, tSub, t2I, tIsN, tNotN, tB, tAnd, tOr, tNot, tAndV, tOrV, tNotV, tIf, tSeq, tPar, tPar3, tNext, tBreak, tCont, tDrop, tRet, tRetN, tIfS, gName, gNil, gCons, gTup, gSub, tAsg, tAug, ipI, iList, iTup, iRng1, iRng2, iStr, iEnum, iZip,
  tOp, tUn, rI, rI0, rU, tTest, tChain, tFld, sFld, sFldAug, L2.rAdd, L2.rSub, tNil, tCons, tTup, tLst, tCall, tMeth, tMake, tCB, tNoPart, tPart, tSl, tBM0, tBM, tDGet, tDGet1, tDGet2, tDIn, tDNotIn, sDPut, tDNewK, rEq, rNe, scal_ii, scal_ss, scal_bb, scal_nn, scal_ni, scal_in, scal_ns, scal_sn, scal_is, scal_si, List.take_succ_cons, List.take_zero, List.drop_succ_cons, List.drop_zero, upd_same, upd_upd, and_assoc, tKGet, gStar, tDisp, tPairs, tYes,
  L2.start, List.map_cons, List.map_nil, List.length_cons, List.length_nil, List.cons_append, List.nil_append, List.append_nil, List.replicate, Nat.sub_self, Nat.add_sub_cancel, Nat.reduceAdd, Nat.reduceSub, List.set_cons_zero, List.set_cons_succ, List.getElem?_cons_zero, List.getElem?_cons_succ,
  Option.some.injEq, V.int.injEq, V.bl.injEq, V.str.injEq, V.ref.injEq, exists_eq_left', exists_eq_left, exists_eq', exists_eq, true_and, and_true, if_true, if_false, Bool.false_eq_true, List.cons.injEq, Bool.not_true, Bool.not_false, cxK, cxP, cxW, ite_true, ite_false, wipe, reduceCtorEq, and_self, decide_true, decide_false, exists_and_left, exists_const, decide_eq_true_eq])
local macro_rules | `(tactic| walk_at "len") => `(tactic| (intro vs H Q E h; repeat (first | (obtain ⟨e, _⟩ := h; subst e; rfl) | (obtain ⟨_, h⟩ := h))))
local macro_rules | `(tactic| walk_at "wd") => `(tactic| simp (config := {decide := true}) only [V.str.injEq, scal_ss, true_and, if_true, if_false])

/-! whole numbers, new instances (a part of the program alone) -/
def isWhole : PyData → Bool
  | .int _ => true
  | _ => false
def within (d : PyData) (lo hi : Int) : Bool := match d with
  | .int i => decide (lo ≤ i) && decide (i ≤ hi)
  | _ => false
def sp_is_whole (K : PySem.W.Frag) : Sp := fun vs H Q _ => ∃ ms v d, vs = [v] ∧ Tk H ms ∧ Dp K (hide H ms) v d ∧ ∀ H', Same H H' → Q (.bl (isWhole d)) H'
def sp_within (K : PySem.W.Frag) : Sp := fun vs H Q _ => ∃ ms v d lo hi, vs = [v, .int lo, .int hi] ∧ Tk H ms ∧ Dp K (hide H ms) v d ∧ ∀ H', Same H H' → Q (.bl (within d lo hi)) H'
/-- a list or a tuple of whole numbers -/
def IntSeq (K : PySem.W.Frag) (H : Hp) (v : V) (ns : List Int) : Prop := ∃ a, v = .ref a ∧ (SqL K H a (ns.map V.int) ∨ SqT K H a (ns.map V.int))
theorem IntSeq.mono {K : PySem.W.Frag} {H H' : Hp} {v : V} {ns : List Int} (s : Same H H') (h : IntSeq K H v ns) : IntSeq K H' v ns := by
  obtain ⟨a, e, h⟩ := h
  exact ⟨a, e, h.imp (sqL_same s) (sqT_same s)⟩
/-- a new instance at p, all fields of it still to be set -/
def NewAt (H0 H : Hp) (C p dx : Addr) : Prop := H = upd (upd H0 dx (.own p)) p (.ins C dx []) ∧ H0 p = none ∧ H0 dx = none ∧ dx ≠ p
theorem NewAt.same {H0 H : Hp} {C p dx : Addr} (h : NewAt H0 H C p dx) : Same H0 H := by
  obtain ⟨rfl, h1, h2, h3⟩ := h
  exact (same_new h2).trans (same_new (by rw [upd_ne (Ne.symm h3)]; exact h1))
theorem NewAt.at {H0 H : Hp} {C p dx : Addr} (h : NewAt H0 H C p dx) : H p = some (.ins C dx []) := by
  obtain ⟨rfl, h1, h2, h3⟩ := h
  exact upd_same
theorem NewAt.keep {H0 H H' : Hp} {C p dx : Addr} (h : NewAt H0 H C p dx) (s : Sx [p] H H') : Same H0 H' := fun b o e => by
  have nb : b ∉ [p] := fun z => by rw [List.mem_singleton.mp z, h.2.1] at e; cases e
  exact s b o nb (h.same b o e)
theorem Sx.new {ms : List Addr} {H : Hp} {p : Addr} {o : HO} (h : H p = none) : Sx ms H (L2.upd H p o) := Sx.of (same_new h)
theorem Sx.at {p : Addr} {H : Hp} {o : HO} : Sx [p] H (L2.upd H p o) := Sx.upd (List.mem_singleton.mpr rfl)
theorem seqIndex_0 {n : Nat} : seqIndex? 0 (n + 1) = some 0 := by
  unfold seqIndex?
  simp
section
variable {P : Program} {w : World} {K : PySem.W.Frag} {mg : Str → Option Value} {base : Heap}
theorem ok_is_whole (T : Tx w K mg) : Cal P w K mg base 1 "is_whole" (sp_is_whole K) [] := by
  refine cal_of T.D_is_whole T.g_is_whole sc_is_whole (fun _ _ _ _ _ _ us hl => match us, hl with | [_], _ => rfl) (by walk_at "len") fun cdv A outer s H vs Q E hr h => ?_
  refine ⟨_, (pss_one (ps_ret (pe_and (pe_callB (r := rIsi K) call_isi (by rfl) T.b_isinstance (by decide +kernel) (pa_cons (pv 0) (pa_cons (pe_bltn (v := .ty "int") (by rfl) T.b_int (by decide +kernel) rfl) pa_nil))) (pe_one (pe_not (pe_callB (r := rIsi K) call_isi (by rfl) T.b_isinstance (by decide +kernel) (pa_cons (pv 0) (pa_cons (pe_bltn (v := .ty "bool") (by rfl) T.b_bool (by decide +kernel) rfl) pa_nil)))))))), ?_⟩
  obtain ⟨ms, v, d, rfl, tk, hd, k⟩ := h
  replace hd := Dp.mono same_show hd
  walk_at "rd"
  refine a_isi hd (kit_int _) ?_
  walk_at "rd"
  cases d <;> simp only [isInt, if_true, if_false, Bool.false_eq_true]
  case int =>
    refine a_isi hd (kit_bool _) ?_
    simp only [isBool]
    walk_at "rd"
    exact k _ (Same.refl _)
  case bool =>
    refine a_isi hd (kit_bool _) ?_
    simp only [isBool]
    walk_at "rd"
    exact k _ (Same.refl _)
  all_goals exact k _ (Same.refl _)
theorem ok_within (T : Tx w K mg) (F_is_whole : Cal P w K mg base 1 "is_whole" (sp_is_whole K) []) : Cal P w K mg base 2 "within" (sp_within K) [] := by
  refine cal_of T.D_within T.g_within sc_within (fun _ _ _ _ _ _ us hl => match us, hl with | [_, _, _], _ => rfl) (by walk_at "len") fun cdv A outer s H vs Q E hr h => ?_
  refine ⟨_, (pss_one (ps_ret (pe_and (pe_c F_is_whole hr (by decide) (by rfl) (pa_cons (pv 0) pa_nil)) (pe_one (pe_chain op_le op_le (pv 1) (pv 0) (pv 2)))))), ?_⟩
  obtain ⟨ms, v, d, lo, hi, rfl, tk, hd, k⟩ := h
  walk_at "rd"
  refine ⟨_, _, _, rfl, tk, hd, fun H' s1 => ?_⟩
  walk_at "rd"
  cases d <;> simp only [isWhole, if_true, if_false, Bool.false_eq_true]
  case int i =>
    cases hd
    walk_at "rd"
    have k2 := k H' s1
    simp only [within] at k2
    split
    next h1 => rw [decide_eq_true h1, Bool.true_and] at k2; exact k2
    next h1 => rw [decide_eq_false h1, Bool.false_and] at k2; exact k2
  all_goals exact k _ s1
end
end Pb

/-! PbTup -/
set_option Elab.async false
set_option linter.all false
set_option maxRecDepth 100000
set_option maxHeartbeats 4000000
/-! Pb: tuples of five -/
namespace Pb
open PySem PySem.Spec PyProof.Rows L2
theorem atI_3 {α : Type} {a b c d : α} {xs : List α} : atI (a :: b :: c :: d :: xs) 3 = some d := by
  unfold atI ixN
  rw [if_pos (by omega), if_pos (by simp only [List.length_cons]; omega)]
  rfl
theorem atI_4 {α : Type} {a b c d e : α} {xs : List α} : atI (a :: b :: c :: d :: e :: xs) 4 = some e := by
  unfold atI ixN
  rw [if_pos (by omega), if_pos (by simp only [List.length_cons]; omega)]
  rfl
theorem a_t5V {K : PySem.W.Frag} {H : Hp} {σ : L2.St} {Q : L2.St → Hp → Prop} {i j k l m : Nat} {p : Addr} {u v x z y : V} (h : SqT K H p [u, v, x, z, y]) (q : Q (((((σ.set i (some u)).set j (some v)).set k (some x)).set l (some z)).set m (some y)) H) : gT K 5 (gCons (gName i) (gCons (gName j) (gCons (gName k) (gCons (gName l) (gCons (gName m) gNil))))) (.ref p) σ H Q :=
  ⟨p, _, rfl, h, rfl, _, _, rfl, _, _, rfl, _, _, rfl, _, _, rfl, _, _, rfl, rfl, q⟩
theorem dp_t5 {K : PySem.W.Frag} {H : Hp} {y : V} {a b c d e : PyData} (h : Dp K H y (.tuple [a, b, c, d, e])) : ∃ p u v x z t, y = .ref p ∧ SqT K H p [u, v, x, z, t] ∧ Dp K H u a ∧ Dp K H v b ∧ Dp K H x c ∧ Dp K H z d ∧ Dp K H t e := by
  obtain ⟨p, ys, rfl, hys, hya⟩ := dp_tuple h
  cases hya with
  | cons h1 hya =>
    cases hya with
    | cons h2 hya =>
      cases hya with
      | cons h3 hya =>
        cases hya with
        | cons h4 hya =>
          cases hya with
          | cons h5 hya =>
            cases hya
            exact ⟨p, _, _, _, _, _, rfl, hys, h1, h2, h3, h4, h5⟩
theorem same_own {H0 H H' : Hp} {ms : List Addr} (s : Same H0 H) (sx : Sx ms H H') (n : ∀ m ∈ ms, H0 m = none) : Same H0 H' := fun b o e => sx b o (fun z => by rw [n b z] at e; cases e) (s b o e)
theorem hide_own {H0 H : Hp} {ms ks : List Addr} (s : Same H0 H) (n : ∀ k ∈ ks, H0 k = none) : Same (hide H0 ms) (hide H ks) := fun b o e => by
  obtain ⟨e1, e2⟩ := hide_of e
  rw [hide_at fun z => by rw [n b z] at e1; cases e1]
  exact s b o e1
theorem g_name {i : Nat} {v : V} {σ : L2.St} {H : Hp} {Q : L2.St → Hp → Prop} (h : Q (σ.set i (some v)) H) : gName i v σ H Q := h
/-- an if as a statement: what stands behind its test -/
theorem if_mid {t : TT} {A B : TS} {D : Ends} {σ : L2.St} {H : Hp} (mid : Bool → Hp → Prop) (h : ∀ Kx : Bool → Hp → Prop, (∀ b H', mid b H' → Kx b H') → t σ H Kx) (hT : ∀ H', mid true H' → A D σ H') (hF : ∀ H', mid false H' → B D σ H') : tIfS t A B D σ H :=
  h (fun b H1 => if b = true then A D σ H1 else B D σ H1) fun b H' m => by
    cases b with
    | true => exact hT H' m
    | false => exact hF H' m
end Pb

/-! PbIn -/
set_option Elab.async false
set_option linter.all false
set_option maxRecDepth 100000
set_option maxHeartbeats 4000000
/-! Pb: in with a tuple of data, a dict held against an empty one -/
namespace Pb
open PySem PySem.Spec PyProof.Rows L2
theorem u65 {k : Nat} {A : Around} (r : Room k A) : A.units + 65 < cLine := by have := r.un; omega
section
variable {X : Cx}
def rInT (K : PySem.W.Frag) (neg : Bool) : R2 := fun x y H Q => ∃ d ds, Dp K H x d ∧ Dp K H y (.tuple ds) ∧ SeqAt.shaped d = true ∧ SeqAt.shaped (.tuple ds) = true ∧ Q (.bl (if neg then !ds.any fun z => PyData.eqv z d else ds.any fun z => PyData.eqv z d)) H
theorem op_inT (hu : X.A.units + 65 < cLine) : OpR X (compareOp .In) (rInT X.K false) := by
  intro pins s σ H x y v u Q I rx ry h
  obtain ⟨d, ds, hd, he, sd, se, q⟩ := h
  obtain ⟨as, r1⟩ := Dp.reads I d x v hd rx
  obtain ⟨bs, r2⟩ := Dp.reads I (.tuple ds) y u he ry
  exact SeqAt.in_tuple_reads r2 r1 (SeqAt.canLay_of_shaped se) (SeqAt.canLay_of_shaped sd) (room_in_shaped sd hu) ⟨.bl _, H, I, rfl, q⟩
theorem op_notInT (hu : X.A.units + 65 < cLine) : OpR X (compareOp .NotIn) (rInT X.K true) := by
  intro pins s σ H x y v u Q I rx ry h
  obtain ⟨d, ds, hd, he, sd, se, q⟩ := h
  obtain ⟨as, r1⟩ := Dp.reads I d x v hd rx
  obtain ⟨bs, r2⟩ := Dp.reads I (.tuple ds) y u he ry
  exact SeqAt.notIn_tuple_reads r2 r1 (SeqAt.canLay_of_shaped se) (SeqAt.canLay_of_shaped sd) (room_in_shaped sd hu) ⟨.bl _, H, I, rfl, q⟩
def rEqD0 : R2 := fun x y H Q => ∃ a b ks, x = .ref a ∧ y = .ref b ∧ H a = some (.dK ks) ∧ H b = some (.dK []) ∧ Q (.bl (decide (ks = []))) H
theorem op_eqD0 (hu : X.A.units < cLine) : OpR X (compareOp .Eq) rEqD0 := by
  intro pins s σ H x y v u Q I rx ry h
  obtain ⟨a, b, ks, rfl, rfl, ea, eb, q⟩ := h
  obtain rfl : v = Value.ref a := rx
  obtain rfl : u = Value.ref b := ry
  obtain ⟨_, ya, va, ra, da⟩ := (show ObjOk X.prog X.w H s.heap a (.dK ks) from I.hok a _ ea)
  obtain ⟨_, yb, vb, rb, db⟩ := (show ObjOk X.prog X.w H s.heap b (.dK []) from I.hok b _ eb)
  have hlb : vb.length = 0 := by rw [← rb.length]; rfl
  cases ks with
  | nil => exact PySem.W.keq_eq (knd := mixKind X.prog X.w) (r := true) ya yb da db hu (fun _ => hits_all rb ra fun p hp => nomatch hp) (fin_bl I q (by rw [hlb, ← ra.length]; rfl))
  | cons k ks => exact PySem.W.keq_eq (knd := mixKind X.prog X.w) (r := true) ya yb da db hu (fun z => absurd z (by rw [hlb, ← ra.length]; simp)) (fin_bl I q (by rw [hlb, ← ra.length]; simp))
end
end Pb

/-! PbCut -/
set_option Elab.async false
set_option linter.all false
set_option maxRecDepth 100000
set_option maxHeartbeats 4000000
namespace Pb
open PySem PySem.Spec PyProof.Rows L2
open C8 (Cal Mak Met pe_c pe_mk pe_mt pe_mt0 pe_gc fnScope_by)
/-! short words -/
local macro_rules | `(tactic| walk_at "rd") => `(tactic| try simp only [tVar, tC, tAdd, tSub, t2I, tIsN, tNotN, tB, tAnd, tOr, tNot, tAndV, tOrV, tNotV, tIf, tSeq, tPar, tPar3, tNext, tBreak, tCont, tDrop, tRet, tRetN, tIfS, gName, gNil, gCons, gTup, gSub, tAsg, tAug, ipI, iList, iTup, iRng1, iRng2, iStr, iEnum, iZip,
  tOp, tUn, rI, rI0, rU, tTest, tChain, tFld, sFld, sFldAug, L2.rAdd, L2.rSub, tNil, tCons, tTup, tLst, tCall, tMeth, tMake, tCB, tNoPart, tPart, tSl, tBM0, tBM, tDGet, tDGet1, tDGet2, tDIn, tDNotIn, sDPut, tDNewK, rEq, rNe, scal_ii, scal_ss, scal_bb, scal_nn, scal_ni, scal_in, scal_ns, scal_sn, scal_is, scal_si, List.take_succ_cons, List.take_zero, List.drop_succ_cons, List.drop_zero, upd_same, upd_upd, and_assoc, tKGet, gStar, tDisp, tPairs, tYes,
  L2.start, List.map_cons, List.map_nil, List.length_cons, List.length_nil, List.cons_append, List.nil_append, List.append_nil, List.replicate, Nat.sub_self, Nat.add_sub_cancel, Nat.reduceAdd, Nat.reduceSub, List.set_cons_zero, List.set_cons_succ, List.getElem?_cons_zero, List.getElem?_cons_succ,
  Option.some.injEq, V.int.injEq, V.bl.injEq, V.str.injEq, V.ref.injEq, exists_eq_left', exists_eq_left, exists_eq', exists_eq, true_and, and_true, if_true, if_false, Bool.false_eq_true, List.cons.injEq, Bool.not_true, Bool.not_false, cxK, cxP, cxW, ite_true, ite_false, wipe, reduceCtorEq, and_self, decide_true, decide_false, exists_and_left, exists_const, decide_eq_true_eq])
local macro_rules | `(tactic| walk_at "len") => `(tactic| (intro vs H Q E h; repeat (first | (obtain ⟨e, _⟩ := h; subst e; rfl) | (obtain ⟨_, h⟩ := h))))
local macro_rules | `(tactic| walk_at "wd") => `(tactic| simp (config := {decide := true}) only [V.str.injEq, scal_ss, true_and, if_true, if_false])

/-! parts of lists of data -/
def cutL {α : Type} (xs : List α) (lo hi : Option Int) : List α := (xs.drop (HT.sIx xs.length 0 lo)).take (HT.sIx xs.length xs.length hi - HT.sIx xs.length 0 lo)
theorem cutL_map {α β : Type} (f : α → β) {xs : List α} {lo hi : Option Int} : cutL (xs.map f) lo hi = (cutL xs lo hi).map f := by
  unfold cutL
  rw [List.length_map, List.map_take, List.map_drop]
theorem cutL_to {α : Type} {xs : List α} {k : Nat} : cutL xs none (some (k : Int)) = xs.take k := by
  unfold cutL
  rw [HT.sIx_nat, HT.sIx_none, List.drop_zero, Nat.sub_zero]
  by_cases h : k ≤ xs.length
  · rw [Nat.min_eq_left h]
  · rw [Nat.min_eq_right (by omega), List.take_of_length_le (Nat.le_refl _), List.take_of_length_le (by omega)]
theorem cutL_from {α : Type} {xs : List α} {k : Nat} : cutL xs (some (k : Int)) none = xs.drop k := by
  unfold cutL
  rw [HT.sIx_nat, HT.sIx_none]
  by_cases h : k ≤ xs.length
  · rw [Nat.min_eq_left h, List.take_of_length_le (by rw [List.length_drop]; omega)]
  · rw [Nat.min_eq_right (by omega), List.drop_of_length_le (Nat.le_refl _), List.drop_of_length_le (by omega), List.take_nil]
theorem cutL_mid {α : Type} {xs : List α} {k j : Nat} : cutL xs (some (k : Int)) (some ((k + j : Nat) : Int)) = (xs.drop k).take j := by
  unfold cutL
  rw [HT.sIx_nat, HT.sIx_nat]
  by_cases h : k ≤ xs.length
  · rw [Nat.min_eq_left h]
    by_cases h2 : k + j ≤ xs.length
    · rw [Nat.min_eq_left h2, show k + j - k = j by omega]
    · rw [List.take_of_length_le (by rw [List.length_drop]; omega), List.take_of_length_le (by rw [List.length_drop]; omega)]
  · rw [Nat.min_eq_right (show xs.length ≤ k by omega), Nat.min_eq_right (show xs.length ≤ k + j by omega), List.drop_of_length_le (Nat.le_refl _), List.drop_of_length_le (show xs.length ≤ k by omega), List.take_nil, List.take_nil]
section
variable {K : PySem.W.Frag} {H : Hp} {ms : List Addr} {x y : V} {ds es : List PyData} {lo hi : Option Int} {Q : VK}
theorem DpAll.rev : ∀ {vs : List V} {ds : List PyData}, DpAll K H vs ds → DpAll K H vs.reverse ds.reverse
  | _, _, .nil => .nil
  | _, _, .cons h t => by
    rw [List.reverse_cons, List.reverse_cons]
    exact DpAll.append (DpAll.rev t) (.cons h .nil)
theorem DpAll.cut {xs : List V} (h : DpAll K H xs ds) : DpAll K H (cutV xs lo hi) (cutL ds lo hi) := by
  have e := DpAll.length h
  unfold cutV cutL
  rw [e]
  exact DpAll.take _ (DpAll.drop _ h)
theorem a_slD (tk : Tk H ms) (h : Dp K (hide H ms) x (.list ds)) (q : ∀ H' p, Same H H' → H p = none → Dp K (hide H' ms) (.ref p) (.list (cutL ds lo hi)) → Q (.ref p) H') : rSlL K x lo hi H Q := by
  obtain ⟨a, xs, rfl, hs, ha⟩ := dp_list h
  exact ⟨a, xs, rfl, sqL_same same_show hs, fun p np => q _ p (same_new np) np (.lst (.inl (.inl (new_at tk np))) (DpAll.mono (Same.hide (same_new np) ms) (DpAll.cut ha)))⟩
theorem a_slH (h : Dp K (hide H ms) x (.list ds)) (q : ∀ p vs, H p = none → DpAll K (hide H ms) vs (cutL ds lo hi) → Q (.ref p) (upd H p (.lst vs))) : rSlL K x lo hi H Q := by
  obtain ⟨a, xs, rfl, hs, ha⟩ := dp_list h
  exact ⟨a, xs, rfl, sqL_same same_show hs, fun p np => q p _ np (DpAll.cut ha)⟩
theorem a_catD (tk : Tk H ms) (h1 : Dp K (hide H ms) x (.list ds)) (h2 : Dp K (hide H ms) y (.list es)) (hz : ds.length + es.length ≤ 1000000) (q : ∀ H' p, Same H H' → H p = none → Dp K (hide H' ms) (.ref p) (.list (ds ++ es)) → Q (.ref p) H') : rCatS K x y H Q :=
  a_catH h1 h2 (by rw [sizeLine_eq]; omega) fun p ys np hys => q _ p (same_new np) np (.lst (.inl (.inl (new_at tk np))) (DpAll.mono (Same.hide (same_new np) ms) hys))
theorem a_revD {te : TE} {σ : L2.St} (h : te σ H fun x H1 => ∃ ds, Tk H1 ms ∧ Dp K (hide H1 ms) x (.list ds) ∧ ∀ H' p, Same H1 H' → H1 p = none → Dp K (hide H' ms) (.ref p) (.list ds.reverse) → Q (.ref p) H') (mono : ∀ {R S : VK}, (∀ x A, R x A → S x A) → te σ H R → te σ H S) : tRevL K te σ H Q := by
  refine mono (fun x A ⟨ds, tk, d, q⟩ => ?_) h
  obtain ⟨a, xs, rfl, hs, ha⟩ := dp_list d
  refine ⟨a, xs, rfl, sqL_same same_show hs, fun p np => q _ p (same_new np) np (.lst (.inl (.inl (new_at tk np))) (DpAll.mono (Same.hide (same_new np) ms) ?_))⟩
  exact DpAll.rev ha
theorem a_newL {vs : List V} {p : Addr} (tk : Tk H ms) (np : H p = none) (h : DpAll K (hide H ms) vs ds) : Dp K (hide (upd H p (.lst vs)) ms) (.ref p) (.list ds) := .lst (.inl (.inl (new_at tk np))) (DpAll.mono (Same.hide (same_new np) ms) h)
theorem a_newT {vs : List V} {p : Addr} (tk : Tk H ms) (np : H p = none) (h : DpAll K (hide H ms) vs ds) : Dp K (hide (upd H p (.tup vs)) ms) (.ref p) (.tuple ds) := .tup (.inl (.inl (new_at tk np))) (DpAll.mono (Same.hide (same_new np) ms) h)
end
end Pb

/-! X2 -/
set_option Elab.async false
set_option linter.all false
set_option maxRecDepth 100000
set_option maxHeartbeats 4000000
namespace Pb
open PySem PySem.Spec PyProof.Rows L2
open C8 (Cal Mak Met pe_c pe_mk pe_mt pe_mt0 pe_gc fnScope_by)
/-! short words -/
local macro_rules | `(tactic| walk_at "rd") => `(tactic| try simp only [tVar, tC, tAdd, tSub, t2I, tIsN, tNotN, tB, tAnd, tOr, tNot, tAndV, tOrV, tNotV, tIf, tSeq, tPar, tPar3, tNext, tBreak, tCont, tDrop, tRet, tRetN, tIfS, gName, gNil, gCons, gTup, gSub, tAsg, tAug, ipI, iList, iTup, iRng1, iRng2, iStr, iEnum, iZip,
  tOp, tUn, rI, rI0, rU, tTest, tChain, tFld, sFld, sFldAug, L2.rAdd, L2.rSub, tNil, tCons, tTup, tLst, tCall, tMeth, tMake, tCB, tNoPart, tPart, tSl, tBM0, tBM, tDGet, tDGet1, tDGet2, tDIn, tDNotIn, sDPut, tDNewK, rEq, rNe, scal_ii, scal_ss, scal_bb, scal_nn, scal_ni, scal_in, scal_ns, scal_sn, scal_is, scal_si, List.take_succ_cons, List.take_zero, List.drop_succ_cons, List.drop_zero, upd_same, upd_upd, and_assoc, tKGet, gStar, tDisp, tPairs, tYes,
  L2.start, List.map_cons, List.map_nil, List.length_cons, List.length_nil, List.cons_append, List.nil_append, List.append_nil, List.replicate, Nat.sub_self, Nat.add_sub_cancel, Nat.reduceAdd, Nat.reduceSub, List.set_cons_zero, List.set_cons_succ, List.getElem?_cons_zero, List.getElem?_cons_succ,
  Option.some.injEq, V.int.injEq, V.bl.injEq, V.str.injEq, V.ref.injEq, exists_eq_left', exists_eq_left, exists_eq', exists_eq, true_and, and_true, if_true, if_false, Bool.false_eq_true, List.cons.injEq, Bool.not_true, Bool.not_false, cxK, cxP, cxW, ite_true, ite_false, wipe, reduceCtorEq, and_self, decide_true, decide_false, exists_and_left, exists_const, decide_eq_true_eq])
local macro_rules | `(tactic| walk_at "len") => `(tactic| (intro vs H Q E h; repeat (first | (obtain ⟨e, _⟩ := h; subst e; rfl) | (obtain ⟨_, h⟩ := h))))
local macro_rules | `(tactic| walk_at "wd") => `(tactic| simp (config := {decide := true}) only [V.str.injEq, scal_ss, true_and, if_true, if_false])

/-! words, joins, the parts that can stand at a place -/
structure WordsOk (lo hi : Nat) (ws : List Str) : Prop where
  lo : lo ≤ ws.length
  hi : ws.length ≤ hi
  all : ∀ x ∈ ws, x ∈ c_WORDS
abbrev Join : Type := List Str × Int
def joinD (j : Join) : PyData := .tuple [.tuple (j.1.map .str), .int j.2]
def joinsD (js : List Join) : PyData := .list (js.map joinD)
def wordsD (ws : List Str) : PyData := .list (ws.map .str)
structure JoinOk (j : Join) : Prop where
  row : WordsOk 2 4 j.1
  cost : 1 ≤ j.2 ∧ j.2 ≤ 9
/-- a part: a join's count or none, how many words, the cost -/
abbrev Part : Type := Option Nat × Nat × Int
def countD : Option Nat → PyData
  | some i => .int (i : Nat)
  | none => .none
def countV : Option Nat → V
  | some i => .int (i : Nat)
  | none => .non
def partD (p : Part) : PyData := .tuple [countD p.1, .int (p.2.1 : Nat), .int p.2.2]
def joinsAt (ws : List Str) (at_ : Nat) : Nat → List Join → List Part
  | _, [] => []
  | i, j :: js => (if (ws.drop at_).take j.1.length = j.1 then [(some i, j.1.length, j.2)] else []) ++ joinsAt ws at_ (i + 1) js
def partsAt (ws : List Str) (js : List Join) (one : Int) (at_ : Nat) : List Part := (if at_ < ws.length then [(none, 1, one)] else []) ++ joinsAt ws at_ 0 js
def sp_are_words (K : PySem.W.Frag) : Sp := fun vs H Q _ => ∃ ms v ws, ∃ lo hi : Nat, vs = [v, .int lo, .int hi] ∧ Tk H ms ∧ (Dp K (hide H ms) v (.list (ws.map .str)) ∨ Dp K (hide H ms) v (.tuple (ws.map .str))) ∧ WordsOk lo hi ws ∧ hi ≤ 1000 ∧ ∀ H', Same H H' → Q (.bl true) H'
def sp_is_join (K : PySem.W.Frag) : Sp := fun vs H Q _ => ∃ ms v j, vs = [v] ∧ Tk H ms ∧ Dp K (hide H ms) v (joinD j) ∧ JoinOk j ∧ ∀ H', Same H H' → Q (.bl true) H'
def sp_parts_at (K : PySem.W.Frag) : Sp := fun vs H Q _ => ∃ ms v u ws js one, ∃ at_ : Nat, vs = [v, u, .int one, .int at_] ∧ Tk H ms ∧ Dp K (hide H ms) v (wordsD ws) ∧ Dp K (hide H ms) u (joinsD js) ∧ ws.length ≤ 1000 ∧ js.length ≤ 1000 ∧ (∀ j ∈ js, j.1.length ≤ 1000) ∧ at_ ≤ 1000 ∧ (∀ x ∈ ws, x ∈ c_WORDS) ∧ (∀ j ∈ js, ∀ x ∈ j.1, x ∈ c_WORDS) ∧
  ∀ H' q, Same H H' → H q = none → Dp K (hide H' ms) (.ref q) (.list ((partsAt ws js one at_).map partD)) → Q (.ref q) H'
def coverF (pl nl : Addr) : List (Str × V) := [("parts", .ref pl), ("numbers", .ref nl)]
def sp_Cover___init__ (K : PySem.W.Frag) : Sp := fun vs H Q _ => ∃ p dx H0 a b xs ys, vs = [.ref p, .ref a, .ref b] ∧ NewAt H0 H (He.ga K "Cover") p dx ∧ SqL K H0 a xs ∧ SqL K H0 b ys ∧
  ∀ H' pl nl, Same H0 H' → H0 pl = none → H0 nl = none → pl ≠ nl → H' p = some (.ins (He.ga K "Cover") dx (coverF pl nl)) → H' pl = some (.lst xs) → H' nl = some (.lst ys) → Q .non H'
theorem eqv_strs : ∀ a b : List Str, PyData.eqv (.tuple (a.map .str)) (.tuple (b.map .str)) = decide (a = b)
  | [], [] => by simp [PyData.eqv, PyData.eqvAll]
  | [], _ :: _ => by simp [PyData.eqv, PyData.eqvAll]
  | _ :: _, [] => by simp [PyData.eqv, PyData.eqvAll]
  | x :: a, y :: b => by
    have ih := eqv_strs a b
    simp only [PyData.eqv, PyData.eqvAll, List.map_cons, List.cons.injEq] at ih ⊢
    rw [ih]
    by_cases h1 : x = y <;> by_cases h2 : a = b <;> simp [h1, h2]
theorem joinsAt_snoc (ws : List Str) (a : Nat) (j : Join) : ∀ (js : List Join) (i : Nat), joinsAt ws a i (js ++ [j]) = joinsAt ws a i js ++ (if (ws.drop a).take j.1.length = j.1 then [(some (i + js.length), j.1.length, j.2)] else [])
  | [], i => by simp [joinsAt]
  | k :: js, i => by
    rw [List.cons_append, joinsAt, joinsAt, joinsAt_snoc ws a j js (i + 1), List.append_assoc, List.length_cons, show i + 1 + js.length = i + (js.length + 1) by omega]
theorem words_ok {x : Str} (h : x ∈ c_WORDS) : PyData.strOk x = true := by
  have k : ∀ x ∈ c_WORDS, PyData.strOk x = true := by decide +kernel
  exact k x h
theorem a_t22V {K : PySem.W.Frag} {H : Hp} {σ : L2.St} {Q : L2.St → Hp → Prop} {i j k : Nat} {p q : Addr} {u v x : V} (h : SqT K H p [u, .ref q]) (h2 : SqT K H q [v, x]) (r : Q (((σ.set i (some u)).set j (some v)).set k (some x)) H) :
    gT K 2 (gCons (gName i) (gCons (gT K 2 (gCons (gName j) (gCons (gName k) gNil))) gNil)) (.ref p) σ H Q := ⟨p, _, rfl, h, rfl, _, _, rfl, _, _, rfl, ⟨q, _, rfl, h2, rfl, _, _, rfl, _, _, rfl, rfl, rfl, r⟩⟩
section
variable {P : Program} {w : World} {K : PySem.W.Frag} {mg : Str → Option Value} {base : Heap}
theorem ok_are_words (T : Tx w K mg) : Cal P w K mg base 1 "are_words" (sp_are_words K) [] := by
  refine cal_of T.D_are_words T.g_are_words sc_are_words (fun _ _ _ _ _ _ us hl => match us, hl with | [_, _, _], _ => rfl) (by walk_at "len") fun cdv A outer s H vs Q E hr h => ?_
  refine ⟨_, (pss_one (ps_ret (pe_and (pe_chain op_le op_le (pv 1) (pe_callB (r := rLenQ K) call_lenQ (by rfl) T.b_len (by decide +kernel) (pa_cons (pv 0) pa_nil)) (pv 2)) (pe_one (pe_callB (r := rAll K) (cr_all rfl) (by rfl) T.b_all (by decide +kernel) (pa_cons (pe_lc rfl sc_are_words.nd (pi_seq (K := K) (pv 0)) (blkOk_by (own := [("word", 3)]) (N := ["thing", "least", "most", "word"]) (sc := L2.defScope s_are_words) (by decide +kernel)) (fun _ _ _ _ _ => (pg_m (pg_name (i := 3) sc_are_words.nd rfl (by first | exact Or.inl rfl | exact Or.inr rfl)))) (fun _ _ _ _ _ => pts_nilM) (fun _ _ _ _ _ => (pe_m (pe_and (pe_callB (r := rIsi K) call_isi (by rfl) T.b_isinstance (by decide +kernel) (pa_cons (pv 3) (pa_cons (pe_bltn (v := .ty "str") (by rfl) T.b_str (by decide +kernel) rfl) pa_nil))) (pe_one (pe_cmpR (r := rIn K false) op_in_seq (pv 3) (pe_gc (by rfl) T.v_WORDS) (by rfl))))))) pa_nil)))))), ?_⟩
  obtain ⟨ms, v, ws, lo, hi, rfl, tk, hd, ok, hb, k⟩ := h
  walk_at "rd"
  obtain ⟨a, rfl, hs⟩ : ∃ a, v = .ref a ∧ (SqL K H a (ws.map V.str) ∨ SqT K H a (ws.map V.str)) := by
    rcases hd with hd | hd
    · obtain ⟨a, xs, rfl, h1, h2⟩ := dp_list hd
      rw [DpAll.strs_inv h2] at h1
      exact ⟨a, rfl, .inl (sqL_same same_show h1)⟩
    · obtain ⟨a, xs, rfl, h1, h2⟩ := dp_tuple hd
      rw [DpAll.strs_inv h2] at h1
      exact ⟨a, rfl, .inr (sqT_same same_show h1)⟩
  have lenQ : ∀ {R : VK}, R (.int (ws.length : Nat)) H → rLenQ K [.ref a] H R := fun {R} q => by
    rcases hs with hs | hs
    · have e := a_lenL (K := K) (H := H) (v := .ref a) (ds := ws.map PyData.str) (.lst hs (DpAll.strs ws)) (Q := R)
      rw [List.length_map] at e
      exact e q
    · have e := a_lenT (K := K) (H := H) (v := .ref a) (ds := ws.map PyData.str) (.tup hs (DpAll.strs ws)) (Q := R)
      rw [List.length_map] at e
      exact e q
  have o1 := ok.lo
  have o2 := ok.hi
  refine lenQ ⟨_, rfl, ?_⟩
  rw [if_pos (by omega)]
  refine ⟨_, rfl, ?_⟩
  rw [if_pos (by omega)]
  refine a_lc ?_
  have fin : ∀ (J : It) (G : Hp → Prop), Walk J (ws.map V.str).length G (YAt (ws.map V.str)) → (∀ H2, Same H H2 → G H2) → ∀ D, H D = none → LcGoal (gName 3) tYes (tAndV (tCB (rIsi K) (tCons (tVar 3) (tCons (tC (V.ty "str")) tNil))) (tOp (rIn K false) (tVar 3) (tC (V.ref (He.ga K "WORDS"))))) [3] [some (V.ref a), some (V.int lo), some (V.int hi), none] J H D fun H' => rAll K [V.ref D] H' Q := by
    intro J G wk hG D hD
    refine lc_data (K := K) (ds := ws.map PyData.str) (ms := []) wk hD Tk.nil (by rw [List.length_map, sizeLine_eq]; omega) (by rw [hide_nil]; exact DpAll.strs ws) hG (fun _ => true) (fun _ => .bool true) (fun y d H4 hd4 s4 hD4 hy => ?_) (fun H4 ys s4 e4 hys => ?_)
    · obtain ⟨n, hn, rfl⟩ := List.mem_map.mp hd4
      cases hy
      walk_at "rd"
      refine ⟨fun z => z.elim, fun _ => ?_⟩
      refine a_isi (.str n) (kit_str _) ⟨_, rfl, ?_⟩
      rw [if_pos (by rfl)]
      refine a_in_strs (neg := false) (.inr (T.t_WORDS _)) ?_
      rw [if_neg (by decide), decide_eq_true (ok.all n hn)]
      exact ⟨Same.refl _, .bl true⟩
    · rw [List.filter_eq_self.mpr fun _ _ => rfl] at hys
      have e2 : (ws.map PyData.str).map (fun _ => PyData.bool true) = (ws.map fun _ => true).map PyData.bool := by rw [List.map_map, List.map_map]; rfl
      rw [e2] at hys
      refine a_all (bs := ws.map fun _ => true) (.lst (SqL.of e4) (DpAll.mono same_show hys)) ?_
      have e3 : (ws.map fun _ => true).all id = true := by simp
      rw [e3]
      exact k _ s4
  unfold iSeq
  walk_at "rd"
  rcases hs with hs | hs
  · exact .inl ⟨⟨_, hs⟩, fun D hD => fin _ _ walk_list (fun H2 s2 => sqL_same s2 hs) D hD⟩
  · exact .inr ⟨⟨_, hs⟩, fun D hD => fin _ _ walk_tup (fun H2 s2 => sqT_same s2 hs) D hD⟩
theorem ok_is_join (T : Tx w K mg) (F_are_words : Cal P w K mg base 1 "are_words" (sp_are_words K) []) (F_within : Cal P w K mg base 2 "within" (sp_within K) []) : Cal P w K mg base 3 "is_join" (sp_is_join K) [] := by
  refine cal_of T.D_is_join T.g_is_join sc_is_join (fun _ _ _ _ _ _ us hl => match us, hl with | [_], _ => rfl) (by walk_at "len") fun cdv A outer s H vs Q E hr h => ?_
  refine ⟨_, (pss_cons (ps_if (PW.pt (pw_or (pt_not (pt_val (pe_callB (r := rIsi K) call_isi (by rfl) T.b_isinstance (by decide +kernel) (pa_cons (pv 0) (pa_cons (pe_bltn (v := .ty "tuple") (by rfl) T.b_tuple (by decide +kernel) rfl) pa_nil))))) (pw_or (pt_cmpR op_ne (pe_callB (r := rLenQ K) call_lenQ (by rfl) T.b_len (by decide +kernel) (pa_cons (pv 0) pa_nil)) pe_int (nomark _)) (pw_or1 (pt_not (pt_val (pe_callB (r := rIsi K) call_isi (by rfl) T.b_isinstance (by decide +kernel) (pa_cons (pe_ix (r := rIx K) ix_seq (pv 0) pe_int (fun _ _ => rfl)) (pa_cons (pe_bltn (v := .ty "tuple") (by rfl) T.b_tuple (by decide +kernel) rfl) pa_nil))))))))) (pss_one (ps_ret pe_bl)) pss_nil)
    (pss_one (ps_ret (pe_and (pe_c F_are_words hr (by decide) (by rfl) (pa_cons (pe_ix (r := rIx K) ix_seq (pv 0) pe_int (fun _ _ => rfl)) (pa_cons pe_int (pa_cons (pe_gc (by rfl) T.v_LONGEST_JOIN) pa_nil)))) (pe_one (pe_c F_within hr (by decide) (by rfl) (pa_cons (pe_ix (r := rIx K) ix_seq (pv 0) pe_int (fun _ _ => rfl)) (pa_cons pe_int (pa_cons (pe_gc (by rfl) T.v_MOST_COST) pa_nil))))))))), ?_⟩
  obtain ⟨ms, v, j, rfl, tk, hd, ok, k⟩ := h
  walk_at "rd"
  have hd0 := Dp.mono same_show hd
  unfold joinD at hd hd0
  refine a_isi hd0 (kit_tuple _) ⟨_, rfl, ?_⟩
  rw [if_neg (by simp [isTuple])]
  refine a_lenT hd0 ⟨rfl, ?_⟩
  rw [if_neg (by simp)]
  refine a_ixT hd0 atI_0 fun u hu => ?_
  refine a_isi hu (kit_tuple _) ⟨_, rfl, ?_⟩
  rw [if_neg (by simp [isTuple])]
  refine a_ixTh hd atI_0 fun u2 hu2 => ?_
  refine ⟨ms, u2, j.1, 2, 4, rfl, tk, .inr hu2, ok.row, by decide, fun H1 s1 => ⟨_, rfl, ?_⟩⟩
  rw [if_pos rfl]
  refine a_ixTh (Dp.mono (Same.hide s1 ms) hd) atI_1 fun u3 hu3 => ?_
  refine ⟨ms, u3, _, 1, 9, rfl, tk.same s1, hu3, fun H2 s2 => ?_⟩
  have e : within (.int j.2) 1 9 = true := by
    show (decide (1 ≤ j.2) && decide (j.2 ≤ 9)) = true
    rw [decide_eq_true ok.cost.1, decide_eq_true ok.cost.2]; rfl
  rw [e]
  exact k _ (s1.trans s2)
theorem ok_parts_at (T : Tx w K mg) : Cal P w K mg base 1 "parts_at" (sp_parts_at K) [] := by
  refine cal_of T.D_parts_at T.g_parts_at sc_parts_at (fun _ _ _ _ _ _ us hl => match us, hl with | [_, _, _, _], _ => rfl) (by walk_at "len") fun cdv A outer s H vs Q E hr h => ?_
  refine ⟨_, (pss_cons (ps_set (i := 4) sc_parts_at.nd rfl (by first | exact Or.inl rfl | exact Or.inr rfl) (pe_ifExp (pt_cmpR op_lt (pv 3) (pe_callB (r := rLenQ K) call_lenQ (by rfl) T.b_len (by decide +kernel) (pa_cons (pv 0) pa_nil)) (nomark _)) (pe_lst (pa_cons (pe_tup (pa_cons pe_non (pa_cons pe_int (pa_cons (pv 2) pa_nil)))) pa_nil)) (pe_lst pa_nil)))
    (pss_cons (ps_for PassesOwn.never rfl (pi_enum (by rfl) T.b_enumerate (pa_cons (pv 1) pa_nil)) (pg_tupK (K := K) (n := 2) rfl (pgs_cons (pg_name (i := 5) sc_parts_at.nd rfl (by first | exact Or.inl rfl | exact Or.inr rfl)) (pgs_cons (pg_tupK (K := K) (n := 2) rfl (pgs_cons (pg_name (i := 6) sc_parts_at.nd rfl (by first | exact Or.inl rfl | exact Or.inr rfl)) (pgs_cons (pg_name (i := 7) sc_parts_at.nd rfl (by first | exact Or.inl rfl | exact Or.inr rfl)) pgs_nil))) pgs_nil))) (pss_one (ps_if (pt_cmpR (r := rEqD K) (op_eqD hr.units) (pe_callTy (r := rTupOf K) call_tupOf (by rfl) T.b_tuple (by decide +kernel) (pa_cons (pe_slice (r := rSlL K) sl_list (pv 0) (po_some (pv 3)) (po_some (pe_op op_add (pv 3) (pe_callB (r := rLenQ K) call_lenQ (by rfl) T.b_len (by decide +kernel) (pa_cons (pv 6) pa_nil))))) pa_nil)) (pv 6) (nomark _)) (pss_one (ps_expr (pe_bm PySem.F.plainAttrs_list PySem.F.slot_list_append PySem.F.type_list_append mt_append (pv 4) (pa_cons (pe_tup (pa_cons (pv 5) (pa_cons (pe_callB (r := rLenQ K) call_lenQ (by rfl) T.b_len (by decide +kernel) (pa_cons (pv 6) pa_nil)) (pa_cons (pv 7) pa_nil)))) pa_nil)))) pss_nil)))
    (pss_one (ps_ret (pv 4))))), ?_⟩
  obtain ⟨ms, v, u, ws, js, one, at_, rfl, tk, hv, hu, l1, l2, l3, l4, g1, g2, k⟩ := h
  walk_at "rd"
  have hv0 := Dp.mono same_show hv
  refine a_lenL hv0 ⟨_, rfl, ?_⟩
  rw [List.length_map]
  obtain ⟨wa, xs, rfl, hwl, hwa⟩ := dp_list hv
  have e := DpAll.strs_inv hwa
  subst e
  obtain ⟨ja, jx, rfl, hjl, hja⟩ := dp_list hu
  have hjlen := DpAll.length hja
  rw [List.length_map] at hjlen
  have loop : ∀ (H1 : Hp) (f : Addr) (xs0 : List V) (base : List Part), Same H H1 → H f = none → H1 f = some (.lst xs0) → base.length ≤ 1 → base = (if at_ < ws.length then [(none, 1, one)] else []) → DpAll K (hide H1 (f :: ms)) xs0 (base.map partD) →
      tFor (iEnum K (tCons (tVar 1) tNil)) (gT K 2 (gCons (gName 5) (gCons (gT K 2 (gCons (gName 6) (gCons (gName 7) gNil))) gNil)))
        (tIfS (tTest (tOp (rEqD K) (tCB (rTupOf K) (tCons (tSl (rSlL K) (tVar 0) (tPart (tVar 3)) (tPart (tOp (rI0 fun i j => V.int (i + j)) (tVar 3) (tCB (rLenQ K) (tCons (tVar 6) tNil))))) tNil)) (tVar 6)))
          (tDrop (tBM K "list" rAppend (tVar 4) (tCons (tTup (tCons (tVar 5) (tCons (tCB (rLenQ K) (tCons (tVar 6) tNil)) (tCons (tVar 7) tNil)))) tNil))) tNext)
        { nx := tRet (tVar 4) { nx := fun x H' => Q V.non H', rt := Q }, rt := Q } [some (V.ref wa), some (V.ref ja), some (V.int one), some (V.int at_), some (V.ref f), none, none, none] H1 := by
    intro H1 f xs0 base s1 nf hf hb eb hd0
    refine a_for ?_
    walk_at "rd"
    refine ⟨_, sqL_same (same_show.trans s1) hjl, ?_⟩
    refine for_go2 (walk_enum (xs := jx)) (fun i σ Hx => ∃ o5 o6 o7 ys, σ = [some (V.ref wa), some (V.ref ja), some (V.int one), some (V.int at_), some (V.ref f), o5, o6, o7] ∧ Same H Hx ∧ Hx f = some (.lst ys) ∧ ys.length ≤ 1 + i ∧ DpAll K (hide Hx (f :: ms)) ys ((base ++ joinsAt ws at_ 0 (js.take i)).map partD)) ⟨_, _, _, xs0, rfl, s1, hf, ?_, ?_⟩ (fun i σ Hx _ z => by
      obtain ⟨_, _, _, _, _, z, _⟩ := z
      exact sqL_same (same_show.trans z) hjl) ?_ ?_
    · have := DpAll.length hd0
      rw [List.length_map] at this
      omega
    · rw [List.take_zero]
      simpa [joinsAt] using hd0
    · rintro Pw yes i y σ Hx Hx' hi ⟨o5, o6, o7, ys, rfl, sx, hfx, hly, hdy⟩ yy
      obtain ⟨p3, y1, y2, rfl, hp3, rfl, ey1, ey2⟩ := yy
      cases ey1
      rw [hjlen] at hi
      replace ey2 : jx[i]? = some y2 := ey2
      obtain ⟨d, ed, hdj⟩ := DpAll.at hja ey2
      rw [List.getElem?_map, List.getElem?_eq_getElem hi] at ed
      cases ed
      have hjm := List.getElem_mem hi
      have htk : js.take (i + 1) = js.take i ++ [js[i]] := by rw [List.take_succ, List.getElem?_eq_getElem hi]; rfl
      have htl : (js.take i).length = i := by rw [List.length_take]; omega
      generalize js[i] = j at *
      obtain ⟨q, u1, u2, rfl, hq, d1, d2⟩ := dp_t2 hdj
      cases d2
      obtain ⟨q1, r1, rfl, hq1, hr1⟩ := dp_tuple d1
      have e1 := DpAll.strs_inv hr1
      subst e1
      have sxp := same_new (o := HO.tup [V.int (i : Nat), V.ref q]) hp3
      refine a_t22V (.inl (.inl upd_same)) (sqT_same (same_show.trans (sx.trans sxp)) hq) ?_
      have nfp : f ≠ p3 := fun z => by rw [z, hp3] at hfx; cases hfx
      have hfx2 : upd Hx p3 (HO.tup [V.int (i : Nat), V.ref q]) f = some (.lst ys) := (upd_ne nfp).trans hfx
      have hdy2 := DpAll.mono (Same.hide sxp (f :: ms)) hdy
      have sx2 := sx.trans sxp
      generalize upd Hx p3 (HO.tup [V.int (i : Nat), V.ref q]) = Hy at *
      clear hp3 hfx hdy sx sxp
      walk_at "rd"
      have hq1y : SqT K Hy q1 (j.1.map V.str) := sqT_same (same_show.trans sx2) hq1
      have lenT : ∀ {R : VK} {A : Hp}, SqT K A q1 (j.1.map V.str) → R (.int (j.1.length : Nat)) A → rLenQ K [.ref q1] A R := fun {R A} z q => by
        have e := a_lenT (K := K) (H := A) (v := .ref q1) (ds := j.1.map PyData.str) (.tup z (DpAll.strs _)) (Q := R)
        rw [List.length_map] at e
        exact e q
      refine lenT hq1y ⟨_, rfl, ?_⟩
      refine ⟨wa, _, rfl, sqL_same (same_show.trans sx2) hwl, fun s hs => ?_⟩
      have ecut : cutV (ws.map V.str) (some (at_ : Int)) (some ((at_ : Int) + ((j.1.length : Nat) : Int))) = ((ws.drop at_).take j.1.length).map V.str := by
        have e : cutV (ws.map V.str) (some (at_ : Int)) (some (((at_ + j.1.length : Nat)) : Int)) = ((ws.map V.str).drop at_).take j.1.length := cutL_mid
        rw [List.map_take, List.map_drop, ← e, Int.natCast_add]
      rw [ecut]
      refine ⟨s, _, rfl, .inl ⟨SqL.of upd_same, fun l hl => ?_⟩⟩
      have ss := same_new (o := HO.lst (((ws.drop at_).take j.1.length).map V.str)) hs
      have sl := same_new (o := HO.tup (((ws.drop at_).take j.1.length).map V.str)) hl
      have esl : upd (upd Hy s (HO.lst (((ws.drop at_).take j.1.length).map V.str))) l (HO.tup (((ws.drop at_).take j.1.length).map V.str)) l = some (.tup (((ws.drop at_).take j.1.length).map V.str)) := upd_same
      have sx3 := sx2.trans (ss.trans sl)
      have hfx3 := (ss.trans sl) _ _ hfx2
      have hdy3 := DpAll.mono (Same.hide (ss.trans sl) (f :: ms)) hdy2
      have hq1z := sqT_same (ss.trans sl) hq1y
      generalize upd (upd Hy s (HO.lst (((ws.drop at_).take j.1.length).map V.str))) l (HO.tup (((ws.drop at_).take j.1.length).map V.str)) = Hz at *
      clear hs hl ss sl hfx2 hdy2
      have shp : ∀ xs : List Str, (∀ x ∈ xs, x ∈ c_WORDS) → SeqAt.shaped (.tuple (xs.map PyData.str)) = true := fun xs hx => shaped_of (n := 1) (shp_tup fun d hd => by
        obtain ⟨y, hy, e⟩ := List.mem_map.mp hd
        rw [← e]
        exact shp_str (words_ok (hx y hy))) (by decide)
      refine a_eqD (d := .tuple (((ws.drop at_).take j.1.length).map PyData.str)) (e := .tuple (j.1.map PyData.str)) (.tup (.inl (.inl esl)) (DpAll.strs _)) (.tup hq1z (DpAll.strs _)) (shp _ fun x hx => g1 x (List.mem_of_mem_drop (List.mem_of_mem_take hx))) (shp _ (g2 j hjm)) ⟨_, rfl, ?_⟩
      rw [eqv_strs]
      have next : joinsAt ws at_ 0 (js.take (i + 1)) = joinsAt ws at_ 0 (js.take i) ++ (if (ws.drop at_).take j.1.length = j.1 then [(some i, j.1.length, j.2)] else []) := by
        rw [htk, joinsAt_snoc, htl, Nat.zero_add]
      by_cases hc : (ws.drop at_).take j.1.length = j.1
      · rw [if_pos (decide_eq_true hc)]
        refine ⟨.inl ⟨rfl, _, SqL.of hfx3⟩, lenT hq1z ⟨by decide, fun t ht => ?_⟩⟩
        have ntf : f ≠ t := fun z => by rw [← z, hfx3] at ht; cases ht
        have st := same_new (o := HO.tup [V.int (i : Nat), V.int (j.1.length : Nat), V.int j.2]) ht
        refine ⟨f, ys, _, rfl, rfl, st _ _ hfx3, by rw [sizeLine_eq]; omega, yes _ _ _ ⟨_, _, _, ys ++ [.ref t], rfl, fun b o e => ?_, upd_same, by rw [List.length_append, List.length_singleton]; omega, ?_⟩⟩
        · have e1 := st _ _ (sx3 _ _ e)
          rw [upd_ne fun z => by rw [z, nf] at e; cases e]
          exact e1
        · rw [next, if_pos hc, ← List.append_assoc, List.map_append, hide_upd (by simp)]
          have nm : t ∉ f :: ms := fun z => (List.mem_cons.mp z).elim (fun z => ntf z.symm) fun z => (tk.same sx3) t z ht
          refine DpAll.append (DpAll.mono (Same.hide st (f :: ms)) hdy3) (DpAll.one (.tup (.inl (.inl ?_)) (.cons (.int _) (.cons (.int _) (.cons (.int _) .nil)))))
          rw [hide_at nm, upd_same]
      · rw [if_neg (by rw [decide_eq_false hc]; decide)]
        refine yes _ _ _ ⟨_, _, _, ys, rfl, sx3, hfx3, by omega, ?_⟩
        rw [next, if_neg hc, List.append_nil]
        exact hdy3
    · rintro σ Hx ⟨o5, o6, o7, ys, rfl, sx, hfx, hly, hdy⟩
      walk_at "rd"
      rw [hjlen, List.take_length] at hdy
      have ep : base ++ joinsAt ws at_ 0 js = partsAt ws js one at_ := by rw [eb]; rfl
      rw [ep] at hdy
      have nm : f ∉ ms := fun z => tk f z nf
      refine k _ f sx nf (.lst (xs := ys) (.inl (.inl ?_)) (DpAll.mono (fun b o e => ?_) hdy))
      · rw [hide_at nm]
        exact hfx
      · obtain ⟨e1, e2⟩ := hide_of e
        rw [hide_at fun z => e2 (.tail _ z)]
        exact e1
  by_cases hat : at_ < ws.length
  · rw [if_pos (by omega)]
    refine ⟨by decide, fun p hp => ⟨by decide, fun f hf => ?_⟩⟩
    have npf : f ≠ p := fun z => by rw [z, upd_same] at hf; cases hf
    have hf0 : H f = none := (upd_ne npf).symm.trans hf
    have sp := same_new (o := HO.tup [V.non, V.int 1, V.int one]) hp
    refine loop _ f [.ref p] [(none, 1, one)] (sp.trans (same_new hf)) hf0 upd_same (Nat.le_refl _) (by rw [if_pos hat]) ?_
    have ep : upd (upd H p (HO.tup [V.non, V.int 1, V.int one])) f (HO.lst [V.ref p]) p = some (.tup [V.non, V.int 1, V.int one]) := by rw [upd_ne (Ne.symm npf), upd_same]
    refine DpAll.one (.tup (.inl (.inl ?_)) (.cons .non (.cons (.int 1) (.cons (.int one) .nil))))
    have nm : p ∉ f :: ms := fun z => (List.mem_cons.mp z).elim (fun z => npf z.symm) fun z => tk p z hp
    rw [hide_at nm]
    exact ep
  · rw [if_neg (by omega)]
    refine ⟨by decide, fun f hf => ?_⟩
    exact loop _ f [] [] (same_new hf) hf upd_same (by decide) (by rw [if_neg hat]) .nil
theorem ok_Cover_init (T : Tx w K mg) : Mak P w K mg base 1 "Cover" (He.ga K "Cover") (sp_Cover___init__ K) [] := by
  refine mak_of T.mk_Cover T.g_Cover T.D_Cover___init__ sc_Cover___init__ (fun _ _ _ _ _ _ us hl => match us, hl with | [_, _, _], _ => rfl) (by walk_at "len") fun cdv A outer s H vs Q E hr h => ?_
  refine ⟨_, (pss_cons (ps_fld (pv 0) (pe_callTy (r := rListOf K) call_listOf (by rfl) T.b_list (by decide +kernel) (pa_cons (pv 1) pa_nil)) rfl)
    (pss_one (ps_fld (pv 0) (pe_callTy (r := rListOf K) call_listOf (by rfl) T.b_list (by decide +kernel) (pa_cons (pv 2) pa_nil)) rfl))), ?_⟩
  obtain ⟨p, dx, H0, a, b, xs, ys, rfl, hn, ha, hb, k⟩ := h
  walk_at "rd"
  refine ⟨a, _, rfl, .inl (sqL_same hn.same ha), fun l hl => ?_⟩
  have hp1 := keep_at (u := HO.lst xs) hn.at hl
  have nlp : l ≠ p := fun z => by rw [z, hn.at] at hl; cases hl
  have hl0 := hn.same.free hl
  refine ⟨_, _, _, hp1, T.c_Cover, T.n_Cover_parts, by show 0 < 1000; decide, ?_⟩
  have s1 : Same H0 (upd (upd H l (.lst xs)) p (.ins (He.ga K "Cover") dx (putF "parts" (.ref l) []))) := hn.keep ((Sx.new hl).trans Sx.at)
  have el : upd (upd H l (.lst xs)) p (.ins (He.ga K "Cover") dx (putF "parts" (.ref l) [])) l = some (.lst xs) := by rw [upd_ne nlp, upd_same]
  have ep : upd (upd H l (.lst xs)) p (.ins (He.ga K "Cover") dx (putF "parts" (.ref l) [])) p = some (.ins (He.ga K "Cover") dx (putF "parts" (.ref l) [])) := upd_same
  refine ⟨b, _, rfl, .inl (sqL_same s1 hb), fun l2 hl2 => ⟨_, _, _, keep_at ep hl2, T.c_Cover, T.n_Cover_numbers, by show 1 < 1000; decide, ?_⟩⟩
  have n12 : l ≠ l2 := ne_of_none el hl2
  have n2p : l2 ≠ p := (ne_of_none ep hl2).symm
  refine k _ l l2 (fun c o e => ?_) hl0 (s1.free hl2) n12 (upd_same.trans rfl) ?_ ?_
  · rw [upd_ne (ne_of_none e hn.2.1), upd_ne (ne_of_none (s1 _ _ e) hl2)]
    exact s1 _ _ e
  · rw [upd_ne nlp, upd_ne n12, el]
  · rw [upd_ne n2p, upd_same]
end
end Pb

/-! V2 -/
set_option Elab.async false
set_option linter.all false
set_option maxRecDepth 100000
set_option maxHeartbeats 4000000
namespace Pb
open PySem PySem.Spec PyProof.Rows L2
open C8 (Cal Mak Met pe_c pe_mk pe_mt pe_mt0 pe_gc fnScope_by)
/-! short words -/
local macro_rules | `(tactic| walk_at "rd") => `(tactic| try simp only [tVar, tC, tAdd, tSub, t2I, tIsN, tNotN, tB, tAnd, tOr, tNot, tAndV, tOrV, tNotV, tIf, tSeq, tPar, tPar3, tNext, tBreak, tCont, tDrop, tRet, tRetN, tIfS, gName, gNil, gCons, gTup, gSub, tAsg, tAug, ipI, iList, iTup, iRng1, iRng2, iStr, iEnum, iZip,
  tOp, tUn, rI, rI0, rU, tTest, tChain, tFld, sFld, sFldAug, L2.rAdd, L2.rSub, tNil, tCons, tTup, tLst, tCall, tMeth, tMake, tCB, tNoPart, tPart, tSl, tBM0, tBM, tDGet, tDGet1, tDGet2, tDIn, tDNotIn, sDPut, tDNewK, rEq, rNe, scal_ii, scal_ss, scal_bb, scal_nn, scal_ni, scal_in, scal_ns, scal_sn, scal_is, scal_si, List.take_succ_cons, List.take_zero, List.drop_succ_cons, List.drop_zero, upd_same, upd_upd, and_assoc, tKGet, gStar, tDisp, tPairs, tYes,
  L2.start, List.map_cons, List.map_nil, List.length_cons, List.length_nil, List.cons_append, List.nil_append, List.append_nil, List.replicate, Nat.sub_self, Nat.add_sub_cancel, Nat.reduceAdd, Nat.reduceSub, List.set_cons_zero, List.set_cons_succ, List.getElem?_cons_zero, List.getElem?_cons_succ,
  Option.some.injEq, V.int.injEq, V.bl.injEq, V.str.injEq, V.ref.injEq, exists_eq_left', exists_eq_left, exists_eq', exists_eq, true_and, and_true, if_true, if_false, Bool.false_eq_true, List.cons.injEq, Bool.not_true, Bool.not_false, cxK, cxP, cxW, ite_true, ite_false, wipe, reduceCtorEq, and_self, decide_true, decide_false, exists_and_left, exists_const, decide_eq_true_eq])
local macro_rules | `(tactic| walk_at "len") => `(tactic| (intro vs H Q E h; repeat (first | (obtain ⟨e, _⟩ := h; subst e; rfl) | (obtain ⟨_, h⟩ := h))))
local macro_rules | `(tactic| walk_at "wd") => `(tactic| simp (config := {decide := true}) only [V.str.injEq, scal_ss, true_and, if_true, if_false])

/-! the law's own parts (k04) -/
def partsL (ws : List Str) (js : List Join) (one : Int) (at_ : Nat) : List Part := (none, 1, one) :: joinsAt ws at_ 0 js
theorem partsL_in {ws : List Str} {js : List Join} {one : Int} {a : Nat} (h : a < ws.length) : partsL ws js one a = partsAt ws js one a := by
  unfold partsL partsAt
  rw [if_pos h]
  rfl
def sp__law_parts (K : PySem.W.Frag) : Sp := fun vs H Q _ => ∃ ms v u ws js one, ∃ at_ : Nat, vs = [v, u, .int one, .int at_] ∧ Tk H ms ∧ Dp K (hide H ms) v (wordsD ws) ∧ Dp K (hide H ms) u (joinsD js) ∧ ws.length ≤ 1000 ∧ js.length ≤ 1000 ∧ (∀ j ∈ js, j.1.length ≤ 1000) ∧ at_ ≤ 1000 ∧ (∀ x ∈ ws, x ∈ c_WORDS) ∧ (∀ j ∈ js, ∀ x ∈ j.1, x ∈ c_WORDS) ∧
  ∀ H' q, Same H H' → H q = none → Dp K (hide H' ms) (.ref q) (.list ((partsL ws js one at_).map partD)) → Q (.ref q) H'
section
variable {P : Program} {w : World} {K : PySem.W.Frag} {mg : Str → Option Value} {base : Heap}
theorem ok_law_parts (T : Tx w K mg) : Cal P w K mg base 1 "_law_parts" (sp__law_parts K) [] := by
  refine cal_of T.D__law_parts T.g__law_parts sc__law_parts (fun _ _ _ _ _ _ us hl => match us, hl with | [_, _, _, _], _ => rfl) (by walk_at "len") fun cdv A outer s H vs Q E hr h => ?_
  refine ⟨_, (pss_cons (ps_set (i := 4) sc__law_parts.nd rfl (by first | exact Or.inl rfl | exact Or.inr rfl) (pe_lst (pa_cons (pe_tup (pa_cons pe_non (pa_cons pe_int (pa_cons (pv 2) pa_nil)))) pa_nil)))
    (pss_cons (ps_for PassesOwn.never rfl (pi_enum (by rfl) T.b_enumerate (pa_cons (pv 1) pa_nil)) (pg_tupK (K := K) (n := 2) rfl (pgs_cons (pg_name (i := 5) sc__law_parts.nd rfl (by first | exact Or.inl rfl | exact Or.inr rfl)) (pgs_cons (pg_tupK (K := K) (n := 2) rfl (pgs_cons (pg_name (i := 6) sc__law_parts.nd rfl (by first | exact Or.inl rfl | exact Or.inr rfl)) (pgs_cons (pg_name (i := 7) sc__law_parts.nd rfl (by first | exact Or.inl rfl | exact Or.inr rfl)) pgs_nil))) pgs_nil))) (pss_one (ps_if (pt_cmpR (r := rEqD K) (op_eqD hr.units) (pe_callTy (r := rTupOf K) call_tupOf (by rfl) T.b_tuple (by decide +kernel) (pa_cons (pe_slice (r := rSlL K) sl_list (pv 0) (po_some (pv 3)) (po_some (pe_op op_add (pv 3) (pe_callB (r := rLenQ K) call_lenQ (by rfl) T.b_len (by decide +kernel) (pa_cons (pv 6) pa_nil))))) pa_nil)) (pv 6) (nomark _)) (pss_one (ps_expr (pe_bm PySem.F.plainAttrs_list PySem.F.slot_list_append PySem.F.type_list_append mt_append (pv 4) (pa_cons (pe_tup (pa_cons (pv 5) (pa_cons (pe_callB (r := rLenQ K) call_lenQ (by rfl) T.b_len (by decide +kernel) (pa_cons (pv 6) pa_nil)) (pa_cons (pv 7) pa_nil)))) pa_nil)))) pss_nil)))
    (pss_one (ps_ret (pv 4))))), ?_⟩
  obtain ⟨ms, v, u, ws, js, one, at_, rfl, tk, hv, hu, l1, l2, l3, l4, g1, g2, k⟩ := h
  walk_at "rd"
  have hv0 := Dp.mono same_show hv
  obtain ⟨wa, xs, rfl, hwl, hwa⟩ := dp_list hv
  have e := DpAll.strs_inv hwa
  subst e
  obtain ⟨ja, jx, rfl, hjl, hja⟩ := dp_list hu
  have hjlen := DpAll.length hja
  rw [List.length_map] at hjlen
  have loop : ∀ (H1 : Hp) (f : Addr) (xs0 : List V) (base : List Part), Same H H1 → H f = none → H1 f = some (.lst xs0) → base.length ≤ 1 → base = [(none, 1, one)] → DpAll K (hide H1 (f :: ms)) xs0 (base.map partD) →
      tFor (iEnum K (tCons (tVar 1) tNil)) (gT K 2 (gCons (gName 5) (gCons (gT K 2 (gCons (gName 6) (gCons (gName 7) gNil))) gNil)))
        (tIfS (tTest (tOp (rEqD K) (tCB (rTupOf K) (tCons (tSl (rSlL K) (tVar 0) (tPart (tVar 3)) (tPart (tOp (rI0 fun i j => V.int (i + j)) (tVar 3) (tCB (rLenQ K) (tCons (tVar 6) tNil))))) tNil)) (tVar 6)))
          (tDrop (tBM K "list" rAppend (tVar 4) (tCons (tTup (tCons (tVar 5) (tCons (tCB (rLenQ K) (tCons (tVar 6) tNil)) (tCons (tVar 7) tNil)))) tNil))) tNext)
        { nx := tRet (tVar 4) { nx := fun x H' => Q V.non H', rt := Q }, rt := Q } [some (V.ref wa), some (V.ref ja), some (V.int one), some (V.int at_), some (V.ref f), none, none, none] H1 := by
    intro H1 f xs0 base s1 nf hf hb eb hd0
    refine a_for ?_
    walk_at "rd"
    refine ⟨_, sqL_same (same_show.trans s1) hjl, ?_⟩
    refine for_go2 (walk_enum (xs := jx)) (fun i σ Hx => ∃ o5 o6 o7 ys, σ = [some (V.ref wa), some (V.ref ja), some (V.int one), some (V.int at_), some (V.ref f), o5, o6, o7] ∧ Same H Hx ∧ Hx f = some (.lst ys) ∧ ys.length ≤ 1 + i ∧ DpAll K (hide Hx (f :: ms)) ys ((base ++ joinsAt ws at_ 0 (js.take i)).map partD)) ⟨_, _, _, xs0, rfl, s1, hf, ?_, ?_⟩ (fun i σ Hx _ z => by
      obtain ⟨_, _, _, _, _, z, _⟩ := z
      exact sqL_same (same_show.trans z) hjl) ?_ ?_
    · have := DpAll.length hd0
      rw [List.length_map] at this
      omega
    · rw [List.take_zero]
      simpa [joinsAt] using hd0
    · rintro Pw yes i y σ Hx Hx' hi ⟨o5, o6, o7, ys, rfl, sx, hfx, hly, hdy⟩ yy
      obtain ⟨p3, y1, y2, rfl, hp3, rfl, ey1, ey2⟩ := yy
      cases ey1
      rw [hjlen] at hi
      replace ey2 : jx[i]? = some y2 := ey2
      obtain ⟨d, ed, hdj⟩ := DpAll.at hja ey2
      rw [List.getElem?_map, List.getElem?_eq_getElem hi] at ed
      cases ed
      have hjm := List.getElem_mem hi
      have htk : js.take (i + 1) = js.take i ++ [js[i]] := by rw [List.take_succ, List.getElem?_eq_getElem hi]; rfl
      have htl : (js.take i).length = i := by rw [List.length_take]; omega
      generalize js[i] = j at *
      obtain ⟨q, u1, u2, rfl, hq, d1, d2⟩ := dp_t2 hdj
      cases d2
      obtain ⟨q1, r1, rfl, hq1, hr1⟩ := dp_tuple d1
      have e1 := DpAll.strs_inv hr1
      subst e1
      have sxp := same_new (o := HO.tup [V.int (i : Nat), V.ref q]) hp3
      refine a_t22V (.inl (.inl upd_same)) (sqT_same (same_show.trans (sx.trans sxp)) hq) ?_
      have nfp : f ≠ p3 := fun z => by rw [z, hp3] at hfx; cases hfx
      have hfx2 : upd Hx p3 (HO.tup [V.int (i : Nat), V.ref q]) f = some (.lst ys) := (upd_ne nfp).trans hfx
      have hdy2 := DpAll.mono (Same.hide sxp (f :: ms)) hdy
      have sx2 := sx.trans sxp
      generalize upd Hx p3 (HO.tup [V.int (i : Nat), V.ref q]) = Hy at *
      clear hp3 hfx hdy sx sxp
      walk_at "rd"
      have hq1y : SqT K Hy q1 (j.1.map V.str) := sqT_same (same_show.trans sx2) hq1
      have lenT : ∀ {R : VK} {A : Hp}, SqT K A q1 (j.1.map V.str) → R (.int (j.1.length : Nat)) A → rLenQ K [.ref q1] A R := fun {R A} z q => by
        have e := a_lenT (K := K) (H := A) (v := .ref q1) (ds := j.1.map PyData.str) (.tup z (DpAll.strs _)) (Q := R)
        rw [List.length_map] at e
        exact e q
      refine lenT hq1y ⟨_, rfl, ?_⟩
      refine ⟨wa, _, rfl, sqL_same (same_show.trans sx2) hwl, fun s hs => ?_⟩
      have ecut : cutV (ws.map V.str) (some (at_ : Int)) (some ((at_ : Int) + ((j.1.length : Nat) : Int))) = ((ws.drop at_).take j.1.length).map V.str := by
        have e : cutV (ws.map V.str) (some (at_ : Int)) (some (((at_ + j.1.length : Nat)) : Int)) = ((ws.map V.str).drop at_).take j.1.length := cutL_mid
        rw [List.map_take, List.map_drop, ← e, Int.natCast_add]
      rw [ecut]
      refine ⟨s, _, rfl, .inl ⟨SqL.of upd_same, fun l hl => ?_⟩⟩
      have ss := same_new (o := HO.lst (((ws.drop at_).take j.1.length).map V.str)) hs
      have sl := same_new (o := HO.tup (((ws.drop at_).take j.1.length).map V.str)) hl
      have esl : upd (upd Hy s (HO.lst (((ws.drop at_).take j.1.length).map V.str))) l (HO.tup (((ws.drop at_).take j.1.length).map V.str)) l = some (.tup (((ws.drop at_).take j.1.length).map V.str)) := upd_same
      have sx3 := sx2.trans (ss.trans sl)
      have hfx3 := (ss.trans sl) _ _ hfx2
      have hdy3 := DpAll.mono (Same.hide (ss.trans sl) (f :: ms)) hdy2
      have hq1z := sqT_same (ss.trans sl) hq1y
      generalize upd (upd Hy s (HO.lst (((ws.drop at_).take j.1.length).map V.str))) l (HO.tup (((ws.drop at_).take j.1.length).map V.str)) = Hz at *
      clear hs hl ss sl hfx2 hdy2
      have shp : ∀ xs : List Str, (∀ x ∈ xs, x ∈ c_WORDS) → SeqAt.shaped (.tuple (xs.map PyData.str)) = true := fun xs hx => shaped_of (n := 1) (shp_tup fun d hd => by
        obtain ⟨y, hy, e⟩ := List.mem_map.mp hd
        rw [← e]
        exact shp_str (words_ok (hx y hy))) (by decide)
      refine a_eqD (d := .tuple (((ws.drop at_).take j.1.length).map PyData.str)) (e := .tuple (j.1.map PyData.str)) (.tup (.inl (.inl esl)) (DpAll.strs _)) (.tup hq1z (DpAll.strs _)) (shp _ fun x hx => g1 x (List.mem_of_mem_drop (List.mem_of_mem_take hx))) (shp _ (g2 j hjm)) ⟨_, rfl, ?_⟩
      rw [eqv_strs]
      have next : joinsAt ws at_ 0 (js.take (i + 1)) = joinsAt ws at_ 0 (js.take i) ++ (if (ws.drop at_).take j.1.length = j.1 then [(some i, j.1.length, j.2)] else []) := by
        rw [htk, joinsAt_snoc, htl, Nat.zero_add]
      by_cases hc : (ws.drop at_).take j.1.length = j.1
      · rw [if_pos (decide_eq_true hc)]
        refine ⟨.inl ⟨rfl, _, SqL.of hfx3⟩, lenT hq1z ⟨by decide, fun t ht => ?_⟩⟩
        have ntf : f ≠ t := fun z => by rw [← z, hfx3] at ht; cases ht
        have st := same_new (o := HO.tup [V.int (i : Nat), V.int (j.1.length : Nat), V.int j.2]) ht
        refine ⟨f, ys, _, rfl, rfl, st _ _ hfx3, by rw [sizeLine_eq]; omega, yes _ _ _ ⟨_, _, _, ys ++ [.ref t], rfl, fun b o e => ?_, upd_same, by rw [List.length_append, List.length_singleton]; omega, ?_⟩⟩
        · have e1 := st _ _ (sx3 _ _ e)
          rw [upd_ne fun z => by rw [z, nf] at e; cases e]
          exact e1
        · rw [next, if_pos hc, ← List.append_assoc, List.map_append, hide_upd (by simp)]
          have nm : t ∉ f :: ms := fun z => (List.mem_cons.mp z).elim (fun z => ntf z.symm) fun z => (tk.same sx3) t z ht
          refine DpAll.append (DpAll.mono (Same.hide st (f :: ms)) hdy3) (DpAll.one (.tup (.inl (.inl ?_)) (.cons (.int _) (.cons (.int _) (.cons (.int _) .nil)))))
          rw [hide_at nm, upd_same]
      · rw [if_neg (by rw [decide_eq_false hc]; decide)]
        refine yes _ _ _ ⟨_, _, _, ys, rfl, sx3, hfx3, by omega, ?_⟩
        rw [next, if_neg hc, List.append_nil]
        exact hdy3
    · rintro σ Hx ⟨o5, o6, o7, ys, rfl, sx, hfx, hly, hdy⟩
      walk_at "rd"
      rw [hjlen, List.take_length] at hdy
      have ep : base ++ joinsAt ws at_ 0 js = partsL ws js one at_ := by rw [eb]; rfl
      rw [ep] at hdy
      have nm : f ∉ ms := fun z => tk f z nf
      refine k _ f sx nf (.lst (xs := ys) (.inl (.inl ?_)) (DpAll.mono (fun b o e => ?_) hdy))
      · rw [hide_at nm]
        exact hfx
      · obtain ⟨e1, e2⟩ := hide_of e
        rw [hide_at fun z => e2 (.tail _ z)]
        exact e1
  refine ⟨by decide, fun p hp => ⟨by decide, fun f hf => ?_⟩⟩
  have npf : f ≠ p := fun z => by rw [z, upd_same] at hf; cases hf
  have hf0 : H f = none := (upd_ne npf).symm.trans hf
  have sp := same_new (o := HO.tup [V.non, V.int 1, V.int one]) hp
  refine loop _ f [.ref p] [(none, 1, one)] (sp.trans (same_new hf)) hf0 upd_same (Nat.le_refl _) rfl ?_
  have ep : upd (upd H p (HO.tup [V.non, V.int 1, V.int one])) f (HO.lst [V.ref p]) p = some (.tup [V.non, V.int 1, V.int one]) := by rw [upd_ne (Ne.symm npf), upd_same]
  refine DpAll.one (.tup (.inl (.inl ?_)) (.cons .non (.cons (.int 1) (.cons (.int one) .nil))))
  have nm : p ∉ f :: ms := fun z => (List.mem_cons.mp z).elim (fun z => npf z.symm) fun z => tk p z hp
  rw [hide_at nm]
  exact ep
end
end Pb

/-! PbKey -/
set_option Elab.async false
set_option linter.all false
set_option maxRecDepth 100000
set_option maxHeartbeats 4000000
/-! Pb: min(xs, key=lambda x: x[0]) over a list of tuples that begin with a number; the lambda's code object lies in the def's table -/
namespace Pb
open PySem PySem.Spec PyProof.Rows L2
open LamX (TabS TabB ExtN CodeO)
/-- the function that a lambda made, nothing captured -/
def LamO (f c' : Addr) (q : Str) (params : Arguments) (body : Expr) (scope : Scope) : HO := .ext fun h => ∃ pm ctv : Value, h.get? f = some (PySem.W.kla_obj "<lambda>" q params body scope [] pm c' ctv)
theorem upd_none' {H : Hp} {a b : Addr} {o : HO} (e : upd H a o b = Option.none) : H b = Option.none := by
  unfold upd at e
  split at e
  · cases e
  · exact e
section
variable {X : Cx} {pins : List (Addr × Obj)} {σ : L2.St} {H : Hp} {s : Shared}
theorem inv_lam {h' : Heap} {f c' : Addr} {q : Str} {params : Arguments} {body : Expr} {scope : Scope} {pm ctv : Value} {t' : Nat} (I : L2.Inv X pins σ H s) (ef : f = s.heap.objs.size) (eh : h' = s.heap.push (PySem.W.kla_obj "<lambda>" q params body scope [] pm c' ctv)) :
    L2.Inv X pins σ (upd H f (LamO f c' q params body scope)) { s with heap := h', toks := t' } := by
  subst ef
  subst eh
  have e : (s.heap.push (PySem.W.kla_obj "<lambda>" q params body scope [] pm c' ctv)).get? s.heap.objs.size = some (PySem.W.kla_obj "<lambda>" q params body scope [] pm c' ctv) := Heap.get?_push_size _ rfl
  refine I.laid (a := s.heap.objs.size) (fun b u z => Heap.get?_push_of_some _ z) (Nat.le_refl _) ?_
  exact ⟨⟨pm, ctv, e⟩, ⟨_, e⟩, fun h1 h2 ⟨p, t, z⟩ st => ⟨p, t, st _ z⟩⟩
/-- what the making of a lambda tells -/
def tLamE (P : Addr) (q : Str) (params : Arguments) (body : Expr) (scope : Scope) : TE := fun σ H Q => TabS H P q ∧
  ∀ (f c' : Addr) (H1 : Hp), Sx [P] H H1 → TabS H1 P q → H1 f = some (LamO f c' q params body scope) → H1 c' = some (CodeO c' q) → Q (.ref f) H1
theorem pe_lam {c P : Addr} {q : Str} {params : Arguments} {body : Expr} {scope : Scope} {pos : Pos} (TB : TabB X.base X.mg c P) (hcode : X.env.code = .ref c) (hq : X.env.qual ++ "<lambda>" = q) (hdef : defaultsOf params X.env = ([], []))
    (hcl : cloFrom X.env.cells scope.names [] = []) (hfree : ∀ y ∈ scope.names, y.2 = .free → ∃ c, X.env.cells.lookup y.1 = some c) : PE X (.Lambda params body scope pos) (tLamE P q params body scope) := by
  subst hq
  refine ⟨fun pins s σ H Q I h => ?_⟩
  obtain ⟨tab, k⟩ := h
  obtain ⟨ps, atP, tri, am⟩ := tab
  have bP : s.heap.BuiltinsAt X.mg P := TB.bm.keeps I.bk
  have oP : s.heap.get? P = some { cls := .none, data := .fields ps } := I.hok P _ atP
  refine PySem.W.kla_eval hdef ?_
  cases hc : codeAmong pos ps.toList with
  | none =>
    refine PySem.W.kla_makeFunction (mg := X.mg) (c := c) (P := P) (ps := ps) (closure_ok hfree) I.ok.glob (I.mod.glob.keeps I.bk) hcode (TB.code.keeps I.bk) oP tri hc TB.gP bP fun c' ctv h' tk hx hge hlt hrec htb => ?_
    obtain ⟨c2, oc, vs, t, e2, hoc, hd, hv⟩ := hrec
    cases e2
    have nC : H c' = none := I.hok.fresh hge
    have I1 := LamX.inv_table (t' := tk) (more := #[rawInt pos.line, rawInt pos.col, .ref c']) (h' := h') I atP (fun b o hb e => hx b o hb e) htb hge ⟨oc, vs, t, hoc, hd, hv⟩
    have ex : ExtN H (upd (upd H P (.tbl (ps ++ #[rawInt pos.line, rawInt pos.col, .ref c']))) c' (CodeO c' (X.env.qual ++ "<lambda>"))) := fun b o e n => by
      rw [upd_ne (ne_of_none e nC), upd_ne (fun z => n ps (Option.some.inj (e.symm.trans (by rw [z]; exact atP))))]
      exact e
    have eL : (ps ++ #[rawInt pos.line, rawInt pos.col, .ref c']).toList = ps.toList ++ [rawInt pos.line, rawInt pos.col, .ref c'] := by simp
    have nF := I1.hok.fresh (Nat.le_refl _)
    rw [hcl]
    have I2 := inv_lam (f := h'.objs.size) (c' := c') (q := X.env.qual ++ "<lambda>") (params := params) (body := body) (scope := scope) (pm := (X.mg "__name__").getD .none) (ctv := ctv) (t' := tk) I1 rfl rfl
    refine ⟨.ref h'.objs.size, _, I2, rfl, k _ c' _ (fun b o hb e => ?_) ⟨_, ?_, by rw [eL]; exact PySem.TriplesOk_snoc _ _ _ _ tri, fun p' cv hcv => ?_⟩ upd_same ?_⟩
    · have e1 : upd (upd H P (.tbl (ps ++ #[rawInt pos.line, rawInt pos.col, .ref c']))) c' (CodeO c' (X.env.qual ++ "<lambda>")) b = some o := by rw [upd_ne (ne_of_none e nC), upd_ne fun z => hb (by rw [z]; exact .head _)]; exact e
      exact (upd_ne (ne_of_none e1 nF)).trans e1
    · have z : upd (upd H P (.tbl (ps ++ #[rawInt pos.line, rawInt pos.col, .ref c']))) c' (CodeO c' (X.env.qual ++ "<lambda>")) P = some (.tbl (ps ++ #[rawInt pos.line, rawInt pos.col, .ref c'])) := by rw [upd_ne (ne_of_none atP nC), upd_same]
      exact (upd_ne (ne_of_none z nF)).trans z
    · rw [eL] at hcv
      have fin : ∀ c0, upd (upd H P (.tbl (ps ++ #[rawInt pos.line, rawInt pos.col, .ref c']))) c' (CodeO c' (X.env.qual ++ "<lambda>")) c0 = some (CodeO c0 (X.env.qual ++ "<lambda>")) → upd (upd (upd H P (.tbl (ps ++ #[rawInt pos.line, rawInt pos.col, .ref c']))) c' (CodeO c' (X.env.qual ++ "<lambda>"))) h'.objs.size (LamO h'.objs.size c' (X.env.qual ++ "<lambda>") params body scope) c0 = some (CodeO c0 (X.env.qual ++ "<lambda>")) := fun c0 z => (upd_ne (ne_of_none z nF)).trans z
      rcases LamX.among_app _ tri hcv with z | z
      · obtain ⟨c0, e1, e2⟩ := am p' cv z
        exact ⟨c0, e1, fin c0 (ex _ _ e2 LamX.codeO_ne)⟩
      · exact ⟨c', z, fin c' upd_same⟩
    · exact (upd_ne (Nat.ne_of_lt hlt)).trans upd_same
  | some cv =>
    obtain ⟨c', e, hco⟩ := am pos cv hc
    subst e
    refine PySem.W.kla_makeFunctionHit (mg := X.mg) (c := c) (P := P) (ps := ps) (closure_ok hfree) I.ok.glob (I.mod.glob.keeps I.bk) hcode (TB.code.keeps I.bk) oP tri hc bP fun ctv h' tk hx hsz => ?_
    have I1 : L2.Inv X pins σ H { s with heap := h', toks := tk } := I.kept hx
    have nF : H h'.objs.size = none := I1.hok.fresh (Nat.le_refl _)
    rw [hcl]
    have I2 := inv_lam (f := h'.objs.size) (c' := c') (q := X.env.qual ++ "<lambda>") (params := params) (body := body) (scope := scope) (pm := (X.mg "__name__").getD .none) (ctv := ctv) (t' := tk) I1 rfl rfl
    have ks : ∀ b o, H b = some o → upd H h'.objs.size (LamO h'.objs.size c' (X.env.qual ++ "<lambda>") params body scope) b = some o := fun b o e => (upd_ne (ne_of_none e nF)).trans e
    exact ⟨.ref h'.objs.size, _, I2, rfl, k _ c' _ (Sx.of fun b o e => ks b o e) (TabS.ext ⟨ps, atP, tri, am⟩ ks) upd_same (ks _ _ hco)⟩
end
/-! ### the lambda x: x[0] called -/
structure FstLam (params : Arguments) (body : Expr) (scope : Scope) : Prop where
  kind : scope.kind = .function
  co : scope.isCoroutine = false
  gen : scope.isGenerator = false
  nocell : ∀ y ∈ scope.names, y.2 ≠ .cell
  ex : ∃ (x : Str) (p1 p2 p3 : Pos) (n : Nat), body = .Subscript (.Name x p1) (.Constant (.int 0) n p2) p3 ∧ (x == ("__debug__" : Str)) = false ∧ scope.names.lookup x = some .local ∧
    ∀ (q : Str) (pm cv ctv : Value) (u : Value), bindArgs (PySem.W.kla_fn "<lambda>" q params body scope [] pm cv ctv) ⟨[u], []⟩ = pure [(x, u)]
theorem fst_run {prog : Program} {w : World} {A : Around} {s : Shared} {f c' t : Addr} {q : Str} {params : Arguments} {body : Expr} {scope : Scope} {pm ctv y : Value} {its : Array Value} (L : FstLam params body scope) (hd : A.depth < recursionLimit) (lim : s.heap.NoLimit)
    (ho : s.heap.get? f = some (PySem.W.kla_obj "<lambda>" q params body scope [] pm c' ctv)) (hcd : s.heap.CodeRec (.ref c') q) (ht : IsTup s.heap t its) (hy : its[0]? = some y) :
    codeAny (model prog w) A (.call (.ref f) ⟨[.ref t], []⟩) (fun r s' => ∃ h' tk, r = .ok (.ret y) ∧ s' = { s with heap := h', toks := tk } ∧ s.toks ≤ tk ∧ ∀ b o, s.heap.get? b = some o → h'.get? b = some o) s := by
  obtain ⟨x, p1, p2, p3, n, rfl, hdb, hloc, hbind⟩ := L.ex
  refine PySem.W.kla_callFunE hd ho rfl L.co L.gen rfl hcd ?_
  rw [hbind]
  refine wpAny_pure (wpAny_newFunctionEnv L.nocell (fun z hz => by rw [List.mem_singleton.mp hz]; exact hloc) (fun h₁ hns hsb => ⟨lim.fresh _ hsb, ?_⟩) L.kind)
  have kp : ∀ b o, s.heap.get? b = some o → h₁.get? b = some o := fun b o e => hsb.extBut b o (Nat.ne_of_lt (Heap.lt_size e)) (Heap.get?_push_of_some _ e)
  show codeAny _ _ (.expr _ (PySem.W.envX q scope s.heap.objs.size f (.ref c') [])) _ _
  refine PySem.W.kla_codeExpr ?_
  have hlen : 0 < its.size := by
    rcases Array.getElem?_eq_some_iff.mp hy with ⟨h, _⟩
    exact h
  refine Subscript_ (wpAny_Name (wpAny_loadName_local (v := .ref t) L.kind hloc hns (by simp) ?_) hdb)
  refine wpAny_Constant_int ?_
  refine subscriptTail_builtinR (x := y) (IsTup.keeps ht kp).typeIs slot_tuple_getitem.lookup (getItem_tuple (j := 0) (IsTup.keeps ht kp) (by omega) (by omega) ?_ hy ⟨rfl, ?_⟩)
  · unfold seqIndex?
    simp [hlen]
  · exact ⟨_, _, rfl, rfl, Nat.le_trans (Nat.le_add_right _ _) (Nat.le_add_right _ _), kp⟩
/-! ### min by it -/
section
variable {X : Cx} {j : Nat}
def rMinK (K : PySem.W.Frag) (q : Str) (params : Arguments) (body : Expr) (scope : Scope) : List V → List V → Hp → VK → Prop := fun vs zs H Q => ∃ (a : Addr) (xs : List V) (f c' : Addr) (cs : Nat → Int), vs = [V.ref a] ∧ zs = [V.ref f] ∧ H f = some (LamO f c' q params body scope) ∧ H c' = some (CodeO c' q) ∧ SqL K H a xs ∧ 0 < xs.length ∧
  (∀ (i : Nat) x, xs[i]? = some x → ∃ t ys, x = .ref t ∧ SqT K H t (.int (cs i) :: ys)) ∧ ∀ v, xs[argBest (fun i j => decide ((cs i : Int) < cs j)) (xs.length - 1)]? = some v → Q v H
theorem cr_minK {q : Str} {params : Arguments} {body : Expr} {scope : Scope} (L : FstLam params body scope) (hc : X.calm = true) (hr : Room (j + 2) X.A) : CallRK X (.builtin "min") [Str.ofString "key"] (rMinK X.K q params body scope) := by
  intro pins s σ H vs zs us ws Q I r rz h
  obtain ⟨a, xs, f, c', cs, rfl, rfl, hf, hco, hq, hn, hx, k⟩ := h
  obtain ⟨u, rfl, ru⟩ := vals1 r
  cases ru
  obtain ⟨w1, rfl, rw1⟩ := vals1 rz
  cases rw1
  obtain ⟨its, rv, hl, hz⟩ := I.list hq
  have hlen := rv.length
  obtain ⟨⟨pm, ctv, of_⟩, _, _⟩ := I.hok f _ hf
  obtain ⟨⟨oc, vs0, t0, hoc, hdc, hvc⟩, _, _⟩ := I.hok c' _ hco
  have lim : s.heap.NoLimit := I.nolimit
  refine call_min_walkK (PySem.W.iter_listW (A := X.A.in1) (I.ok.hd hc) hl.isList fun s2 e2 W st hfp hw hk => ?_)
  have item : ∀ (i : Nat) (v : Value), its.toArray[i]? = some v → ∃ t ys its2 tk, v = .ref t ∧ IsTup s.heap t its2 ∧ its2[0]? = some (.int (cs i) tk) := fun i v e => by
    have e' : its[i]? = some v := by simpa using e
    obtain ⟨x, ex, rx⟩ : ∃ x, xs[i]? = some x ∧ RelV x v := by
      cases q : xs[i]? with
      | none => rw [rv.none_of q] at e'; cases e'
      | some x =>
        obtain ⟨u, eu, ru⟩ := rv.get q
        rw [e'] at eu
        cases eu
        exact ⟨x, rfl, ru⟩
    obtain ⟨t, ys, rfl, ht⟩ := hx i x ex
    cases rx
    obtain ⟨its2, r2, tp, _⟩ := I.tuple ht
    cases r2 with
    | cons r1 r3 =>
      obtain ⟨tk, e⟩ := r1
      subst e
      exact ⟨t, ys, _, tk, rfl, tp, by simp⟩
  refine ⟨_, _, _, _, _, _, _, (fun s' => ∃ h' tk, s' = { s with heap := h', toks := tk } ∧ ∀ b o, s.heap.get? b = some o → h'.get? b = some o), (fun i k _ => ∃ tk, k = .int (cs i) tk), (fun i j => decide ((cs i : Int) < cs j)), rfl, W, st, hfp, ?_, ⟨?_, ?_, ?_, ?_⟩, ?_, ?_⟩
  · show 0 < its.toArray.size
    simp only [List.size_toArray]
    omega
  · rintro s3 s4 ⟨h3, tk3, rfl, k3⟩ m
    obtain ⟨hp, g, d, tk, os⟩ := s4
    have h1 : g = s.gens := m.gens
    have h2 : d = s.drawn := m.drawn
    have h3' : os = s.os := m.os
    subst h1
    subst h2
    subst h3'
    refine ⟨hp, tk, rfl, fun b o e => m.heap b o (fun hb => ?_) (k3 b o e)⟩
    have hlt := Heap.lt_size e
    rcases List.mem_cons.mp hb with z | z
    · have q : s2.heap.objs.size = s.heap.objs.size + 1 := by rw [e2]; exact Heap.size_push _ _
      rw [z, q] at hlt
      exact absurd hlt (Nat.not_lt.mpr (Nat.le_succ _))
    · rw [List.mem_singleton.mp z] at hlt
      exact absurd hlt (Nat.lt_irrefl _)
  · rintro i kx s3 s4 ⟨tk, e⟩ m
    exact ⟨tk, e⟩
  · rintro i v s3 o Q3 E3 hi hP ⟨h3, tk3, rfl, k3⟩ hst hS cont
    obtain ⟨t, ys, its2, tk, rfl, tp, h0⟩ := item i v hP
    have hr1 : Room (j + 1) X.A.in1 := hr.in1
    refine wpAny_call (codeAny_mono (fst_run L hr1.depth (lim.keeps k3) (k3 _ _ of_) ⟨c', oc, vs0, t0, rfl, k3 _ _ hoc, hdc, hvc⟩ (tp.keeps k3) h0) fun r s4 hq => ?_)
    obtain ⟨h4, tk4, rfl, rfl, t4, k4⟩ := hq
    refine cont _ _ ⟨h4, tk4, rfl, fun b o e => k4 _ _ (k3 b o e)⟩ ?_ (k4 _ _ hS) ⟨tk, rfl⟩ fun _ _ q => q
    exact W.frame _ _ h4 tk4 hst t4 fun b hb o e => k4 b o e
  · rintro i j ki kj s3 Q3 E3 hJ ⟨t1, rfl⟩ ⟨t2, rfl⟩ hq
    exact lt_int hq
  · exact ⟨s2.heap, s2.toks, by rw [e2], hk⟩
  · rintro v s3 hP ⟨h3, tk3, rfl, k3⟩
    have e' : its[argBest (fun i j => decide ((cs i : Int) < cs j)) (xs.length - 1)]? = some v := by
      have e : its.toArray[argBest (fun i j => decide ((cs i : Int) < cs j)) (its.toArray.size - 1)]? = some v := hP
      rw [List.size_toArray, ← hlen] at e
      simpa using e
    cases q : xs[argBest (fun i j => decide ((cs i : Int) < cs j)) (xs.length - 1)]? with
    | none => rw [rv.none_of q] at e'; cases e'
    | some x =>
      obtain ⟨u, eu, ru⟩ := rv.get q
      rw [e'] at eu
      cases eu
      exact ⟨x, H, I.kept (t' := tk3) k3, ru, k x q⟩
end
/-! ### a def that makes a lambda: its own code object is known -/
section
variable {P : Program} {w : World} {K : PySem.W.Frag} {mg : Str → Option Value} {base : Heap}
theorem kdef_ofC {x : Str} {st : Stmt} {N ps : List Str} {k : Nat} {sp : Sp} {kws : List (Str × V)} (D : FnD K x x st [] kws (He.fAd K (x, none))) (g : mg x = some (.ref (He.fAd K (x, none)))) (S : FnScope N ps (L2.defScope st))
    (len : ∀ vs H Q E, sp vs H Q E → vs.length = ps.length)
    (hbody : ∀ (A : Around) (outer : List Env) (s : Shared) (H : Hp) (vs : List V) (Q : VK) (E : XK), Room k (A.deeper (envOfC x (L2.defScope st) s.heap.objs.size (He.fAd K (x, none)) (.ref (He.codeOf K (x, none))))) → sp vs H Q E →
      ∃ t, PSs (cxOf CX0 P w K mg base N x (L2.defScope st) (He.fAd K (x, none)) (.ref (He.codeOf K (x, none))) A outer s H E).nox (L2.defBody st) t ∧ t { nx := fun _ H' => Q .non H', rt := Q } (start N vs) H) : KDef P w K mg base (k + 1) x sp ps st kws := by
  obtain ⟨fd, F⟩ := D
  refine ⟨_, fd, ?_, g, F⟩
  obtain ⟨oc, od, dV, kV, doc, pm, an, cdv, ct, osl, rfl, lk, hcd, _, _⟩ := F.ex
  obtain ⟨c, rfl⟩ := He.codeIn_ref hcd
  have ec : He.codeOf K (x, none) = c := He.codeOf_eq lk rfl
  rw [ec] at hbody
  refine ⟨len, fun A outer t H ar us vs Q E room env bnd rel hsp => ?_⟩
  have n := len vs H Q E hsp
  have kin : K.In t.heap := env.mod.kin.keeps fun b o e => (env.bs b o e).1
  have noLim : t.heap.NoLimit := env.mod.nolimit.keeps fun b o e => (env.bs b o e).1
  refine codeAny_call_function room.depth (kin _ _ lk) rfl S.co S.gen rfl (PySem.W.codeRec_of kin hcd) (bnd _ _ _ _ ?_)
  have kinds : ∀ y ∈ ps.zip us, (L2.defScope st).names.lookup y.1 = some .local ∨ ((L2.defScope st).names.lookup y.1 = some .cell ∧ ((cellsFrom (t.heap.objs.size + 1) (L2.defScope st).names []).lookup y.1).isSome = true) := by
    rintro ⟨z, v⟩ hz
    exact (S.par z (List.of_mem_zip hz).1).imp id fun q => ⟨q, PySem.W.cellsFrom_some _ _ _ (.inl q)⟩
  refine wpAny_newFunctionEnv_cells S.kind kinds fun env2 eenv t1 inC => ?_
  subst eenv
  refine ⟨noLim.keeps inC.toInCall.keep, codeAny_func ?_⟩
  obtain ⟨tr, h1, h2⟩ := hbody A outer t H vs Q E (room.deeper _) hsp
  have J0 : L2.Inv (cxOf CX0 P w K mg base N x (L2.defScope st) (He.fAd K (x, none)) (.ref c) A outer t H E) [] (start N vs) H t1 := inv_start S room.hd env n rel inC
  refine wpAny_mono (h1.nox.run [] t1 (start N vs) H _ J0 h2) (fun fl t2 hq => ?_) fun _ _ hq => hq
  have out : ∀ {σ : L2.St} {H' : Hp} {v : V} {u : Value}, L2.Inv (cxOf CX0 P w K mg base N x (L2.defScope st) (He.fAd K (x, none)) (.ref c) A outer t H E) [] σ H' t2 → RelV v u → Q v H' → CE outer P w H t Q u t2 := fun J r q => ⟨_, _, J.os, J.bare, J.base, J.hok, r, q⟩
  cases fl with
  | ret u => obtain ⟨v, σ, H', J, r, q⟩ := hq; exact out J r q
  | next => obtain ⟨σ, H', J, q⟩ := hq; exact out (v := V.non) (u := Value.none) J rfl q
  | brk => obtain ⟨_, _, _, q⟩ := hq; cases q
  | cont => obtain ⟨_, _, _, q⟩ := hq; cases q
end
end Pb

/-! PbTS -/
set_option Elab.async false
set_option linter.all false
set_option maxRecDepth 100000
set_option maxHeartbeats 4000000
/-! Pb: a set comprehension whose set takes one tuple of texts -/
namespace Pb
open PySem PySem.Spec PyProof.Rows L2
/-- a set that holds nothing yet, or one tuple -/
def FewSet (w : World) (D : Addr) (n : Nat) : HO := .ext fun h => ∃ (o : Obj) (es : Array (Int × Value)) (ep : Nat) (t : SetTable), h.get? D = some o ∧ o.ExactSet ∧ o.data = .set es ep t ∧ t.fits es.size = true ∧ es.size = n ∧
  (n = 0 → o = { cls := .type "set", dict := none, data := .set #[] 0 (.fresh 0 0 (!w.params.followText "set-order")) })
theorem few_new {P : Program} {w : World} {H : Hp} {h : Heap} {D n : Nat} (q : ∃ (o : Obj) (es : Array (Int × Value)) (ep : Nat) (t : SetTable), h.get? D = some o ∧ o.ExactSet ∧ o.data = .set es ep t ∧ t.fits es.size = true ∧ es.size = n ∧
  (n = 0 → o = { cls := .type "set", dict := none, data := .set #[] 0 (.fresh 0 0 (!w.params.followText "set-order")) })) : ObjOk P w H h D (FewSet w D n) := by
  have q' := q
  obtain ⟨o, es, ep, t, e, r⟩ := q'
  exact ⟨q, ⟨o, e⟩, fun h1 h2 ⟨o, es, ep, t, e, r⟩ st => ⟨o, es, ep, t, st _ e, r⟩⟩
section
variable {P : Program} {w : World} {A : Around} {E : Value → Shared → Prop} {s : Shared}
/-- the items' hashes are asked: some answer, nothing else -/
theorem by_value {ks : List Key} {b : Addr} {Q : Bool → Shared → Prop} (hk : IsTupleKey (mixKind P w) s.heap ks b) (h : ∀ c, Q c s) : wpAny (model P w) A (hashByValue 8 (.ref b)) Q E s := by
  have ty := hk.typeIs
  obtain ⟨o, its, n, eo, _, ed, hi⟩ := hk
  have all : ∀ v ∈ its.toList, ∃ c, hashByValue 7 v = pure c := by
    generalize its.toList = l at hi
    induction hi with
    | nil => exact fun v hv => nomatch hv
    | @cons k v ks vs h1 _ ih =>
      intro u hu
      rcases List.mem_cons.mp hu with z | z
      · rw [z]
        rcases keyIs_shape h1 with ⟨i, t, _, e⟩ | ⟨x, t, _, e⟩
        · rw [e]; exact ⟨true, rfl⟩
        · rw [e]; exact ⟨false, rfl⟩
      · exact ih u z
  unfold hashByValue
  refine wpAny_bind (wpAny_specialOf ty F.slot_tuple_hash.lookup (show wpAny _ _ (seqItems? (.ref b) >>= _) _ _ s from wpAny_bind (wpAny_seqItems eo ed (wpAny_bind ?_))))
  show wpAny _ _ (forIn its _ _) _ _ s
  rw [← Array.forIn_toList]
  refine wpAny_forIn_list _ (fun l r t => t = s ∧ r.1 = none ∧ ∀ v ∈ l, ∃ c, hashByValue 7 v = pure c) _ (fun v l r t z => ?_) (fun r t z => ?_) _ _ ⟨rfl, rfl, all⟩
  · obtain ⟨rfl, hr, hl⟩ := z
    obtain ⟨c, e⟩ := hl v (.head _)
    rw [e]
    refine wpAny_bind (wpAny_pure ?_)
    cases c
    · exact wpAny_pure (wpAny_pure (h false))
    · exact wpAny_pure ⟨rfl, rfl, fun u hu => hl u (.tail _ hu)⟩
  · obtain ⟨rfl, hr, _⟩ := z
    obtain ⟨r1, r2⟩ := r
    cases (show r1 = none from hr)
    exact wpAny_pure (h true)
variable {D : Addr}
/-- the search in the empty set -/
theorem search_none {x : Addr} {h : Int} (ho : s.heap.get? D = some { cls := .type "set", dict := none, data := .set #[] 0 (.fresh 0 0 (!w.params.followText "set-order")) }) {Q : SetFound → Shared → Prop}
    (q : Q (.free (way 7 h 0) false) s) : wpAny (model P w) A (setSearch D (.ref x) h true) Q E s := by
  have R := setTR_fresh (P := P) ho
  unfold setSearch
  rw [show (100000 : Nat) = 99999 + 1 from rfl, setSearchFrom_succ]
  refine wpAny_bind (wpAny_setState_of ho rfl R.fits ?_)
  dsimp only
  refine wp_if_neg R.gw ?_
  refine wpAny_bind (wpAny_pure ?_)
  exact wpAny_pure q
/-- the first that is added -/
theorem add_first {x : Addr} {ks : List Key} {h : Int} (hx : IsTupleKey (mixKind P w) s.heap ks x) (ho : s.heap.get? D = some { cls := .type "set", dict := none, data := .set #[] 0 (.fresh 0 0 (!w.params.followText "set-order")) }) {Q : Bool → Shared → Prop}
    (q : ∀ b (h' : Heap) (o : Obj) (es : Array (Int × Value)) (ep : Nat) (t : SetTable), Heap.SameBut D s.heap h' → h'.get? D = some o → o.ExactSet → o.data = .set es ep t → t.fits es.size = true → es.size = 1 → Q b { s with heap := h' }) : wpAny (model P w) A (setAddHashed D (.ref x) h) Q E s := by
  have R := setTR_fresh (P := P) ho
  unfold setAddHashed
  rw [show (100000 : Nat) = 99999 + 1 from rfl, setAddHashedIn_succ]
  refine wpAny_holding (wpAny_bind (wpAny_setState_of ho rfl R.fits ?_))
  refine wp_if_neg (by unfold byScan; simp [Value.scannable]) ?_
  try refine wpAny_bind (wpAny_pure ?_)
  refine wpAny_bind (search_none ho ?_)
  refine wpAny_bind (wpAny_setState_of ho rfl R.fits ?_)
  obtain ⟨q1, q2, q3, q4, q5, q6, q7, q8, q9⟩ := R.tab.put (h := h) (K := 0) (show way 7 h 0 ∉ ([] : List Nat) by simp) (fun k z => absurd z (Nat.not_lt_zero _))
  have pl : ((SetTable.fresh 0 0 (!w.params.followText "set-order")).put (way 7 h 0)).1.plain = true := q6
  have mk : ((SetTable.fresh 0 0 (!w.params.followText "set-order")).put (way 7 h 0)).1.mask = 7 := q4
  have sz : ((SetTable.fresh 0 0 (!w.params.followText "set-order")).put (way 7 h 0)).1.place.size = 1 := by
    have z : _ = (List.take _ ([] : List Int) ++ h :: List.drop _ ([] : List Int)).length := q3.sz
    rw [List.take_nil, List.drop_nil] at z
    exact z
  have dm : ((SetTable.fresh 0 0 (!w.params.followText "set-order")).put (way 7 h 0)).1.dummies = #[] := q3.dm
  have p0 : ((SetTable.fresh 0 0 (!w.params.followText "set-order")).put (way 7 h 0)).2 = 0 := Nat.le_zero.mp (Nat.le_trans (Nat.le_of_eq q1) q2)
  dsimp only
  generalize ((SetTable.fresh 0 0 (!w.params.followText "set-order")).put (way 7 h 0)) = pt at pl mk sz dm p0 ⊢
  obtain ⟨t1, n1⟩ := pt
  dsimp only at pl mk sz dm p0 ⊢
  subst p0
  rw [pl]
  have es1 : (SetTable.insertAt (#[] : Array (Int × Value)) 0 (h, Value.ref x)).size = 1 := by
    rw [← Array.length_toList, SetTable.toList_insertAt]
    rfl
  generalize SetTable.insertAt (#[] : Array (Int × Value)) 0 (h, Value.ref x) = es at es1 ⊢
  simp only [if_true]
  refine wpAny_bind (by_value hx fun c => ?_)
  have key : ∀ t2 : SetTable, t2.mask = 7 → t2.place.size = 1 → t2.dummies = #[] → wpAny (model P w) A (do
      storeSet D es t2
      if (!false && t2.tooFull) = true then do
        setRelay D (SetTable.grown ((#[] : Array (Int × Value)).size + 1))
        pure true
      else pure true) Q E s := fun t2 m2 z2 d2 => by
    have full : t2.tooFull = false := by
      unfold SetTable.tooFull SetTable.fill
      rw [z2, d2, m2]
      decide
    have fit : t2.fits es.size = true := by
      unfold SetTable.fits SetTable.fill
      rw [z2, d2, m2, es1]
      decide
    refine wpAny_bind (wpAny_storeSet_of ho rfl ?_ (by rw [es1, sizeLine_eq]; omega))
    rw [full]
    exact wpAny_pure (q true _ _ es 1 t2 (Heap.SameBut.update ..) (store_at ho rfl) ⟨rfl, rfl, rfl⟩ rfl fit es1)
  cases c with
  | true => exact key t1 mk sz dm
  | false => exact key _ mk sz dm
end
/-- one tuple comes into the empty set -/
def RTup1 (K : PySem.W.Frag) : Hp → Nat → V → Nat → Prop := fun H n y n' => n = 0 ∧ n' = 1 ∧ ∃ (t : Addr) (ks : List Key), y = .ref t ∧ SqT K H t (ks.map kV)
theorem bagTup1 {X : Cx} (hu : X.A.in1.units < cLine) : Bag X (FewSet X.w) 0 (RTup1 X.K) where
  new := fun H h => few_new ⟨_, #[], 0, _, Heap.get?_push_size _ rfl, ⟨rfl, rfl, rfl⟩, rfl, by rfl, rfl, fun _ => rfl⟩
  add := fun Y pins σ H s D n n' y u Q E hp hw hk hA I hD r hR hq => by
    obtain ⟨rfl, rfl, t, ks, rfl, ht⟩ := hR
    cases (show u = Value.ref t from r)
    obtain ⟨o, es, ep, tb, ho, hx, hd, hf, hn, hz⟩ := (I.hok D _ hD).1
    have e0 := hz rfl
    subst e0
    obtain ⟨its, rv, tp, _⟩ := I.tuple (by rw [hk]; exact ht)
    obtain ⟨o2, eo2, c2, n2, d2⟩ := tp
    have isT : IsTupleKey (mixKind X.prog X.w) s.heap ks t := ⟨o2, its.toArray, n2, eo2, c2, d2, by simpa using items_are rv⟩
    have setT : s.TypeIs (.ref D) "set" := ⟨_, ho, rfl⟩
    refine wpAny_call_entry F.slot_set_add setT F.entry_set_add ?_ (F.args_set_add_2 _ _)
    unfold Builtin.«set.add» Builtin.Frozenset.oneOther Builtin.Frozenset.addrOf setAdd
    simp only [List.isEmpty_nil, bind_assoc]
    refine wpAny_bind (wpAny_pure ?_)
    try dsimp only
    refine wpAny_bind (wpAny_pure ?_)
    try dsimp only
    refine wpAny_bind (wpAny_holding (wpAny_bind (wpAny_pyHash_tuple hu isT ?_)))
    refine add_first (s := { s with toks := s.toks + (ks.length + 1) }) isT ho fun b h' o3 es3 ep3 t3 sb e3 x3 d3 f3 z3 => ?_
    show wpAny _ _ (ret Value.none) _ _ _
    refine wpAny_pure ⟨_, rfl, hq _ (I.write (e := D) (t' := s.toks + (ks.length + 1)) (by rw [hD]; trivial) (.inl rfl) (fun c v hc e => (sb.2 c hc).trans e) ⟨_, e3⟩ ?_)⟩
    rw [hw]
    exact few_new ⟨o3, es3, ep3, t3, e3, x3, d3, f3, z3, fun z => nomatch z⟩
/-- len of it -/
def rLenFew (w : World) : List V → Hp → VK → Prop := fun xs H Q => ∃ (a : Addr) (n : Nat), xs = [.ref a] ∧ H a = some (FewSet w a n) ∧ n < 1000 ∧ Q (.int (n : Nat)) H
theorem call_lenFew {X : Cx} : CallR X (.builtin "len") (rLenFew X.w) := by
  intro pins s σ H xs us Q I r h
  obtain ⟨a, n, rfl, ha, hn, q⟩ := h
  obtain ⟨u, rfl, ru⟩ := vals1 r
  cases ru
  obtain ⟨o, es, ep, t, ho, hx, hd, hf, hz, _⟩ := (I.hok a _ ha).1
  refine call_len_set ho hx hd hf (by rw [hz]; omega) ?_
  rw [hz]
  exact ⟨.int (n : Nat), H, I.tok _, ⟨_, rfl⟩, q⟩
/-- over at most one tuple -/
theorem sc_few {w : World} {K : PySem.W.Frag} {J : It} {xs : List V} {G : Hp → Prop} (wk : Walk J xs.length G (YAt xs)) {g : TG} {te : TE} {vs : List Nat} {σ : L2.St} {H1 : Hp} {D : Addr} {Qd : Hp → Prop} (hD : H1 D = none) (h1 : xs.length ≤ 1) (hG : ∀ H, Same H1 H → G H)
    (step : ∀ x H (Q : VK), xs[0]? = some x → Same H1 H → (∀ H4 (t : Addr) (ks : List Key), Same H H4 → SqT K H4 t (ks.map kV) → Q (.ref t) H4) → g x (wipe σ vs) H fun σ2 H2 => wipe σ2 vs = wipe σ vs ∧ te σ2 H2 Q)
    (done : ∀ H', Same H1 H' → H' D = some (FewSet w D xs.length) → Qd H') : ScGoal (FewSet w) 0 (RTup1 K) g te vs σ J H1 D Qd := by
  refine ⟨fun i m H => m = xs.length - i ∧ i ≤ xs.length ∧ Same H1 H ∧ H D = some (FewSet w D i), ⟨xs.length, by simp, Nat.zero_le _, same_new hD, upd_same⟩, ?_⟩
  rintro i m H ⟨rfl, hi, s1, hK⟩
  by_cases hlt : i < xs.length
  · have e0 : i = 0 := by omega
    subst e0
    refine .inr ⟨wk.goes 0 H hlt (hG H s1), fun H' => Same H1 H' ∧ H' D = some (FewSet w D 1), fun H' q => ⟨xs.length - 1, by omega, rfl, hlt, q⟩, fun x H' y => ?_⟩
    obtain ⟨e0, ex⟩ := wk.yields 0 H x H' hlt (hG H s1) y
    subst e0
    refine step x _ _ ex s1 fun H4 t ks s4 ht => ⟨0, 1, s4 _ _ hK, ⟨rfl, rfl, t, ks, rfl, ht⟩, fun b o e => ?_, upd_same⟩
    rw [upd_ne (ne_of_none e hD)]
    exact s4 _ _ (s1 _ _ e)
  · have e : i = xs.length := by omega
    rw [e] at hK
    rw [e]
    exact .inl ⟨wk.stops H (hG H s1), done H s1 hK⟩
end Pb

/-! PbTS2 -/
set_option Elab.async false
set_option linter.all false
set_option maxRecDepth 100000
set_option maxHeartbeats 4000000
/-! Pb: a set comprehension whose set takes a few unlike tuples of texts -/
namespace Pb
open PySem PySem.Spec PyProof.Rows L2
abbrev KH (P : Program) (w : World) (k : List Key) : Int := tupleKeyHash (mixKind P w) k
/-- the set at a: each of its entries is one of ks -/
structure TupSet (P : Program) (w : World) (h : Heap) (a : Addr) (ks : List (Addr × List Key)) (es : Array (Int × Value)) (ep : Nat) (t : SetTable) : Prop where
  ob : ∃ o, h.get? a = some o ∧ o.ExactSet ∧ o.data = .set es ep t
  tab : TabOk t (es.toList.map (·.1))
  ent : ∀ e ∈ es.toList, ∃ k b, e = (KH P w k, Value.ref b) ∧ IsTupleKey (mixKind P w) h k b ∧ (b, k) ∈ ks
  len : es.size = ks.length
  led : w.params.followText "set-order" = true ∨ t.led = true
  room : es.size * 5 < t.mask * 3
  few : es.size < 18
section
variable {P : Program} {w : World} {A : Around} {E : Value → Shared → Prop} {s : Shared} {D : Addr} {ks : List (Addr × List Key)} {es : Array (Int × Value)} {ep : Nat} {t : SetTable}
theorem TupSet.szT (R : TupSet P w s.heap D ks es ep t) : t.place.size = es.size := by
  have z := R.tab.sz
  rw [List.length_map, Array.length_toList] at z
  exact z
theorem TupSet.fits (R : TupSet P w s.heap D ks es ep t) : t.fits es.size = true := by
  have z := R.szT
  have r := R.room
  unfold SetTable.fits SetTable.fill
  rw [R.tab.dm, z]
  simp
  omega
theorem items_key {k : List Key} {l : List Value} (h : ItemsAre (mixKind P w) k l) : ∀ v ∈ l, ∀ n, ofAClassStatement n v = pure false := by
  induction h with
  | nil => exact fun v hv => nomatch hv
  | @cons k v ks vs h1 _ ih =>
    intro u hu n
    rcases List.mem_cons.mp hu with z | z
    · rw [z]
      rcases keyIs_shape h1 with ⟨i, t, _, e⟩ | ⟨x, t, _, e⟩ <;> (rw [e]; cases n <;> rfl)
    · exact ih u z n
theorem no_class {k : List Key} {b : Addr} {Q : Bool → Shared → Prop} (hk : IsTupleKey (mixKind P w) s.heap k b) (h : Q false s) : wpAny (model P w) A (ofAClassStatement 8 (.ref b)) Q E s := by
  have ty := hk.typeIs
  obtain ⟨o, its, n, eo, _, ed, hi⟩ := hk
  have all := items_key hi
  unfold ofAClassStatement
  refine wpAny_bind (wpAny_typeOf ty ?_)
  dsimp only
  rw [if_pos (by decide)]
  try simp only [Bool.not_true, Bool.false_eq_true, if_false]
  show wpAny _ _ (seqItems? (.ref b) >>= _) _ _ s
  refine wpAny_bind (wpAny_seqItems eo ed ?_)
  dsimp only
  refine wpAny_bind (show wpAny _ _ (forIn its _ _) _ _ s from ?_)
  rw [← Array.forIn_toList]
  refine wpAny_forIn_list _ (fun l r t => t = s ∧ r.1 = none ∧ ∀ v ∈ l, ∀ n, ofAClassStatement n v = pure false) _ (fun v l r t z => ?_) (fun r t z => ?_) _ _ ⟨rfl, rfl, all⟩
  · obtain ⟨rfl, hr, hl⟩ := z
    rw [hl v (.head _)]
    refine wpAny_bind (wpAny_pure ?_)
    rw [if_neg (by decide)]
    exact wpAny_pure ⟨rfl, rfl, fun u hu => hl u (.tail _ hu)⟩
  · obtain ⟨rfl, hr, _⟩ := z
    obtain ⟨r1, r2⟩ := r
    cases (show r1 = none from hr)
    exact wpAny_pure h
theorem unseen {k : List Key} {b : Addr} {Q : Bool → Shared → Prop} (hk : IsTupleKey (mixKind P w) s.heap k b) {ys : List Value} (hy : ∀ y ∈ ys, ∃ j c, y = Value.ref c ∧ IsTupleKey (mixKind P w) s.heap j c) (h : Q false s) : wpAny (model P w) A (searchCouldBeSeen (.ref b) ys) Q E s := by
  unfold searchCouldBeSeen
  refine wpAny_bind (wpAny_forIn_list _ (fun l r t => t = s ∧ r.1 = none ∧ ∀ y ∈ l, ∃ j c, y = Value.ref c ∧ IsTupleKey (mixKind P w) s.heap j c) _ (fun v l r t z => ?_) (fun r t z => ?_) _ _ ⟨rfl, rfl, hy⟩)
  · obtain ⟨rfl, hr, hl⟩ := z
    obtain ⟨j, c, rfl, hc⟩ := hl v (.head _)
    have tl := fun u (hu : u ∈ l) => hl u (.tail _ hu)
    dsimp only
    by_cases same : (b == c || (carriedByValue (.ref b) && carriedByValue (.ref c))) = true
    · exact wp_if_pos same (wpAny_pure ⟨rfl, rfl, tl⟩)
    · refine wp_if_neg same (wpAny_bind (wpAny_eqIsQuiet_tuple hk ?_))
      rw [if_neg (by decide)]
      refine wpAny_bind (wpAny_eqIsQuiet_tuple hc ?_)
      rw [if_neg (by decide)]
      refine wpAny_bind (no_class hk ?_)
      rw [if_neg (by decide)]
      refine wpAny_bind (no_class hc ?_)
      rw [if_neg (by decide)]
      exact wpAny_pure ⟨rfl, rfl, tl⟩
  · obtain ⟨rfl, hr, _⟩ := z
    obtain ⟨r1, r2⟩ := r
    cases (show r1 = none from hr)
    exact wpAny_pure h
/-- the search's c-th state -/
abbrev prb (m : Nat) (h : Int) (c : Nat) : SetTable.Probe := nth m (runAt m (SetTable.bits h % (m + 1)) (SetTable.bits h)) c
theorem prb_dummy (m : Nat) (h : Int) : ∀ c, (prb m h c).dummy = none := by
  have go : ∀ (n : Nat) (p : SetTable.Probe), p.dummy = none → (nth m p n).dummy = none := by
    intro n
    induction n with
    | zero => exact fun p z => z
    | succ n ih => exact fun p z => ih _ (by unfold adv; split <;> exact z)
  exact fun c => go c _ rfl
theorem prb_add (m : Nat) (h : Int) (c q : Nat) : nth m (prb m h c) q = prb m h (c + q) := (nth_add m c _ q).symm
theorem search_new (R : TupSet P w s.heap D ks es ep t) {x : Addr} {k : List Key} (hx : IsTupleKey (mixKind P w) s.heap k x) (hu : A.units < cLine) (new : k ∉ ks.map (·.2)) {K : Nat} (free : way t.mask (KH P w k) K ∉ t.place.toList) (near : K < 10 * SetTable.turns t.mask)
    (taken : ∀ c, c < K → way t.mask (KH P w k) c ∈ t.place.toList) {Q : SetFound → Shared → Prop} (q : Q (.free (way t.mask (KH P w k) K) false) s) : ∀ (f c : Nat) (stand : Option SetTable.Probe), stand.getD (t.probeStart (KH P w k)) = prb t.mask (KH P w k) c → c ≤ K → K - c < f →
      wpAny (model P w) A (setSearchFrom D (.ref x) (KH P w k) true f stand) Q E s
  | 0, c, stand, _, _, hf => absurd hf (Nat.not_lt_zero _)
  | f + 1, c, stand, hst, hc, hf => by
    obtain ⟨o, ho, ex, hd⟩ := R.ob
    have fit := R.fits
    have odd : ¬ t.gaveWay = true := by
      unfold SetTable.gaveWay
      rw [mask_odd R.tab.mok]
      decide
    rw [setSearchFrom_succ]
    refine wpAny_bind (wpAny_setState_of ho hd fit ?_)
    dsimp only
    refine wp_if_neg odd ?_
    try refine wpAny_bind (wpAny_pure ?_)
    rcases go_spec t R.tab.ris R.tab.dm (fun i => (es[i]?.map (·.1)).getD 0) (KH P w k) (10 * SetTable.turns t.mask) (K - c) (prb t.mask (KH P w k) c) (prb_dummy _ _ _) (by omega) (fun j hj => by rw [prb_add]; exact taken (c + j) (by omega)) (by rw [prb_add, show c + (K - c) = K by omega]; exact free) with ⟨j, i, hj, hi, hh, _, e⟩ | ⟨_, e⟩
    · rw [prb_add] at hi
      rw [prb_add, prb_add] at e
      have hil : i < es.size := by
        have z := (List.getElem?_eq_some_iff.mp hi).1
        rw [Array.length_toList, R.szT] at z
        exact z
      have ei : es[i]? = some es[i] := Array.getElem?_eq_getElem hil
      obtain ⟨k2, b, ee, hb, mb⟩ := R.ent es[i] (Array.mem_toList_iff.mpr (Array.getElem_mem hil))
      rw [ee] at ei
      have ne : k2 ≠ k := fun z => new (by rw [← z]; exact List.mem_map.mpr ⟨_, mb, rfl⟩)
      have e' : t.probe (fun i => (es[i]?.map (·.1)).getD 0) (KH P w k) (stand.getD (t.probeStart (KH P w k))) = some (.candidate (way t.mask (KH P w k) (c + j)) i (prb t.mask (KH P w k) (c + (j + 1)))) := by
        rw [hst]
        exact e
      rw [e']
      dsimp only
      have rest : wpAny (model P w) A (searchRest D (.ref x) (KH P w k) true f es t (way t.mask (KH P w k) (c + j)) i (prb t.mask (KH P w k) (c + (j + 1)))) Q E s := by
        unfold searchRest
        rw [ei]
        refine wpAny_bind (wpAny_holding (wpAny_eqBool_tuple hu hb hx (wpAny_bind (wpAny_setState_of ho hd fit ?_))))
        dsimp only
        rw [decide_eq_false ne]
        refine wp_if_neg (by decide) ?_
        try refine wpAny_bind (wpAny_pure ?_)
        rw [sameMem]
        dsimp only
        have sl : t.slot (way t.mask (KH P w k) (c + j)) = .live i := slot_live R.tab.ris hi
        rw [if_pos rfl, sl]
        dsimp only
        rw [ei]
        refine wpAny_bind (wpAny_isSame_ref_self (wpAny_bind (wpAny_pure ?_)))
        rw [if_pos rfl]
        dsimp only
        refine wp_if_neg (by decide) ?_
        exact search_new R hx hu new free near taken q f (c + (j + 1)) _ rfl (by omega) (by omega)
      by_cases hl : t.led = true
      · refine wp_if_neg (by rw [hl]; decide) ?_
        try refine wpAny_bind (wpAny_pure ?_)
        exact rest
      · refine wp_if_pos (by simp [hl]) (wpAny_bind (unseen hx (fun y hy => ?_) ?_))
        · obtain ⟨u, hu2, rfl⟩ := List.mem_map.mp hy
          have hu3 : u ∈ es.toList := by
            have z : u ∈ es ∧ u.1 = KH P w k := by simpa using hu2
            simpa using z.1
          obtain ⟨k3, b3, e3, h3, _⟩ := R.ent u hu3
          exact ⟨k3, b3, by rw [e3], h3⟩
        · refine wp_if_neg (by decide) ?_
          try refine wpAny_bind (wpAny_pure ?_)
          exact rest
    · rw [prb_add, show c + (K - c) = K by omega] at e
      have e' : t.probe (fun i => (es[i]?.map (·.1)).getD 0) (KH P w k) (stand.getD (t.probeStart (KH P w k))) = some (.empty (way t.mask (KH P w k) K) none) := by
        rw [hst]
        exact e
      rw [e']
      exact wpAny_pure q
theorem key_kept {h h' : Heap} {k : List Key} {b : Addr} {o : Obj} (hk : IsTupleKey (mixKind P w) h k b) (ho : h.get? D = some o) (hd : o.data = .set es ep t) (sb : Heap.SameBut D h h') : IsTupleKey (mixKind P w) h' k b := by
  obtain ⟨o2, its, n, e2, c2, d2, i2⟩ := hk
  refine ⟨o2, its, n, (sb.2 b fun z => ?_).trans e2, c2, d2, i2⟩
  rw [z, ho] at e2
  cases e2
  rw [hd] at d2
  cases d2
theorem order_some : ∀ l : List Nat, (∀ i ∈ l, i < es.size) → (l.filterMap fun i => es[i]?).map (·.1) = l.map (fun i => (es.map (·.1)).getD i 0) ∧ (l.filterMap fun i => es[i]?).length = l.length ∧ ∀ e ∈ l.filterMap (fun i => es[i]?), e ∈ es.toList
  | [], _ => ⟨rfl, rfl, fun e h => nomatch h⟩
  | i :: l, h => by
    obtain ⟨a1, a2, a3⟩ := order_some l fun j hj => h j (.tail _ hj)
    have hi := h i (.head _)
    have ei : es[i]? = some es[i] := Array.getElem?_eq_getElem hi
    rw [List.filterMap_cons_some ei]
    refine ⟨?_, by rw [List.length_cons, List.length_cons, a2], fun e he => ?_⟩
    · rw [List.map_cons, List.map_cons, a1]
      congr 1
      have : (es.map (·.1))[i]? = some es[i].1 := by rw [Array.getElem?_map, ei]; rfl
      rw [Array.getD_eq_getD_getElem?, this]
      rfl
    · rcases List.mem_cons.mp he with z | z
      · rw [z]
        exact Array.mem_toList_iff.mpr (Array.getElem_mem hi)
      · exact a3 e z
/-- the table laid anew -/
theorem relay_few {o : Obj} (ho : s.heap.get? D = some o) (ex : o.ExactSet) (hd : o.data = .set es ep t) (tab : TabOk t (es.toList.map (·.1))) (ent : ∀ e ∈ es.toList, ∃ k b, e = (KH P w k, Value.ref b) ∧ IsTupleKey (mixKind P w) s.heap k b ∧ (b, k) ∈ ks) (len : es.size = ks.length)
    (led : w.params.followText "set-order" = true ∨ t.led = true) (few : es.size < 18) (fl : es.size ≤ t.mask) {wanted : Nat} (hw : SetTable.sizeAbove wanted = 32) {Q : Unit → Shared → Prop}
    (q : ∀ h' es' ep' t', Heap.SameBut D s.heap h' → TupSet P w h' D ks es' ep' t' → Q () { s with heap := h' }) : wpAny (model P w) A (setRelay D wanted) Q E s := by
  have sz : t.place.size = es.size := by
    have z := tab.sz
    rw [List.length_map, Array.length_toList] at z
    exact z
  have fit : t.fits es.size = true := by
    unfold SetTable.fits SetTable.fill
    rw [tab.dm, sz]
    simp
    omega
  obtain ⟨t', order, e, hp, T, em, el, _, ed⟩ := relaid_ok t (hs := es.map (·.1)) (wanted := wanted) (M := 31) (by rw [hw]) (.inr (.inl rfl)) (by rw [Array.size_map]; omega)
  rw [Array.size_map] at hp
  obtain ⟨r1, r2, r3⟩ := order_some (es := es) order.toList fun i hi => List.mem_range.mp (hp.mem_iff.mp hi)
  have eF : (order.filterMap (es[·]?)).toList = order.toList.filterMap fun i => es[i]? := by simp
  have hs2 : (order.filterMap (es[·]?)).size = es.size := by
    rw [← Array.length_toList, eF, r2, hp.length_eq, List.length_range]
  rw [setRelay_eq]
  refine wpAny_bind (wpAny_setState_of ho hd fit ?_)
  dsimp only
  refine wp_if_neg (by rw [hw, sizeLine_eq]; omega) ?_
  try refine wpAny_bind (wpAny_pure ?_)
  rw [e]
  dsimp only
  refine wpAny_bind (wp_if_neg (by rw [hs2]; simp) ?_)
  try refine wpAny_bind (wpAny_pure ?_)
  refine wpAny_pure ?_
  dsimp only
  refine wpAny_storeSet_of ho hd ?_ (by rw [hs2, sizeLine_eq]; omega)
  have sb : Heap.SameBut D s.heap (s.heap.update D (Obj.putSet (order.filterMap (es[·]?)) t')) := Heap.SameBut.update ..
  refine q _ _ (ep + 1) t' sb ⟨⟨_, store_at ho hd, ⟨ex.1, ex.2.1, ex.2.2⟩, rfl⟩, by rw [eF, r1]; exact T, fun u hu => ?_, by rw [hs2, len], by rw [el]; exact led, by rw [hs2, em]; omega, by rw [hs2]; exact few⟩
  rw [eF] at hu
  obtain ⟨k, b, e1, e2, e3⟩ := ent u (r3 u hu)
  exact ⟨k, b, e1, key_kept e2 ho hd sb, e3⟩
/-- one more, unlike all -/
theorem add_new (R : TupSet P w s.heap D ks es ep t) {x : Addr} {k : List Key} (hx : IsTupleKey (mixKind P w) s.heap k x) (hu : A.units < cLine) (new : k ∉ ks.map (·.2)) (few : ks.length < 6) {Q : Bool → Shared → Prop}
    (q : ∀ b h' es' ep' t', Heap.SameBut D s.heap h' → TupSet P w h' D ((x, k) :: ks) es' ep' t' → Q b { s with heap := h' }) : wpAny (model P w) A (setAddHashed D (.ref x) (KH P w k)) Q E s := by
  obtain ⟨o, ho, ex, hd⟩ := R.ob
  have room := R.room
  have len := R.len
  obtain ⟨K, near, free, taken⟩ := R.tab.first (by rw [List.length_map, Array.length_toList]; omega) (KH P w k)
  have small : K < 100000 := by
    have : 10 * SetTable.turns t.mask ≤ 1420 := by
      unfold SetTable.turns
      rcases R.tab.mok with e | e | e <;> omega
    omega
  unfold setAddHashed
  rw [show (100000 : Nat) = 99999 + 1 from rfl, setAddHashedIn_succ]
  refine wpAny_holding (wpAny_bind (wpAny_setState_of ho hd R.fits ?_))
  dsimp only
  refine wp_if_neg (by unfold byScan; simp [Value.scannable]) ?_
  try refine wpAny_bind (wpAny_pure ?_)
  refine wpAny_bind (show wpAny _ _ (setSearchFrom D (.ref x) (KH P w k) true 100000 none) _ _ _ from search_new R hx hu new free near taken ?_ 100000 0 none rfl (Nat.zero_le _) (by omega))
  dsimp only
  refine wpAny_bind (wpAny_setState_of ho hd R.fits ?_)
  dsimp only
  obtain ⟨q1, q2, q3, q4, q5, q6, q7, q8, q9⟩ := R.tab.put free taken
  generalize hpt : t.put (way t.mask (KH P w k) K) = pt at q1 q3 q4 q5 q6 q7 q8 q9 ⊢
  obtain ⟨t1, n1⟩ := pt
  dsimp only at q1 q3 q4 q5 q6 q7 q8 q9 ⊢
  rw [← q1] at q2 q3
  have eI : (SetTable.insertAt es n1 (KH P w k, Value.ref x)).toList = es.toList.take n1 ++ (KH P w k, Value.ref x) :: es.toList.drop n1 := SetTable.toList_insertAt _ _ _
  have hes : (SetTable.insertAt es n1 (KH P w k, Value.ref x)).size = es.size + 1 := by
    rw [← Array.length_toList, eI, len_ins _ (by rw [Array.length_toList]; rw [List.length_map, Array.length_toList] at q2; exact q2), Array.length_toList]
  have hhs : (SetTable.insertAt es n1 (KH P w k, Value.ref x)).toList.map (·.1) = (es.toList.map (·.1)).take n1 ++ KH P w k :: (es.toList.map (·.1)).drop n1 := by
    rw [eI, List.map_append, List.map_cons, List.map_take, List.map_drop]
  rw [← hhs] at q3
  have hin : ∀ u ∈ (SetTable.insertAt es n1 (KH P w k, Value.ref x)).toList, u = (KH P w k, Value.ref x) ∨ u ∈ es.toList := fun u hu => by
    rw [eI] at hu
    exact mem_ins.1 hu
  rw [List.length_map, Array.length_toList] at q9
  generalize SetTable.insertAt es n1 (KH P w k, Value.ref x) = es1 at q3 hes hin ⊢
  have go : ∀ t2 : SetTable, TabOk t2 (es1.toList.map (·.1)) → t2.mask = t.mask → t2.led = t.led → t2.fill = es.size + 1 → wpAny (model P w) A (do
      storeSet D es1 t2
      if (!false && t2.tooFull) = true then do
        setRelay D (SetTable.grown (es.size + 1))
        pure true
      else pure true) Q E s := fun t2 T2 m2 l2 f2 => by
    refine wpAny_bind (wpAny_storeSet_of ho hd ?_ (by rw [hes, sizeLine_eq]; omega))
    have sb : Heap.SameBut D s.heap (s.heap.update D (Obj.putSet es1 t2)) := Heap.SameBut.update ..
    have ho1 := store_at (es' := es1) (t' := t2) ho hd
    generalize s.heap.update D (Obj.putSet es1 t2) = h1 at sb ho1 ⊢
    have ent1 : ∀ e ∈ es1.toList, ∃ j b, e = (KH P w j, Value.ref b) ∧ IsTupleKey (mixKind P w) h1 j b ∧ (b, j) ∈ (x, k) :: ks := fun e he => by
      rcases hin e he with z | z
      · exact ⟨k, x, z, key_kept hx ho hd sb, .head _⟩
      · obtain ⟨j, b, e1, e2, e3⟩ := R.ent e z
        exact ⟨j, b, e1, key_kept e2 ho hd sb, .tail _ e3⟩
    have led2 : w.params.followText "set-order" = true ∨ t2.led = true := by rw [l2]; exact R.led
    by_cases full : t2.tooFull = true
    · refine wp_if_pos (by rw [full]; rfl) ?_
      have f3 := full
      unfold SetTable.tooFull at f3
      rw [decide_eq_true_eq, f2, m2] at f3
      have m7 : es.size + 1 = 5 := by
        rcases R.tab.mok with e | e | e <;> rw [e] at f3 room <;> omega
      have gr : SetTable.sizeAbove (SetTable.grown (es.size + 1)) = 32 := by rw [m7]; exact size_20
      refine wpAny_bind (relay_few (s := { s with heap := h1 }) (ks := (x, k) :: ks) ho1 ⟨ex.1, ex.2.1, ex.2.2⟩ rfl T2 ent1 (by rw [hes, len, List.length_cons]) led2 (by omega) (by rw [hes, m2]; omega) gr fun h2 es2 ep2 t3 sb2 R2 => ?_)
      exact wpAny_pure (q true h2 es2 ep2 t3 (sb.trans sb2) R2)
    · refine wp_if_neg (by simp [full]) (wpAny_pure (q true h1 es1 (ep + 1) t2 sb ⟨⟨_, ho1, ⟨ex.1, ex.2.1, ex.2.2⟩, rfl⟩, T2, ent1, by rw [hes, len, List.length_cons], led2, ?_, by omega⟩))
      have f3 := full
      unfold SetTable.tooFull at f3
      rw [decide_eq_true_eq, f2, m2] at f3
      rw [hes, m2]
      omega
  by_cases pl : t1.plain = true
  · rw [pl]
    simp only [if_true]
    refine wpAny_bind (by_value hx fun c => ?_)
    cases c with
    | true => exact go t1 q3 q4 q5 q9
    | false => exact go { t1 with plain := false } ⟨q3.ris, q3.dm, q3.sz, q3.mok, q3.bd, q3.reach⟩ q4 q5 q9
  · have pf : t1.plain = false := by simpa using pl
    rw [pf]
    simp only [Bool.false_eq_true, if_false]
    refine wpAny_bind (wpAny_pure ?_)
    exact go t1 q3 q4 q5 q9
end
/-- the set at D, what it holds -/
def TupO (P : Program) (w : World) (D : Addr) (z : List (Addr × List Key)) : HO := .ext fun h => ∃ (o : Obj) (es : Array (Int × Value)) (ep : Nat) (t : SetTable), h.get? D = some o ∧ o.ExactSet ∧ o.data = .set es ep t ∧ TabOk t (es.toList.map (·.1)) ∧
  (∀ e ∈ es.toList, ∃ k b, e = (KH P w k, Value.ref b) ∧ (b, k) ∈ z) ∧ es.size = z.length ∧ (w.params.followText "set-order" = true ∨ t.led = true) ∧ es.size * 5 < t.mask * 3 ∧ es.size < 18
theorem tupO_new {P Pg : Program} {w wg : World} {H : Hp} {h : Heap} {D : Addr} {z : List (Addr × List Key)} (q : ∃ (o : Obj) (es : Array (Int × Value)) (ep : Nat) (t : SetTable), h.get? D = some o ∧ o.ExactSet ∧ o.data = .set es ep t ∧ TabOk t (es.toList.map (·.1)) ∧
  (∀ e ∈ es.toList, ∃ k b, e = (KH P w k, Value.ref b) ∧ (b, k) ∈ z) ∧ es.size = z.length ∧ (w.params.followText "set-order" = true ∨ t.led = true) ∧ es.size * 5 < t.mask * 3 ∧ es.size < 18) : ObjOk Pg wg H h D (TupO P w D z) := by
  have q' := q
  obtain ⟨o, es, ep, t, e, r⟩ := q'
  exact ⟨q, ⟨o, e⟩, fun h1 h2 ⟨o, es, ep, t, e, r⟩ st => ⟨o, es, ep, t, st _ e, r⟩⟩
def RTups (K : PySem.W.Frag) : Hp → List (Addr × List Key) → V → List (Addr × List Key) → Prop := fun H z y z' => ∃ (t : Addr) (ks : List Key), y = .ref t ∧ SqT K H t (ks.map kV) ∧ z' = (t, ks) :: z ∧ ks ∉ z.map (·.2) ∧ z.length < 6 ∧ ∀ p ∈ z, SqT K H p.1 (p.2.map kV)
theorem bagTups {X : Cx} (hu : X.A.in1.units < cLine) : Bag X (TupO X.prog X.w) [] (RTups X.K) where
  new := fun H h => by
    have R := setTR_fresh (P := X.prog) (w := X.w) (h := h.push { cls := .type "set", dict := none, data := .set #[] 0 (.fresh 0 0 (!X.w.params.followText "set-order")) }) (a := h.objs.size) (Heap.get?_push_size _ rfl)
    exact tupO_new ⟨_, #[], 0, _, Heap.get?_push_size _ rfl, ⟨rfl, rfl, rfl⟩, rfl, R.tab, (fun e he => nomatch he), rfl, R.led, R.room, by decide⟩
  add := fun Y pins σ H s D z z' y u Q E hp hw hk hA I hD r hR hq => by
    obtain ⟨t, ks, rfl, ht, rfl, new, few, old⟩ := hR
    cases (show u = Value.ref t from r)
    obtain ⟨o, es, ep, tb, ho, hx, hd, htab, hent, hlen, hled, hroom, hfew⟩ := (I.hok D _ hD).1
    have key : ∀ (b : Addr) (k : List Key), SqT X.K H b (k.map kV) → IsTupleKey (mixKind X.prog X.w) s.heap k b := fun b k hb => by
      obtain ⟨its, rv, tp, _⟩ := I.tuple (by rw [hk]; exact hb)
      obtain ⟨o2, eo2, c2, n2, d2⟩ := tp
      exact ⟨o2, its.toArray, n2, eo2, c2, d2, by simpa using items_are rv⟩
    have isT := key t ks ht
    have R : TupSet X.prog X.w s.heap D z es ep tb := ⟨⟨o, ho, hx, hd⟩, htab, fun e he => by
      obtain ⟨k, b, e1, m⟩ := hent e he
      exact ⟨k, b, e1, key b k (old _ m), m⟩, hlen, hled, hroom, hfew⟩
    have setT : s.TypeIs (.ref D) "set" := ⟨_, ho, hx.1⟩
    refine wpAny_call_entry F.slot_set_add setT F.entry_set_add ?_ (F.args_set_add_2 _ _)
    unfold Builtin.«set.add» Builtin.Frozenset.oneOther Builtin.Frozenset.addrOf setAdd
    simp only [List.isEmpty_nil, bind_assoc]
    refine wpAny_bind (wpAny_pure ?_)
    try dsimp only
    refine wpAny_bind (wpAny_pure ?_)
    try dsimp only
    refine wpAny_bind (wpAny_holding (wpAny_bind (wpAny_pyHash_tuple hu isT ?_)))
    refine add_new (s := { s with toks := s.toks + (ks.length + 1) }) R isT hu new few fun b h' es3 ep3 t3 sb R3 => ?_
    obtain ⟨o3, e3, x3, d3⟩ := R3.ob
    show wpAny _ _ (ret Value.none) _ _ _
    refine wpAny_pure ⟨_, rfl, hq _ (I.write (e := D) (t' := s.toks + (ks.length + 1)) (by rw [hD]; trivial) (.inl rfl) (fun c v hc e => (sb.2 c hc).trans e) ⟨_, e3⟩ ?_)⟩
    exact tupO_new ⟨o3, es3, ep3, t3, e3, x3, d3, R3.tab, fun e he => by
      obtain ⟨k, b, e1, _, m⟩ := R3.ent e he
      exact ⟨k, b, e1, m⟩, R3.len, R3.led, R3.room, R3.few⟩
/-- len of it -/
def rLenTups (P : Program) (w : World) : List V → Hp → VK → Prop := fun xs H Q => ∃ (a : Addr) (z : List (Addr × List Key)), xs = [.ref a] ∧ H a = some (TupO P w a z) ∧ Q (.int (z.length : Nat)) H
theorem call_lenTups {X : Cx} : CallR X (.builtin "len") (rLenTups X.prog X.w) := by
  intro pins s σ H xs us Q I r h
  obtain ⟨a, z, rfl, ha, q⟩ := h
  obtain ⟨u, rfl, ru⟩ := vals1 r
  cases ru
  obtain ⟨o, es, ep, t, ho, hx, hd, tab, _, len, _, room, few⟩ := (I.hok a _ ha).1
  have sz : t.place.size = es.size := by
    have z := tab.sz
    rw [List.length_map, Array.length_toList] at z
    exact z
  refine call_len_set ho hx hd ?_ (by omega) ?_
  · unfold SetTable.fits SetTable.fill
    rw [tab.dm, sz]
    simp
    omega
  · rw [len]
    exact ⟨.int (z.length : Nat), H, I.tok _, ⟨_, rfl⟩, q⟩
/-- over a few unlike tuples -/
theorem sc_tups {P : Program} {w : World} {K : PySem.W.Frag} {J : It} {xs : List V} {G : Hp → Prop} (wk : Walk J xs.length G (YAt xs)) {g : TG} {te : TE} {vs : List Nat} {σ : L2.St} {H1 : Hp} {D : Addr} {Qd : Hp → Prop} (hD : H1 D = none) (kss : List (List Key)) (hl : kss.length = xs.length) (h6 : xs.length ≤ 6) (nd : kss.Nodup) (hG : ∀ H, Same H1 H → G H)
    (step : ∀ (i : Nat) x ks H (Q : VK), xs[i]? = some x → kss[i]? = some ks → Same H1 H → (∀ H4 (t : Addr), Same H H4 → SqT K H4 t (ks.map kV) → Q (.ref t) H4) → g x (wipe σ vs) H fun σ2 H2 => wipe σ2 vs = wipe σ vs ∧ te σ2 H2 Q)
    (done : ∀ H' z, Same H1 H' → H' D = some (TupO P w D z) → z.length = xs.length → Qd H') : ScGoal (TupO P w) [] (RTups K) g te vs σ J H1 D Qd := by
  refine ⟨fun i m H => m = xs.length - i ∧ i ≤ xs.length ∧ Same H1 H ∧ ∃ z : List (Addr × List Key), H D = some (TupO P w D z) ∧ z.map (·.2) = (kss.take i).reverse ∧ ∀ p ∈ z, SqT K H p.1 (p.2.map kV), ⟨xs.length, by simp, Nat.zero_le _, same_new hD, [], upd_same, rfl, fun p hp => nomatch hp⟩, ?_⟩
  rintro i m H ⟨rfl, hi, s1, z, hK, hz, ht⟩
  have zl : z.length = i := by
    have q := congrArg List.length hz
    rw [List.length_map, List.length_reverse, List.length_take] at q
    omega
  by_cases hlt : i < xs.length
  · refine .inr ⟨wk.goes i H hlt (hG H s1), fun H' => Same H1 H' ∧ ∃ z : List (Addr × List Key), H' D = some (TupO P w D z) ∧ z.map (·.2) = (kss.take (i + 1)).reverse ∧ ∀ p ∈ z, SqT K H' p.1 (p.2.map kV), fun H' q => ⟨xs.length - (i + 1), by omega, rfl, hlt, q⟩, fun x H' y => ?_⟩
    obtain ⟨e0, ex⟩ := wk.yields i H x H' hlt (hG H s1) y
    subst e0
    have ek : kss[i]? = some kss[i] := List.getElem?_eq_getElem (by omega)
    have htk : kss.take (i + 1) = kss.take i ++ [kss[i]] := by rw [List.take_succ, ek]; rfl
    have nw : kss[i] ∉ kss.take i := fun hm => by
      obtain ⟨j, hj, e⟩ := List.getElem_of_mem hm
      rw [List.length_take] at hj
      rw [List.getElem_take] at e
      have q := (List.getElem_inj nd).mp e
      omega
    refine step i x _ _ _ ex ek s1 fun H4 t s4 h4 => ⟨z, (t, kss[i]) :: z, s4 _ _ hK, ⟨t, _, rfl, h4, rfl, fun hm => nw ?_, by omega, fun p hp => sqT_same s4 (ht p hp)⟩, fun b o e => ?_, (t, kss[i]) :: z, upd_same, ?_, fun p hp => ?_⟩
    · rw [hz] at hm
      exact List.mem_reverse.mp hm
    · rw [upd_ne (ne_of_none e hD)]
      exact s4 _ _ (s1 _ _ e)
    · rw [List.map_cons, hz, htk, List.reverse_append]
      rfl
    · have other : ∀ {b : Addr} {ks : List Key}, SqT K H4 b (ks.map kV) → SqT K (upd H4 D (TupO P w D ((t, kss[i]) :: z))) b (ks.map kV) := fun {b ks} hb => by
        have nbD : ∀ u, H4 D = some u → (∀ xs, u ≠ .tup xs) → (∀ o xs, u ≠ .frz o (.tup xs)) → ∀ xs, (H4 b = some (.tup xs) ∨ ∃ o, H4 b = some (.frz o (.tup xs))) → b ≠ D := fun u e n1 n2 xs h z => by
          rw [z, e] at h
          rcases h with h | ⟨o, h⟩
          · exact n1 _ (Option.some.inj h)
          · exact n2 _ _ (Option.some.inj h)
        have eD := s4 _ _ hK
        rcases hb with hb | hb
        · have ne := nbD _ eD (fun xs z => by unfold TupO at z; cases z) (fun o xs z => by unfold TupO at z; cases z) _ hb
          rcases hb with hb | ⟨o, hb⟩
          · exact .inl (.inl (by rw [upd_ne ne]; exact hb))
          · exact .inl (.inr ⟨o, by rw [upd_ne ne]; exact hb⟩)
        · exact .inr hb
      rcases List.mem_cons.mp hp with e | hp
      · rw [e]
        exact other h4
      · exact other (sqT_same s4 (ht p hp))
  · have e : i = xs.length := by omega
    exact .inl ⟨by rw [e]; exact wk.stops H (hG H s1), done H z s1 hK (by omega)⟩
end Pb

/-! PbLc2 -/
set_option Elab.async false
set_option linter.all false
set_option maxRecDepth 100000
set_option maxHeartbeats 4000000
/-! Pb: a list comprehension of two loops, by invariants; data away from a dict -/
namespace Pb
open PySem PySem.Spec PyProof.Rows L2
def In2 (J1 : It) (g1 : TG) (tt1 : TT) (te : TE) (vs1 : List Nat) (σ2 : L2.St) (H4 : Hp) (D : Addr) (Nx : Hp → Prop) : Prop :=
  ∃ W1 : Nat → Nat → Hp → Prop, (∃ m, W1 0 m H4) ∧ ∀ j k H, W1 j k H →
      (J1.stop j H ∧ Nx H) ∨ (J1.go j H ∧ ∃ Nx1 : Hp → Prop, (∀ H', Nx1 H' → ∃ k', k' < k ∧ W1 (j + 1) k' H') ∧ ∀ x H', J1.yld j H x H' → gM g1 x (wipe σ2 vs1) H' fun σ3 H5 => wipe σ3 vs1 = wipe σ2 vs1 ∧ tMT tt1 σ3 H5 fun b H6 =>
        if b = true then tM te σ3 H6 fun y H7 => ∃ acc, H7 D = some (.lst acc) ∧ acc.length < sizeLine ∧ Nx1 (upd H7 D (.lst (acc ++ [y]))) else Nx1 H6)
theorem in2_inv {J1 : It} {n1 : Nat} {G1 : Hp → Prop} {Y1 : Nat → Hp → V → Hp → Prop} (w1 : Walk J1 n1 G1 Y1) {g1 : TG} {tt1 : TT} {te : TE} {vs1 : List Nat} {σ2 : L2.St} {H4 : Hp} {D : Addr} {Nx : Hp → Prop} (Pv : Nat → Hp → Prop) (h0 : Pv 0 H4) (hG : ∀ i H, i ≤ n1 → Pv i H → G1 H)
    (hs : ∀ Pw : Nat → Hp → Prop, (∀ i H, Pv i H → Pw i H) → ∀ i x H H', i < n1 → Pv i H → Y1 i H x H' → g1 x (wipe σ2 vs1) H' fun σ3 H5 => wipe σ3 vs1 = wipe σ2 vs1 ∧ tt1 σ3 H5 fun b H6 =>
      if b = true then te σ3 H6 fun y H7 => ∃ acc, H7 D = some (.lst acc) ∧ acc.length < sizeLine ∧ Pw (i + 1) (upd H7 D (.lst (acc ++ [y]))) else Pw (i + 1) H6) (hd : ∀ H, Pv n1 H → Nx H) : In2 J1 g1 tt1 te vs1 σ2 H4 D Nx := by
  refine ⟨fun i m H => m = n1 - i ∧ i ≤ n1 ∧ Pv i H, ⟨n1, by simp, Nat.zero_le _, h0⟩, ?_⟩
  rintro i m H ⟨rfl, hi, p⟩
  by_cases hlt : i < n1
  · refine .inr ⟨w1.goes i H hlt (hG i H hi p), Pv (i + 1), fun H' q => ⟨n1 - (i + 1), by omega, rfl, hlt, q⟩, fun x H' y => ?_⟩
    refine ⟨_, hs Pv (fun _ _ q => q) i x H H' hlt p (w1.yields i H x H' hlt (hG i H hi p) y), fun σ2 H2 q => ⟨q.1, _, q.2, fun b H3 q => ?_⟩⟩
    cases b with
    | true => exact ⟨_, q, fun y H4 q => q⟩
    | false => exact q
  · have e : i = n1 := by omega
    subst e
    exact .inl ⟨w1.stops H (hG i H hi p), hd H p⟩
theorem lc2_inv {J : It} {n : Nat} {G : Hp → Prop} {Y : Nat → Hp → V → Hp → Prop} (w : Walk J n G Y) {g g1 : TG} {tt tt1 : TT} {wi1 : TI} {te : TE} {vs vs1 : List Nat} {σ : L2.St} {H1 : Hp} {D : Addr} {Qd : Hp → Prop} (Pv : Nat → Hp → Prop) (h0 : Pv 0 (upd H1 D (.lst []))) (hG : ∀ i H, i ≤ n → Pv i H → G H)
    (hs : ∀ Pw : Nat → Hp → Prop, (∀ i H, Pv i H → Pw i H) → ∀ i x H H', i < n → Pv i H → Y i H x H' → g x (wipe σ vs) H' fun σ2 H2 => wipe σ2 vs = wipe σ vs ∧ tt σ2 H2 fun b H3 => b = true ∧ wi1 σ2 H3 fun J1 H4 => In2 J1 g1 tt1 te vs1 σ2 H4 D (Pw (i + 1)))
    (hd : ∀ H, Pv n H → Qd H) : Lc2Goal g tt wi1 g1 tt1 te vs vs1 σ J H1 D Qd := by
  refine ⟨fun i m H => m = n - i ∧ i ≤ n ∧ Pv i H, ⟨n, by simp, Nat.zero_le _, h0⟩, ?_⟩
  rintro i m H ⟨rfl, hi, p⟩
  by_cases hlt : i < n
  · refine .inr ⟨w.goes i H hlt (hG i H hi p), Pv (i + 1), fun H' q => ⟨n - (i + 1), by omega, rfl, hlt, q⟩, fun x H' y => ?_⟩
    refine ⟨_, hs Pv (fun _ _ q => q) i x H H' hlt p (w.yields i H x H' hlt (hG i H hi p) y), fun σ2 H2 q => ⟨q.1, _, q.2, fun b H3 q => ?_⟩⟩
    obtain ⟨rfl, q⟩ := q
    exact iteT ⟨_, q, fun J1 H4 q => q⟩
  · have e : i = n := by omega
    subst e
    exact .inl ⟨w.stops H (hG i H hi p), hd H p⟩
theorem hide_swap {H0 H : Hp} {ms ks : List Addr} (s : Same H0 H) (n : ∀ k ∈ ks, k ∈ ms ∨ H0 k = none) : Same (hide H0 ms) (hide H ks) := fun b o e => by
  obtain ⟨e1, e2⟩ := hide_of e
  rw [hide_at fun z => (n b z).elim e2 fun z => by rw [z] at e1; cases e1]
  exact s b o e1
theorem atI_natc {α : Type} {xs : List α} {i : Nat} {x : α} (e : xs[i]? = some x) : atI xs (i : Int) = some x := by
  have h := (List.getElem?_eq_some_iff.mp e).1
  unfold atI ixN
  rw [if_pos (by omega), if_pos (by omega)]
  exact e
theorem eqV_str {a b : Str} : eqV (.str a) (.str b) = decide (a = b) := by
  unfold eqV
  first
    | rfl
    | (by_cases q : a = b <;> simp [q])
/-- xs.index(x), the texts unlike -/
theorem a_index {K : PySem.W.Frag} {H : Hp} {a : Addr} {ls : List Str} {l : Str} {j : Nat} {Q : VK} (h : SqL K H a (ls.map V.str)) (nd : ls.Nodup) (e : ls[j]? = some l) (q : Q (.int (j : Nat)) H) : rIndex K (.ref a) [.str l] H Q :=
  ⟨a, _, .str l, j, .str l, rfl, rfl, h, rfl, flat_strs ls, by rw [List.getElem?_map, e]; rfl, by rw [eqV_str]; exact decide_eq_true rfl, fun m z' hm ez => by
    rw [List.getElem?_map] at ez
    cases q : ls[m]? with
    | none => rw [q] at ez; cases ez
    | some k =>
      rw [q] at ez
      cases ez
      rw [eqV_str]
      refine decide_eq_false fun z => ?_
      subst z
      have h1 := (List.getElem?_eq_some_iff.mp q)
      have h2 := (List.getElem?_eq_some_iff.mp e)
      obtain ⟨b1, c1⟩ := h1
      obtain ⟨b2, c2⟩ := h2
      exact (List.pairwise_iff_getElem.mp nd) m j b1 b2 hm (c1.trans c2.symm), q⟩
/-! ### an object made with no argument -/
theorem pe_mk0 {X : Cx} {k j : Nat} {C : Addr} {x : Str} {sp : Sp} {dvs : List V} {p pos : Pos} (c : C8.Mak X.prog X.w X.K X.mg X.base k x C sp dvs) (hr : Room j X.A) (hk : k + 1 ≤ j) (hg : Gl X x) (hdb : (x == ("__debug__" : Str)) = false := by decide) :
    PE X (.Call (.Name x p) [] [] pos) (tMake C sp dvs C8.E0 tNil) := by
  obtain ⟨f, fd, ps, ds, M, F, hm, b, d⟩ := c.ex
  exact pe_make0 M F (hr.mono hk) hg hm b d C8.pass0 hdb
/-! ### data away from a dict -/
def away (H : Hp) (a : Addr) : Prop := ∃ kvs, H a = some (.dK kvs)
theorem rd_away {H : Hp} {a b : Addr} {u : HO} (e : away H a) (h : Rd H b u) (n : ∀ kvs, u ≠ .dK kvs) (nf : ∀ o v, u ≠ .frz o v) : Rd (hide H [a]) b u := by
  obtain ⟨kvs, e⟩ := e
  have ne : b ≠ a := fun z => by
    subst z
    rcases h with h | ⟨o, h⟩
    · rw [e] at h; exact n kvs (Option.some.inj h).symm
    · rw [e] at h; cases h
  have nm : b ∉ [a] := fun z => ne (List.mem_singleton.mp z)
  rcases h with h | ⟨o, h⟩
  · exact .inl (by rw [hide_at nm]; exact h)
  · exact .inr ⟨o, by rw [hide_at nm]; exact h⟩
mutual
theorem Dp.away {K : PySem.W.Frag} {H : Hp} {a : Addr} (e : away H a) : ∀ {v : V} {d : PyData}, Dp K H v d → Dp K (hide H [a]) v d
  | _, _, .non => .non
  | _, _, .bl b => .bl b
  | _, _, .int i => .int i
  | _, _, .str x => .str x
  | _, _, .lst h t => .lst (h.elim (fun h => .inl (rd_away e h (fun _ z => nomatch z) fun _ _ z => nomatch z)) .inr) (DpAll.away e t)
  | _, _, .tup h t => .tup (h.elim (fun h => .inl (rd_away e h (fun _ z => nomatch z) fun _ _ z => nomatch z)) .inr) (DpAll.away e t)
theorem DpAll.away {K : PySem.W.Frag} {H : Hp} {a : Addr} (e : away H a) : ∀ {vs : List V} {ds : List PyData}, DpAll K H vs ds → DpAll K (hide H [a]) vs ds
  | _, _, .nil => .nil
  | _, _, .cons h t => .cons (Dp.away e h) (DpAll.away e t)
end
end Pb

/-! PbTi -/
set_option Elab.async false
set_option linter.all false
set_option maxRecDepth 100000
set_option maxHeartbeats 4000000
/-! Pb: a method of a part of a tuple -/
namespace Pb
open PySem PySem.Spec PyProof.Rows L2
def Tight (v : Value) (s : Shared) : Prop := s.TypeIs v "tuple" ∧ ∀ a, v = .ref a → ∃ ob, s.heap.get? a = some ob ∧ ob.dict = none
section
variable {X : Cx} {o e e1 : Expr} {es : List Expr} {te : TE} {t : TA} {name : Str} {apos cpos pos p2 : Pos} {id : String} {r : V → List V → Hp → VK → Prop} {lo hi : Option Expr} {tl th : TO}
theorem sl_tight : ∀ (pins : List (Addr × Obj)) (s : Shared) (σ : L2.St) (H : Hp) (x : V) (v vl vu : Value) (lo hi : Option Int) (sl : Addr) (Q : VK), Inv X pins σ H s → RelV x v → s.heap.IsSliceOf sl vl vu .none → IsPart vl lo → IsPart vu hi → rSlT X.K x lo hi H Q →
    ∃ T id, typeLookup (.type T) "__getitem__" = pure (some (.builtin id)) ∧ s.TypeIs v T ∧ wpAny (model X.prog X.w) X.A (getItem v (.ref sl)) (fun u s' => EP X pins σ Q u s' ∧ Tight u s') X.xe s := by
  intro pins s σ H x v vl vu lo hi sl Q I rx hs pl pu h
  obtain ⟨a, xs, rfl, hx, hw, q⟩ := h
  cases rx
  obtain ⟨its, r, ht, hz⟩ := I.tuple hx
  have hlen : its.toArray.size = xs.length := by rw [List.size_toArray]; exact r.length.symm
  refine ⟨"tuple", _, PyProof.Rows.slot_tuple_getitem.lookup, ht.typeIs, ?_⟩
  refine HT.getItem_tuple_cut ht hs pl pu (by rw [hlen]; exact hw) ?_ (by rw [hlen]; exact hz)
  rw [hlen]
  have nt := IsTup.new s.heap ((its.drop (HT.sIx xs.length 0 lo)).take (HT.sIx xs.length xs.length hi - HT.sIx xs.length 0 lo)).toArray
  refine ⟨⟨.ref s.heap.objs.size, _, I.laid (t' := s.toks) (o := .tup (cutV xs lo hi)) (fun b ob q => Heap.get?_push_of_some _ q) (Nat.le_refl _) ?_, rfl, q _ (I.hok.fresh (Nat.le_refl _))⟩, ?_, ?_⟩
  · exact ⟨Nat.le_trans (cutV_length xs lo hi) hz, _, (r.drop (HT.sIx xs.length 0 lo)).take (HT.sIx xs.length xs.length hi - HT.sIx xs.length 0 lo), IsTup.new _ _⟩
  · exact nt.typeIs
  · intro b e
    cases e
    exact ⟨_, Heap.get?_push_size _ rfl, rfl⟩
theorem pe_bmSl (pa : PlainAttrs "tuple") (slot : Slot "tuple" name id) (hty : typeOf (.builtin id) = pure (.type "method_descriptor")) (hm : MtR X id r) (he : PE X e te) (hl : PO X lo tl) (hu : PO X hi th) (ha : PA X (e1 :: es) t)
    (hbase : attributeBase (.Subscript e (.Slice lo hi none p2) pos) name X.env (eval (.Subscript e (.Slice lo hi none p2) pos) X.env) = eval (.Subscript e (.Slice lo hi none p2) pos) X.env := by rfl)
    (hfew : ((backTo cpos (starEach (e1 :: es) X.env)).all (fun x => !x.1) && (backToKw cpos (keywordEach [] X.env)).all (fun x => x.1.isSome)
      && decide ((e1 :: es).length + ([] : List Keyword).length + (if ([] : List Keyword).isEmpty then 0 else 1) < 30)) = true := by rfl)
    (hline : (apos.endLine == cpos.line) = true := by rfl) (hs : starEach (e1 :: es) X.env = (false, eval e1 X.env) :: starEach es X.env := by rfl) (hplain : (backTo cpos (starEach es X.env)).any (·.1) = false := by rfl) :
    PE X (.Call (.Attribute (.Subscript e (.Slice lo hi none p2) pos) name apos) (e1 :: es) [] cpos) (fun σ H Q => tSl (rSlT X.K) te tl th σ H fun x H1 => t σ H1 fun xs H2 => r x xs H2 Q) := by
  refine ⟨fun pins s σ H Q I h => ?_⟩
  have strong : wpAny (model X.prog X.w) X.A (eval (.Subscript e (.Slice lo hi none p2) pos) X.env) (fun u s' => EP X pins σ (fun x H1 => t σ H1 fun xs H2 => r x xs H2 Q) u s' ∧ Tight u s') X.xe s := by
    refine Subscript_ (thn (he.run pins s σ H _ I h) fun v s1 ⟨x, H1, I1, r1, q1⟩ => ?_)
    refine wpAny_Slice (thn (hl.run pins s1 σ H1 _ I1 q1) fun vl s2 ⟨l, H2, I2, pl, q2⟩ => thn (hu.run pins s2 σ H2 _ I2 q2) fun vu s3 ⟨u, H3, I3, pu, q3⟩ => ?_)
    rw [evalPart_none]
    refine wpAny_pure ?_
    have I4 : Inv X pins σ H3 { s3 with heap := s3.heap.push { cls := .type "slice", data := .fields #[vl, vu, .none] } } := I3.kept (t' := s3.toks) fun b ob q => Heap.get?_push_of_some _ q
    obtain ⟨T, id, hT, ht, hg⟩ := sl_tight pins { s3 with heap := s3.heap.push { cls := .type "slice", data := .fields #[vl, vu, .none] } } σ H3 x v vl vu l u s3.heap.objs.size _ I4 r1 (Heap.IsSliceOf.new ..) pl pu q3
    show wpAny (model X.prog X.w) X.A (subscriptTail e (.Slice lo hi none p2) v (.ref s3.heap.objs.size)) _ X.xe { s3 with heap := s3.heap.push { cls := .type "slice", data := .fields #[vl, vu, .none] } }
    exact tail_any (ops := [.ref s3.heap.objs.size, v]) ht hT hg (by with_unfolding_all rfl)
  refine wpAny_Call_method_late hbase hfew hline rfl (thn strong fun v s1 ⟨⟨x, H1, I1, r1, q1⟩, h1, h2⟩ => ?_)
  refine ⟨"tuple", id, pa, slot, hty, h1, h2, ?_⟩
  have hA := ha.run cpos pins s1 σ H1 _ I1 q1
  rw [hs] at hA ⊢
  refine Calls.callWith_builtin (by show (false || (backTo cpos (starEach es X.env)).any (·.1)) = false; rw [hplain] <;> rfl) (Calls.evalArgs_plain ?_)
  exact thn hA fun us s2 ⟨vs, H2, I2, r2, q2⟩ => hm pins s2 σ H2 x vs v us Q I2 r1 r2 q2
end
end Pb

/-! X3 -/
set_option Elab.async false
set_option linter.all false
set_option maxRecDepth 100000
set_option maxHeartbeats 4000000
namespace Pb
open PySem PySem.Spec PyProof.Rows L2
open C8 (Cal Mak Met pe_c pe_mk pe_mt pe_mt0 pe_gc fnScope_by)
/-! short words -/
local macro_rules | `(tactic| walk_at "rd") => `(tactic| try simp only [tVar, tC, tAdd, tSub, t2I, tIsN, tNotN, tB, tAnd, tOr, tNot, tAndV, tOrV, tNotV, tIf, tSeq, tPar, tPar3, tNext, tBreak, tCont, tDrop, tRet, tRetN, tIfS, gName, gNil, gCons, gTup, gSub, tAsg, tAug, ipI, iList, iTup, iRng1, iRng2, iStr, iEnum, iZip,
  tOp, tUn, rI, rI0, rU, tTest, tChain, tFld, sFld, sFldAug, L2.rAdd, L2.rSub, tNil, tCons, tTup, tLst, tCall, tMeth, tMake, tCB, tNoPart, tPart, tSl, tBM0, tBM, tDGet, tDGet1, tDGet2, tDIn, tDNotIn, sDPut, tDNewK, rEq, rNe, scal_ii, scal_ss, scal_bb, scal_nn, scal_ni, scal_in, scal_ns, scal_sn, scal_is, scal_si, List.take_succ_cons, List.take_zero, List.drop_succ_cons, List.drop_zero, upd_same, upd_upd, and_assoc, tKGet, gStar, tDisp, tPairs, tYes,
  L2.start, List.map_cons, List.map_nil, List.length_cons, List.length_nil, List.cons_append, List.nil_append, List.append_nil, List.replicate, Nat.sub_self, Nat.add_sub_cancel, Nat.reduceAdd, Nat.reduceSub, List.set_cons_zero, List.set_cons_succ, List.getElem?_cons_zero, List.getElem?_cons_succ,
  Option.some.injEq, V.int.injEq, V.bl.injEq, V.str.injEq, V.ref.injEq, exists_eq_left', exists_eq_left, exists_eq', exists_eq, true_and, and_true, if_true, if_false, Bool.false_eq_true, List.cons.injEq, Bool.not_true, Bool.not_false, cxK, cxP, cxW, ite_true, ite_false, wipe, reduceCtorEq, and_self, decide_true, decide_false, exists_and_left, exists_const, decide_eq_true_eq])
local macro_rules | `(tactic| walk_at "len") => `(tactic| (intro vs H Q E h; repeat (first | (obtain ⟨e, _⟩ := h; subst e; rfl) | (obtain ⟨_, h⟩ := h))))
local macro_rules | `(tactic| walk_at "wd") => `(tactic| simp (config := {decide := true}) only [V.str.injEq, scal_ss, true_and, if_true, if_false])

/-! covered -/
abbrev covT (K : PySem.W.Frag) : Addr := (He.cT K ("covered", none)).2
abbrev covL : Str := "covered.<locals>.<lambda>"
/-- the lambda within it -/
def lamIn : List Stmt → Arguments × Expr × Scope
  | [] => default
  | .For _ _ (_ :: .Assign _ (.Call _ _ [⟨_, .Lambda a b sc _, _⟩] _) _ :: _) _ _ :: _ => (a, b, sc)
  | _ :: r => lamIn r
abbrev lamP : Arguments := (lamIn (L2.defBody s_covered)).1
abbrev lamB : Expr := (lamIn (L2.defBody s_covered)).2.1
abbrev lamS : Scope := (lamIn (L2.defBody s_covered)).2.2
theorem lamFst : FstLam lamP lamB lamS where
  kind := by rfl
  co := by rfl
  gen := by rfl
  nocell := by decide +kernel
  ex := ⟨"row", _, _, _, _, by rfl, by decide, by rfl, fun _ _ _ _ _ => by rfl⟩
theorem lamFree {cells : List (Str × Addr)} : ∀ y ∈ lamS.names, y.2 = .free → ∃ c, cells.lookup y.1 = some c := fun y hy z => by
  have k : ∀ y ∈ lamS.names, y.2 ≠ .free := by decide +kernel
  exact absurd z (k y hy)
/-- a list of numbers, from a place on; what may be chosen there -/
def costAt (nums : List Int) (p : Part) : Int := p.2.2 + nums.getD (p.2.1 - 1) 0
def pick (nums : List Int) (ps : List Part) : Part := ps.getD (argBest (fun i j => decide (costAt nums (ps.getD i (none, 1, 0)) < costAt nums (ps.getD j (none, 1, 0)))) (ps.length - 1)) (none, 1, 0)
def cvStep (ws : List Str) (js : List Join) (one : Int) : Nat → List Int × List (Option Nat × Nat)
  | 0 => ([0], [])
  | k + 1 => (costAt (cvStep ws js one k).1 (pick (cvStep ws js one k).1 (partsAt ws js one (ws.length - 1 - k))) :: (cvStep ws js one k).1,
      ((pick (cvStep ws js one k).1 (partsAt ws js one (ws.length - 1 - k))).1, (pick (cvStep ws js one k).1 (partsAt ws js one (ws.length - 1 - k))).2.1) :: (cvStep ws js one k).2)
def cvNums (ws : List Str) (js : List Join) (one : Int) : List Int := (cvStep ws js one ws.length).1
def cvBest (ws : List Str) (js : List Join) (one : Int) : List (Option Nat × Nat) := (cvStep ws js one ws.length).2
def cvWalk (best : List (Option Nat × Nat)) : Nat → Nat → List (Option Nat)
  | 0, _ => []
  | f + 1, a => match best[a]? with
    | none => []
    | some p => p.1 :: cvWalk best f (a + p.2)
def cvParts (ws : List Str) (js : List Join) (one : Int) : List (Option Nat) := cvWalk (cvBest ws js one) ws.length 0
def bestD (p : Option Nat × Nat) : PyData := .tuple [countD p.1, .int (p.2 : Nat)]
structure CovOk (ws : List Str) (js : List Join) (one : Int) : Prop where
  words : WordsOk 0 40 ws
  few : js.length ≤ 6
  unlike : (js.map (·.1)).Nodup
  joins : ∀ j ∈ js, JoinOk j
  one : 1 ≤ one ∧ one ≤ 9
def sp_covered (K : PySem.W.Frag) : Sp := fun vs H Q _ => ∃ v u ws js one, vs = [v, u, V.int one] ∧ Dp K (hide H [covT K]) v (wordsD ws) ∧ Dp K (hide H [covT K]) u (joinsD js) ∧ CovOk ws js one ∧ LamX.TabS H (covT K) covL ∧
  ∀ H' q dx pl nl, Sx [covT K] H H' → LamX.TabS H' (covT K) covL → H q = none → H' q = some (.ins (He.ga K "Cover") dx (coverF pl nl)) → H pl = none → H nl = none → pl ≠ nl → H' pl = some (.lst ((cvParts ws js one).map countV)) → H' nl = some (.lst ((cvNums ws js one).map V.int)) → Q (.ref q) H'
theorem joins_fit {ws : List Str} {a : Nat} (ha : a ≤ ws.length) : ∀ {js : List Join} {i : Nat}, (∀ j ∈ js, 1 ≤ j.1.length) → ∀ p ∈ joinsAt ws a i js, 1 ≤ p.2.1 ∧ a + p.2.1 ≤ ws.length
  | [], _, _, p, h => nomatch h
  | j :: js, i, g, p, h => by
    rw [joinsAt] at h
    rcases List.mem_append.mp h with h | h
    · by_cases e : (ws.drop a).take j.1.length = j.1
      · rw [if_pos e] at h
        cases List.mem_singleton.mp h
        have l := congrArg List.length e
        rw [List.length_take, List.length_drop] at l
        have := g j (.head _)
        exact ⟨this, by show a + j.1.length ≤ ws.length; omega⟩
      · rw [if_neg e] at h
        cases h
    · exact joins_fit ha (fun j hj => g j (.tail _ hj)) p h
theorem parts_fit {ws : List Str} {js : List Join} {one : Int} {a : Nat} (ha : a < ws.length) (g : ∀ j ∈ js, 1 ≤ j.1.length) : ∀ p ∈ partsAt ws js one a, 1 ≤ p.2.1 ∧ a + p.2.1 ≤ ws.length := fun p h => by
  unfold partsAt at h
  rw [if_pos ha] at h
  rcases List.mem_append.mp h with h | h
  · cases List.mem_singleton.mp h
    exact ⟨Nat.le_refl _, ha⟩
  · exact joins_fit (Nat.le_of_lt ha) g p h
theorem parts_one {ws : List Str} {js : List Join} {one : Int} {a : Nat} (ha : a < ws.length) : 0 < (partsAt ws js one a).length := by
  unfold partsAt
  rw [if_pos ha, List.length_append, List.length_singleton]
  omega
theorem joins_len {ws : List Str} {a : Nat} : ∀ {js : List Join} {i : Nat}, (joinsAt ws a i js).length ≤ js.length
  | [], _ => Nat.le_refl _
  | j :: js, i => by
    have q := joins_len (ws := ws) (a := a) (js := js) (i := i + 1)
    rw [joinsAt, List.length_append, List.length_cons]
    split <;> simp <;> omega
theorem parts_len {ws : List Str} {js : List Join} {one : Int} {a : Nat} : (partsAt ws js one a).length ≤ js.length + 1 := by
  have q := joins_len (ws := ws) (a := a) (js := js) (i := 0)
  unfold partsAt
  rw [List.length_append]
  split <;> simp <;> omega
theorem cv_len1 {ws : List Str} {js : List Join} {one : Int} : ∀ k, (cvStep ws js one k).1.length = k + 1
  | 0 => rfl
  | k + 1 => by rw [cvStep, List.length_cons, cv_len1 k]
theorem cv_len2 {ws : List Str} {js : List Join} {one : Int} : ∀ k, (cvStep ws js one k).2.length = k
  | 0 => rfl
  | k + 1 => by rw [cvStep, List.length_cons, cv_len2 k]
def cvRow (nums : List Int) (p : Part) : PyData := .tuple [.int (costAt nums p), .int (p.2.1 : Nat), countD p.1]
theorem pick_mem {nums : List Int} {ps : List Part} (h : 0 < ps.length) : pick nums ps ∈ ps := by
  have hl : argBest (fun i j => decide (costAt nums (ps.getD i (none, 1, 0)) < costAt nums (ps.getD j (none, 1, 0)))) (ps.length - 1) < ps.length := by
    have := (argBest_lt (fun i => costAt nums (ps.getD i (none, 1, 0))) (ps.length - 1)).1
    omega
  unfold pick
  rw [List.getD_eq_getElem?_getD, List.getElem?_eq_getElem hl]
  exact List.getElem_mem hl
theorem cv_fit {ws : List Str} {js : List Join} {one : Int} (g : ∀ j ∈ js, 1 ≤ j.1.length) : ∀ (k : Nat), k ≤ ws.length → ∀ (i : Nat) pp, (cvStep ws js one k).2[i]? = some pp → 1 ≤ pp.2 ∧ ws.length - k + i + pp.2 ≤ ws.length
  | 0, _, i, pp, h => by simp [cvStep] at h
  | k + 1, hk, 0, pp, h => by
    rw [cvStep, List.getElem?_cons_zero] at h
    cases h
    have ha : ws.length - 1 - k < ws.length := by omega
    have q := parts_fit (one := one) ha g _ (pick_mem (nums := (cvStep ws js one k).1) (parts_one (js := js) (one := one) ha))
    exact ⟨q.1, by have := q.2; dsimp only; omega⟩
  | k + 1, hk, i + 1, pp, h => by
    rw [cvStep, List.getElem?_cons_succ] at h
    have q := cv_fit g k (by omega) i pp h
    exact ⟨q.1, by omega⟩
theorem walk_end {best : List (Option Nat × Nat)} : ∀ {f a : Nat}, best.length ≤ a → cvWalk best f a = []
  | 0, _, _ => rfl
  | f + 1, a, h => by rw [cvWalk, List.getElem?_eq_none h]
section
variable {P : Program} {w : World} {K : PySem.W.Frag} {mg : Str → Option Value} {base : Heap}
theorem ok_covered (T : Tx w K mg) (TB : LamX.TabB base mg (He.cT K ("covered", none)).1 (covT K)) (F_are_words : Cal P w K mg base 1 "are_words" (sp_are_words K) []) (F_is_join : Cal P w K mg base 3 "is_join" (sp_is_join K) []) (F_within : Cal P w K mg base 2 "within" (sp_within K) []) (F_parts_at : Cal P w K mg base 1 "parts_at" (sp_parts_at K) []) (M_Cover : Mak P w K mg base 1 "Cover" (He.ga K "Cover") (sp_Cover___init__ K) []) : KDef P w K mg base 4 "covered" (sp_covered K) ["words", "joins", "one"] s_covered [("one", .int 3)] := by
  refine kdef_ofC T.D_covered T.g_covered sc_covered (by walk_at "len") fun A outer s H vs Q E hr h => ?_
  refine ⟨_, (pss_cons (ps_if (PW.pt (pw_or (pt_not (pt_val (pe_callB (r := rIsi K) call_isi (by rfl) T.b_isinstance (by decide +kernel) (pa_cons (pv 0) (pa_cons (pe_bltn (v := .ty "list") (by rfl) T.b_list (by decide +kernel) rfl) pa_nil))))) (pw_or1 (pt_not (pt_val (pe_c F_are_words hr (by decide) (by rfl) (pa_cons (pv 0) (pa_cons pe_int (pa_cons (pe_gc (by rfl) T.v_MOST_WORDS) pa_nil))))))))) (pss_one ps_never) pss_nil)
    (pss_cons (ps_if (PW.pt (pw_or (pt_not (pt_val (pe_callB (r := rIsi K) call_isi (by rfl) T.b_isinstance (by decide +kernel) (pa_cons (pv 1) (pa_cons (pe_bltn (v := .ty "list") (by rfl) T.b_list (by decide +kernel) rfl) pa_nil))))) (pw_or (pt_cmpR op_gt (pe_callB (r := rLenQ K) call_lenQ (by rfl) T.b_len (by decide +kernel) (pa_cons (pv 1) pa_nil)) (pe_gc (by rfl) T.v_MOST_JOINS) (nomark _)) (pw_or1 (pt_not (pt_val (pe_callB (r := rAll K) (cr_all rfl) (by rfl) T.b_all (by decide +kernel) (pa_cons (pe_lc rfl sc_covered.nd (pi_listK (K := K) (pv 1)) (blkOk_by (own := [("join", 3)]) (N := ["words", "joins", "one", "join", "numbers", "best", "at", "rows", "count", "many", "cost", "total", "parts"]) (sc := L2.defScope s_covered) (by decide +kernel)) (fun _ _ _ _ _ => (pg_m (pg_name (i := 3) sc_covered.nd rfl (by first | exact Or.inl rfl | exact Or.inr rfl)))) (fun _ _ _ _ _ => pts_nilM) (fun _ _ _ _ _ => (pe_m (pe_c F_is_join hr (by decide) (by rfl) (pa_cons (pv 3) pa_nil))))) pa_nil)))))))) (pss_one ps_never) pss_nil)
    (pss_cons (ps_if (pt_cmpR op_lt (pe_callB (r := rLenTups P w) call_lenTups (by rfl) T.b_len (by decide +kernel) (pa_cons (pe_scB (bagTups (hu_of hr)) rfl sc_covered.nd (pi_listK (K := K) (pv 1)) (blkOk_by (own := [("join", 3)]) (N := ["words", "joins", "one", "join", "numbers", "best", "at", "rows", "count", "many", "cost", "total", "parts"]) (sc := L2.defScope s_covered) (by decide +kernel)) (fun _ _ _ _ _ => (pg_name (i := 3) sc_covered.nd rfl (by first | exact Or.inl rfl | exact Or.inr rfl))) (fun _ _ _ _ _ => (pe_ix (r := rIx K) ix_seq (pv 3) pe_int (fun _ _ => rfl)))) pa_nil)) (pe_callB (r := rLenQ K) call_lenQ (by rfl) T.b_len (by decide +kernel) (pa_cons (pv 1) pa_nil)) (nomark _)) (pss_one ps_never) pss_nil)
    (pss_cons (ps_if (pt_not (pt_val (pe_c F_within hr (by decide) (by rfl) (pa_cons (pv 2) (pa_cons pe_int (pa_cons (pe_gc (by rfl) T.v_MOST_COST) pa_nil)))))) (pss_one ps_never) pss_nil)
    (pss_cons (ps_asg (pe_tup (pa_cons (pe_lst (pa_cons pe_int pa_nil)) (pa_cons (pe_lst pa_nil) pa_nil))) (pg_tupK (K := K) (n := 2) rfl (pgs_cons (pg_name (i := 4) sc_covered.nd rfl (by first | exact Or.inl rfl | exact Or.inr rfl)) (pgs_cons (pg_name (i := 5) sc_covered.nd rfl (by first | exact Or.inl rfl | exact Or.inr rfl)) pgs_nil))))
    (pss_cons (ps_for PassesOwn.never rfl (pi_revR (by rfl) T.b_reversed (prg_1 (by rfl) T.b_range (pe_callB (r := rLenQ K) call_lenQ (by rfl) T.b_len (by decide +kernel) (pa_cons (pv 0) pa_nil)))) (pg_name (i := 6) sc_covered.nd rfl (by first | exact Or.inl rfl | exact Or.inr rfl)) (pss_cons (ps_setLc (i := 7) rfl sc_covered.nd rfl rfl (sw_true rfl rfl rfl (by decide +kernel)) (pi_listK (K := K) (pe_c F_parts_at hr (by decide) (by rfl) (pa_cons (pv 0) (pa_cons (pv 1) (pa_cons (pv 2) (pa_cons (pv 6) pa_nil)))))) (blkOk_by (own := [("count", 8), ("many", 9), ("cost", 10)]) (N := ["words", "joins", "one", "join", "numbers", "best", "at", "rows", "count", "many", "cost", "total", "parts"]) (sc := L2.defScope s_covered) (by decide +kernel)) (fun _ _ _ _ _ => (pg_m (pg_tupK (K := K) (n := 3) rfl (pgs_cons (pg_name (i := 8) sc_covered.nd rfl (by first | exact Or.inl rfl | exact Or.inr rfl)) (pgs_cons (pg_name (i := 9) sc_covered.nd rfl (by first | exact Or.inl rfl | exact Or.inr rfl)) (pgs_cons (pg_name (i := 10) sc_covered.nd rfl (by first | exact Or.inl rfl | exact Or.inr rfl)) pgs_nil)))))) (fun _ _ _ _ _ => pts_nilM) (fun _ _ _ _ _ => (pe_m (pe_tup (pa_cons (pe_op op_add (pv 10) (pe_ix (r := rIx K) ix_seq (pv 4) (pe_op op_sub (pv 9) pe_int) (fun _ _ => rfl))) (pa_cons (pv 9) (pa_cons (pv 8) pa_nil)))))))
    (pss_cons (ps_asg (pe_callBK (r := rMinK K covL lamP lamB lamS) (cr_minK lamFst rfl hr) (by rfl) T.b_min (by decide +kernel) (pa_cons (pv 7) pa_nil) (pk_cons (pe_lam (q := covL) (params := lamP) (body := lamB) (scope := lamS) TB rfl (by kernel_rfl) rfl rfl lamFree) pk_nil)) (pg_tupK (K := K) (n := 3) rfl (pgs_cons (pg_name (i := 11) sc_covered.nd rfl (by first | exact Or.inl rfl | exact Or.inr rfl)) (pgs_cons (pg_name (i := 9) sc_covered.nd rfl (by first | exact Or.inl rfl | exact Or.inr rfl)) (pgs_cons (pg_name (i := 8) sc_covered.nd rfl (by first | exact Or.inl rfl | exact Or.inr rfl)) pgs_nil)))))
    (pss_cons (ps_set (i := 4) sc_covered.nd rfl (by first | exact Or.inl rfl | exact Or.inr rfl) (pe_op (r := rCatS K) op_catS (pe_lst (pa_cons (pv 11) pa_nil)) (pv 4)))
    (pss_one (ps_set (i := 5) sc_covered.nd rfl (by first | exact Or.inl rfl | exact Or.inr rfl) (pe_op (r := rCatS K) op_catS (pe_lst (pa_cons (pe_tup (pa_cons (pv 8) (pa_cons (pv 9) pa_nil))) pa_nil)) (pv 5))))))))
    (pss_cons (ps_par (i := 12) (j := 6) rfl sc_covered.nd rfl rfl (by decide) rfl rfl (pa_cons (pe_lst pa_nil) (pa_cons pe_int pa_nil)) rfl)
    (pss_cons (ps_while PassesOwn.never (pt_cmpR op_lt (pv 6) (pe_callB (r := rLenQ K) call_lenQ (by rfl) T.b_len (by decide +kernel) (pa_cons (pv 0) pa_nil)) (nomark _)) (pss_cons (ps_asg (pe_ix (r := rIx K) ix_seq (pv 5) (pv 6) (fun _ _ => rfl)) (pg_tupK (K := K) (n := 2) rfl (pgs_cons (pg_name (i := 8) sc_covered.nd rfl (by first | exact Or.inl rfl | exact Or.inr rfl)) (pgs_cons (pg_name (i := 9) sc_covered.nd rfl (by first | exact Or.inl rfl | exact Or.inr rfl)) pgs_nil))))
    (pss_cons (ps_expr (pe_bm PySem.F.plainAttrs_list PySem.F.slot_list_append PySem.F.type_list_append mt_append (pv 12) (pa_cons (pv 8) pa_nil)))
    (pss_one (ps_aug (i := 6) sc_covered.nd rfl (by first | exact Or.inl rfl | exact Or.inr rfl) (pv 9) ip_add)))))
    (pss_one (ps_ret (pe_mk M_Cover hr (by decide) (by rfl) (pa_cons (pv 12) (pa_cons (pv 4) pa_nil))))))))))))), ?_⟩
  obtain ⟨v, u, ws, js, one, rfl, hv, hu, ok, tab, k⟩ := h
  have hv0 := Dp.mono same_show hv
  have hu0 := Dp.mono same_show hu
  obtain ⟨tps, atP, tab2⟩ := tab
  have tab : LamX.TabS H (covT K) covL := ⟨tps, atP, tab2⟩
  clear tab2
  have tk : Tk H [covT K] := Tk.cons atP Tk.nil
  obtain ⟨ja, jx, rfl, hjl, hja⟩ := dp_list hu
  obtain ⟨wa, wx, rfl, hwl, hwa⟩ := dp_list hv
  have few := ok.few
  have hjlen := DpAll.length hja
  rw [List.length_map] at hjlen
  refine seq_mid (fun σ Hx => σ = [some (.ref wa), some (.ref ja), some (.int one), none, none, none, none, none, none, none, none, none, none] ∧ Same H Hx) (fun Kx hk => ?_) ?_
  · walk_at "rd"
    refine a_isi hv0 (kit_list _) ⟨_, rfl, ?_⟩
    rw [if_neg (by simp [isList, wordsD])]
    refine ⟨[covT K], _, ws, 0, 40, rfl, tk, .inl hv, ok.words, by decide, fun H1 s1 => ⟨_, rfl, ?_⟩⟩
    rw [if_neg (by decide)]
    exact hk _ _ ⟨rfl, s1⟩
  rintro σ H1 ⟨rfl, s1⟩
  refine seq_mid (fun σ Hx => σ = [some (.ref wa), some (.ref ja), some (.int one), none, none, none, none, none, none, none, none, none, none] ∧ Same H Hx) (fun Kx hk => ?_) ?_
  · walk_at "rd"
    refine a_isi (Dp.mono s1 hu0) (kit_list _) ⟨_, rfl, ?_⟩
    rw [if_neg (by simp [isList, joinsD])]
    refine a_lenL (Dp.mono s1 hu0) ⟨_, rfl, ?_⟩
    rw [List.length_map, if_neg (by omega)]
    refine a_lc ?_
    walk_at "rd"
    refine ⟨⟨jx, sqL_same (same_show.trans s1) hjl⟩, fun D nD => ?_⟩
    refine lc_data (K := K) (ds := js.map joinD) (ms := [covT K]) walk_list nD (tk.same s1) (by rw [List.length_map, sizeLine_eq]; omega) (DpAll.mono (Same.hide s1 _) hja) (fun H2 s2 => sqL_same (same_show.trans (s1.trans s2)) hjl) (fun _ => true) (fun _ => .bool true) (fun y d H2 hd s2 hD2 hy => ?_) (fun H2 ys s2 e2 hys => ?_)
    · obtain ⟨j, hj, rfl⟩ := List.mem_map.mp hd
      walk_at "rd"
      have tk2 : Tk H2 (D :: [covT K]) := fun m hm => by
        rcases List.mem_cons.mp hm with z | z
        · rw [z]; exact hD2
        · exact (tk.same (s1.trans s2)) m z
      exact ⟨fun z => z.elim, fun _ => ⟨_, y, j, rfl, tk2, hy, ok.joins j hj, fun H3 s3 => ⟨s3, .bl true⟩⟩⟩
    rw [List.filter_eq_self.mpr fun _ _ => rfl] at hys
    have eb : (js.map joinD).map (fun _ => PyData.bool true) = (js.map fun _ => true).map PyData.bool := by rw [List.map_map, List.map_map]; rfl
    rw [eb] at hys
    refine a_all (bs := js.map fun _ => true) (.lst (SqL.of e2) (DpAll.mono same_show hys)) ?_
    rw [show (js.map fun _ => true).all id = true by simp]
    refine ⟨_, rfl, ?_⟩
    rw [if_neg (by decide)]
    exact hk _ _ ⟨rfl, s1.trans s2⟩
  clear s1
  rintro σ H2 ⟨rfl, s12⟩
  refine seq_mid (fun σ Hx => σ = [some (.ref wa), some (.ref ja), some (.int one), none, none, none, none, none, none, none, none, none, none] ∧ Same H Hx) (fun Kx hk => ?_) ?_
  · walk_at "rd"
    refine a_sc ?_
    walk_at "rd"
    refine ⟨⟨jx, sqL_same (same_show.trans s12) hjl⟩, fun D3 nD3 => ?_⟩
    have nd : ((js.map (·.1)).map fun r => r.map (Sum.inr : Str → Key)).Nodup := List.Pairwise.map _ (fun x y ne e => ne (List.map_inj_right (fun _ _ z => Sum.inr.inj z) |>.mp e)) ok.unlike
    refine sc_tups (P := P) (K := K) walk_list nD3 ((js.map (·.1)).map fun r => r.map (Sum.inr : Str → Key)) (by rw [List.length_map, List.length_map]; exact hjlen.symm) (by omega) nd (fun H3 s3 => sqL_same (same_show.trans (s12.trans s3)) hjl) (fun i x kss H3 R ex ek s3 q => ?_) (fun H3 z s3 e3 zl => ?_)
    · obtain ⟨d, ed, hdj⟩ := DpAll.at hja ex
      rw [List.getElem?_map] at ed
      obtain ⟨j, ej, rfl⟩ := Option.map_eq_some_iff.mp ed
      rw [List.getElem?_map, List.getElem?_map, ej] at ek
      cases ek
      walk_at "rd"
      refine a_ixT (Dp.mono (same_show.trans (s12.trans s3)) hdj) atI_0 fun u2 hu2 => ?_
      obtain ⟨t, tx, rfl, ht, hta⟩ := dp_tuple hu2
      have et := DpAll.strs_inv hta
      subst et
      exact q _ t (Same.refl _) (by rw [List.map_map]; exact ht)
    refine ⟨D3, z, rfl, e3, ?_⟩
    rw [zl]
    refine a_lenL (Dp.mono (s12.trans s3) hu0) ⟨_, rfl, _, rfl, ?_⟩
    rw [List.length_map, if_neg (by omega)]
    exact hk _ _ ⟨rfl, s12.trans s3⟩
  clear s12 H2
  rintro σ H3 ⟨rfl, s03⟩
  have ew : within (.int one) 1 9 = true := by
    show (decide (1 ≤ one) && decide (one ≤ 9)) = true
    rw [decide_eq_true ok.one.1, decide_eq_true ok.one.2]; rfl
  refine seq_mid (fun σ Hx => σ = [some (.ref wa), some (.ref ja), some (.int one), none, none, none, none, none, none, none, none, none, none] ∧ Same H Hx) (fun Kx hk => ?_) ?_
  · walk_at "rd"
    refine ⟨[], _, .int one, 1, 9, rfl, Tk.nil, .int one, fun H4 s4 => ⟨_, rfl, ?_⟩⟩
    rw [ew, if_neg (by decide)]
    exact hk _ _ ⟨rfl, s03.trans s4⟩
  clear s03
  rintro σ H4 ⟨rfl, s14⟩
  refine seq_mid (fun σ Hx => ∃ nl bl, σ = [some (.ref wa), some (.ref ja), some (.int one), none, some (.ref nl), some (.ref bl), none, none, none, none, none, none, none] ∧ Same H Hx ∧ Dp K (hide Hx [covT K]) (.ref nl) (.list [.int 0]) ∧ Dp K (hide Hx [covT K]) (.ref bl) (.list [])) (fun Kx hk => ?_) ?_
  · walk_at "rd"
    refine ⟨by decide, fun p hp => ⟨by decide, fun b hb => ⟨by decide, fun t ht => ?_⟩⟩⟩
    have sp := same_new (o := HO.lst [V.int 0]) hp
    have sb := same_new (o := HO.lst []) hb
    have st := same_new (o := HO.tup [V.ref p, V.ref b]) ht
    refine a_t2V (.inl (.inl upd_same)) (hk _ _ ⟨p, b, rfl, s14.trans (sp.trans (sb.trans st)), ?_, ?_⟩)
    · exact Dp.mono (Same.hide (sb.trans st) _) (a_newL (tk.same s14) hp (.cons (.int 0) .nil))
    · exact Dp.mono (Same.hide st _) (a_newL (tk.same (s14.trans sp)) hb .nil)
  clear s14
  rintro σ H5 ⟨nl, bl, rfl, s5, hnl, hbl⟩
  refine seq_mid (fun σ Hx => ∃ nl bl o3 o6 o7 o8 o9 o10 o11, σ = [some (.ref wa), some (.ref ja), some (.int one), o3, some (.ref nl), some (.ref bl), o6, o7, o8, o9, o10, o11, none] ∧ Sx [covT K] H Hx ∧ LamX.TabS Hx (covT K) covL ∧ Dp K (hide Hx [covT K]) (.ref nl) (.list ((cvStep ws js one ws.length).1.map PyData.int)) ∧ Dp K (hide Hx [covT K]) (.ref bl) (.list ((cvStep ws js one ws.length).2.map bestD))) (fun Kx hk => ?_) ?_
  · have hv5 := Dp.mono (Same.hide s5 [covT K]) hv
    have hu5 := Dp.mono (Same.hide s5 [covT K]) hu
    have jl : ∀ j ∈ js, 1 ≤ j.1.length := fun j hj => Nat.le_trans (by decide) (ok.joins j hj).row.lo
    have wl : ws.length ≤ 40 := ok.words.hi
    refine a_for ?_
    unfold iRevR tRg1
    walk_at "rd"
    refine a_lenL (Dp.mono s5 hv0) ⟨_, rfl, ?_⟩
    rw [List.length_map]
    have e0 : ((ws.length : Nat) : Int) - 0 = ((ws.length : Nat) : Int) := by omega
    rw [e0, Int.toNat_natCast]
    refine ⟨by omega, by omega, by omega, by omega, ?_⟩
    refine for_go2 (walk_rangeC (n := ws.length)) (fun i σ Hx => ∃ nl bl o3 o6 o7 o8 o9 o10 o11, σ = [some (.ref wa), some (.ref ja), some (.int one), o3, some (.ref nl), some (.ref bl), o6, o7, o8, o9, o10, o11, none] ∧ Sx [covT K] H Hx ∧ LamX.TabS Hx (covT K) covL ∧ Dp K (hide Hx [covT K]) (.ref nl) (.list ((cvStep ws js one i).1.map PyData.int)) ∧ Dp K (hide Hx [covT K]) (.ref bl) (.list ((cvStep ws js one i).2.map bestD)))
      ⟨nl, bl, _, _, _, _, _, _, _, rfl, Sx.of s5, tab.ext s5, hnl, hbl⟩ (fun _ _ _ _ _ => trivial) ?_ (fun σ Hx z => hk _ _ z)
    rintro Pw yes i y σ Hx Hx' hi ⟨nl, bl, o3, o6, o7, o8, o9, o10, o11, rfl, sx, tabx, hnl, hbl⟩ ⟨e9, rfl⟩
    subst e9
    refine g_name ?_
    dsimp only
    have eat : (0 : Int) + ((ws.length : Nat) : Int) - 1 + (i : Nat) * (-1) = ((ws.length - 1 - i : Nat) : Int) := by omega
    rw [eat]
    have sxh := sx.hide (ms' := [covT K]) fun _ z => z
    have hvx := Dp.mono sxh hv
    have hux := Dp.mono sxh hu
    obtain ⟨tpx, atx, _⟩ := id tabx
    have tkx : Tk Hx' [covT K] := Tk.cons atx Tk.nil
    have hat : ws.length - 1 - i < ws.length := by omega
    generalize eA : ws.length - 1 - i = A at *
    have fit := parts_fit (js := js) (one := one) hat jl
    have one1 := parts_one (js := js) (one := one) hat
    have plen := parts_len (ws := ws) (js := js) (one := one) (a := A)
    have nlen := cv_len1 (ws := ws) (js := js) (one := one) i
    have step1 : (cvStep ws js one (i + 1)).1 = costAt (cvStep ws js one i).1 (pick (cvStep ws js one i).1 (partsAt ws js one A)) :: (cvStep ws js one i).1 := by rw [cvStep, eA]
    have step2 : (cvStep ws js one (i + 1)).2 = ((pick (cvStep ws js one i).1 (partsAt ws js one A)).1, (pick (cvStep ws js one i).1 (partsAt ws js one A)).2.1) :: (cvStep ws js one i).2 := by rw [cvStep, eA]
    generalize (cvStep ws js one i).1 = nums at *
    have blen := cv_len2 (ws := ws) (js := js) (one := one) i
    generalize (cvStep ws js one i).2 = best at *
    generalize eP : partsAt ws js one A = ps at *
    refine seq_mid (fun σ Hy => ∃ ra o8 o9 o10, σ = [some (.ref wa), some (.ref ja), some (.int one), o3, some (.ref nl), some (.ref bl), some (.int (A : Nat)), some (.ref ra), o8, o9, o10, o11, none] ∧ Same Hx' Hy ∧ Dp K (hide Hy [covT K]) (.ref ra) (.list (ps.map (cvRow nums)))) (fun Kx2 hk2 => ?_) ?_
    · walk_at "rd"
      refine a_lc ?_
      walk_at "rd"
      refine ⟨[covT K], _, _, ws, js, one, A, rfl, tkx, hvx, hux, by omega, by omega, fun j hj => Nat.le_trans (ok.joins j hj).row.hi (by decide), by omega, ok.words.all, fun j hj => (ok.joins j hj).row.all, fun H7 q s7 nq hq => ?_⟩
      rw [eP] at hq
      obtain ⟨q', qx, eq', hql, hqa⟩ := dp_list hq
      cases eq'
      have hqlen := DpAll.length hqa
      rw [List.length_map] at hqlen
      refine ⟨q, rfl, ⟨qx, sqL_same same_show hql⟩, fun D nD => ?_⟩
      refine lc_pure (K := K) (ms := [covT K]) (walk_list (xs := qx)) nD (tkx.same s7) (by rw [sizeLine_eq]; omega) (fun H8 s8 => sqL_same (same_show.trans s8) hql) (fun _ => true) (fun i => cvRow nums (ps.getD i (none, 1, 0))) (fun i x H8 H9 hi s8 hD8 y => ?_) (fun H8 ys s8 e8 hys => ?_)
      · obtain ⟨e9, ex⟩ := y
        subst e9
        obtain ⟨d, ed, hd⟩ := DpAll.at hqa ex
        have hip : i < ps.length := by omega
        rw [List.getElem?_map, List.getElem?_eq_getElem hip] at ed
        cases ed
        have em : ps.getD i (none, 1, 0) = ps[i] := by rw [List.getD_eq_getElem?_getD, List.getElem?_eq_getElem hip]; rfl
        rw [em]
        have hpm := List.getElem_mem hip
        generalize ps[i] = p at *
        obtain ⟨f1, f2⟩ := fit p hpm
        obtain ⟨q2, u1, u2, u3, rfl, hq2, d1, d2, d3⟩ := dp_t3 hd
        cases d2
        cases d3
        refine a_t3V (sqT_same (same_show.trans s8) hq2) ?_
        walk_at "rd"
        refine ⟨fun z => z.elim, fun _ => ?_⟩
        have hml : p.2.1 - 1 < nums.length := by omega
        have ex1 : ((p.2.1 : Nat) : Int) - 1 = ((p.2.1 - 1 : Nat) : Int) := by omega
        rw [ex1]
        refine a_ixL (Dp.mono (same_show.trans (s7.trans s8)) hnl) (atI_natc (x := PyData.int (nums.getD (p.2.1 - 1) 0)) (by rw [List.getElem?_map, List.getElem?_eq_getElem hml, List.getD_eq_getElem?_getD, List.getElem?_eq_getElem hml]; rfl)) fun u hu => ?_
        cases hu
        refine ⟨_, rfl, by decide, fun t ht => ⟨same_new ht, ?_⟩⟩
        have anyC : ∀ H, Dp K H u1 (countD p.1) := fun H => by
          cases e : p.1 with
          | none => rw [e] at d1; cases d1; exact .non
          | some c => rw [e] at d1; cases d1; exact .int _
        have nt1 : t ≠ D := fun z => by rw [z] at ht; exact hD8 ht
        have nt2 : t ≠ covT K := fun z => by rw [z, (s7.trans s8) _ _ atx] at ht; cases ht
        refine .tup (.inl (.inl ?_)) (.cons (.int _) (.cons (.int _) (.cons (anyC _) .nil)))
        rw [hide_at (by simp [nt1, nt2]), upd_same]
        rfl
      · have nDc : D ≠ covT K := fun z => by rw [z, s7 _ _ atx] at nD; cases nD
        have ers : List.map (fun i => cvRow nums (ps.getD i (none, 1, 0))) (List.filter (fun x => true) (List.range qx.length)) = ps.map (cvRow nums) := by
          rw [List.filter_eq_self.mpr fun _ _ => rfl, hqlen]
          refine List.ext_getElem (by simp) fun j h1 h2 => ?_
          simp at h1 h2
          simp [List.getD_eq_getElem?_getD, List.getElem?_eq_getElem h2]
        rw [ers] at hys
        refine hk2 _ _ ⟨D, _, _, _, rfl, s7.trans s8, .lst (xs := ys) (.inl (.inl ?_)) (DpAll.mono (fun b o e => ?_) hys)⟩
        · rw [hide_at (by simp [nDc])]
          exact e8
        · obtain ⟨e1, e2⟩ := hide_of e
          rw [hide_at fun z => e2 (.tail _ z)]
          exact e1
    rintro σ Hy ⟨ra, p8, p9, p10, rfl, sy, hra⟩
    have hpl : argBest (fun i j => decide (costAt nums (ps.getD i (none, 1, 0)) < costAt nums (ps.getD j (none, 1, 0)))) (ps.length - 1) < ps.length := by
      have := (argBest_lt (fun i => costAt nums (ps.getD i (none, 1, 0))) (ps.length - 1)).1
      omega
    have hpk : ps[argBest (fun i j => decide (costAt nums (ps.getD i (none, 1, 0)) < costAt nums (ps.getD j (none, 1, 0)))) (ps.length - 1)]? = some (pick nums ps) := by
      unfold pick
      rw [List.getD_eq_getElem?_getD, List.getElem?_eq_getElem hpl]
      rfl
    refine seq_mid (fun σ Hz => σ = [some (.ref wa), some (.ref ja), some (.int one), o3, some (.ref nl), some (.ref bl), some (.int (A : Nat)), some (.ref ra), some (countV (pick nums ps).1), some (.int ((pick nums ps).2.1 : Nat)), p10, some (.int (costAt nums (pick nums ps))), none] ∧ Sx [covT K] Hy Hz ∧ LamX.TabS Hz (covT K) covL) (fun Kx2 hk2 => ?_) ?_
    · walk_at "rd"
      unfold L2.tCKw
      walk_at "rd"
      unfold tLamE
      refine ⟨tabx.ext sy, fun f c' Hz sz tabz atf atc => ?_⟩
      obtain ⟨ra', rx, er, hrl, hrA⟩ := dp_list (Dp.mono ((sz.hide (ms' := [covT K]) fun _ z => z).trans same_show) hra)
      cases er
      have hrlen := DpAll.length hrA
      rw [List.length_map] at hrlen
      refine ⟨ra, rx, f, c', fun i => costAt nums (ps.getD i (none, 1, 0)), rfl, rfl, atf, atc, hrl, by omega, fun i x ex => ?_, fun v ev => ?_⟩
      · obtain ⟨d, ed, hd⟩ := DpAll.at hrA ex
        have hip : i < ps.length := by
          have := (List.getElem?_eq_some_iff.mp ex).1
          omega
        rw [List.getElem?_map, List.getElem?_eq_getElem hip] at ed
        cases ed
        obtain ⟨q2, u1, u2, u3, rfl, hq2, d1, d2, d3⟩ := dp_t3 hd
        cases d1
        refine ⟨q2, [u2, u3], rfl, ?_⟩
        show SqT K Hz q2 [V.int (costAt nums (ps.getD i (none, 1, 0))), u2, u3]
        rw [show ps.getD i (none, 1, 0) = ps[i] by rw [List.getD_eq_getElem?_getD, List.getElem?_eq_getElem hip]; rfl]
        exact hq2
      · rw [hrlen] at ev
        obtain ⟨d, ed, hd⟩ := DpAll.at hrA ev
        rw [List.getElem?_map, hpk] at ed
        cases ed
        obtain ⟨q2, u1, u2, u3, rfl, hq2, d1, d2, d3⟩ := dp_t3 hd
        cases d1
        cases d2
        have ec : u3 = countV (pick nums ps).1 := by
          cases e : (pick nums ps).1 with
          | none => rw [e] at d3; cases d3; rfl
          | some c => rw [e] at d3; cases d3; rfl
        subst ec
        refine a_t3V hq2 (hk2 _ _ ⟨rfl, sz, tabz⟩)
    rintro σ Hz ⟨rfl, sz, tabz⟩
    walk_at "rd"
    have s15 : Sx [covT K] Hx' Hz := (Sx.of sy).trans sz
    have h15 := s15.hide (ms' := [covT K]) fun _ z => z
    obtain ⟨tpz, atz, _⟩ := id tabz
    have tkz : Tk Hz [covT K] := Tk.cons atz Tk.nil
    generalize pick nums ps = pp at *
    refine ⟨by decide, fun p hp => ?_⟩
    have sp := same_new (o := HO.lst [V.int (costAt nums pp)]) hp
    refine a_catD (ms := [covT K]) (ds := [.int (costAt nums pp)]) (es := nums.map PyData.int) (tkz.same sp) (a_newL tkz hp (.cons (.int _) .nil)) (Dp.mono (h15.trans (Same.hide sp _)) hnl) (by rw [List.length_map, List.length_singleton]; omega) fun J1 nl2 t1 _ hnl2 => ?_
    have u1 := sp.trans t1
    refine ⟨by decide, fun t ht => ⟨by decide, fun l hl => ?_⟩⟩
    have st := same_new (o := HO.tup [countV pp.1, V.int (pp.2.1 : Nat)]) ht
    have sl := same_new (o := HO.lst [V.ref t]) hl
    have cD : ∀ H, Dp K H (countV pp.1) (countD pp.1) := fun H => by
      cases pp.1 with
      | none => exact .non
      | some c => exact .int _
    have tku := (tkz.same u1)
    have dt : Dp K (hide (upd J1 t (HO.tup [countV pp.1, V.int (pp.2.1 : Nat)])) [covT K]) (.ref t) (bestD (pp.1, pp.2.1)) := a_newT tku ht (.cons (cD _) (.cons (.int _) .nil))
    refine a_catD (ms := [covT K]) (ds := [bestD (pp.1, pp.2.1)]) (es := best.map bestD) (tku.same (st.trans sl)) (a_newL (tku.same st) hl (.cons dt .nil)) (Dp.mono (h15.trans (Same.hide (u1.trans (st.trans sl)) _)) hbl) (by rw [List.length_map, List.length_singleton]; omega) fun J2 bl2 t2 _ hbl2 => ?_
    have u2 := u1.trans (st.trans (sl.trans t2))
    refine yes _ _ _ ⟨nl2, bl2, _, _, _, _, _, _, _, rfl, sx.trans (s15.trans (Sx.of u2)), tabz.ext u2, ?_, ?_⟩
    · rw [step1, List.map_cons]
      exact Dp.mono (Same.hide (st.trans (sl.trans t2)) _) hnl2
    · rw [step2, List.map_cons]
      exact hbl2
  rintro σ H6 ⟨nl6, bl6, o3, o6, o7, o8, o9, o10, o11, rfl, s6, tab6, hnl6, hbl6⟩
  have jl : ∀ j ∈ js, 1 ≤ j.1.length := fun j hj => Nat.le_trans (by decide) (ok.joins j hj).row.lo
  have wl : ws.length ≤ 40 := ok.words.hi
  have fit := cv_fit (one := one) jl ws.length (Nat.le_refl _)
  have blen := cv_len2 (ws := ws) (js := js) (one := one) ws.length
  have eC : cvParts ws js one = cvWalk (cvStep ws js one ws.length).2 ws.length 0 := rfl
  have eN : cvNums ws js one = (cvStep ws js one ws.length).1 := rfl
  generalize (cvStep ws js one ws.length).2 = best at *
  generalize (cvStep ws js one ws.length).1 = nums at *
  obtain ⟨bl', bx, eb, hbl, hba⟩ := dp_list hbl6
  cases eb
  obtain ⟨nl', nx, en, hnl, hna⟩ := dp_list hnl6
  cases en
  have en := DpAll.ints_inv hna
  subst en
  walk_at "rd"
  refine ⟨by decide, fun p hp => ?_⟩
  refine while_go (fun m σ Hx => ∃ a f o7 o8 o9 o10 o11, ∃ out : List (Option Nat), σ = [some (.ref wa), some (.ref ja), some (.int one), o3, some (.ref nl6), some (.ref bl6), some (.int (a : Nat)), o7, o8, o9, o10, o11, some (.ref p)] ∧ m = ws.length - a ∧ a ≤ ws.length ∧ Same H6 Hx ∧ Hx p = some (.lst (out.map countV)) ∧ out ++ cvWalk best f a = cvWalk best ws.length 0 ∧ ws.length - a ≤ f ∧ out.length ≤ a) ws.length
    ⟨0, ws.length, _, _, _, _, _, [], rfl, by omega, by omega, same_new hp, upd_same, rfl, by omega, Nat.zero_le _⟩ ?_
  rintro Pw yes m σ Hx ⟨a, f, o7, o8, o9, o10, o11, out, rfl, rfl, ha, sx, hpx, eo, hf, hlo⟩
  have hv6 := Dp.mono ((s6.hide (ms' := [covT K]) fun _ z => z).trans (same_show.trans sx)) hv
  walk_at "rd"
  refine a_lenL hv6 ⟨_, rfl, ?_⟩
  rw [List.length_map]
  by_cases hlt : a < ws.length
  · rw [if_pos (by omega)]
    obtain ⟨f', rfl⟩ : ∃ f', f = f' + 1 := ⟨f - 1, by omega⟩
    have eb : best[a]? = some best[a] := List.getElem?_eq_getElem (by omega)
    obtain ⟨w1, w2⟩ := fit a _ eb
    rw [cvWalk, eb] at eo
    generalize best[a] = pp at *
    obtain ⟨z, ez, hz⟩ := DpAll.get (i := a) (d := bestD pp) hba (by rw [List.getElem?_map, eb]; rfl)
    obtain ⟨q, u1, u2, rfl, hq, d1, d2⟩ := dp_t2 hz
    cases d2
    have ec : u1 = countV pp.1 := by
      cases e : pp.1 with
      | none => rw [e] at d1; cases d1; rfl
      | some c => rw [e] at d1; cases d1; rfl
    subst ec
    refine ⟨Pw (ws.length - a - pp.2), fun σ' H' h => ⟨_, by omega, h⟩, ?_⟩
    walk_at "rd"
    refine .inl ⟨bl6, bx, (a : Nat), .ref q, rfl, rfl, sqL_same (same_show.trans sx) hbl, atI_natc ez, ?_⟩
    refine a_t2V (sqT_same (same_show.trans sx) hq) ?_
    walk_at "rd"
    refine ⟨.inl ⟨rfl, _, SqL.of hpx⟩, p, _, _, rfl, rfl, hpx, by rw [List.length_map, sizeLine_eq]; omega, ?_⟩
    have npH : ∀ b o, H6 b = some o → b ≠ p := fun b o e z => by rw [z, hp] at e; cases e
    refine yes _ _ _ ⟨a + pp.2, f', o7, some (countV pp.1), some (.int (pp.2 : Nat)), o10, o11, out ++ [pp.1], ?_, by omega, by omega, fun b o e => (upd_ne (npH b o e)).trans (sx b o e), by rw [upd_same, List.map_append]; rfl, ?_, by omega, ?_⟩
    · rw [Int.natCast_add]
    · rw [List.append_assoc]
      exact eo
    · rw [List.length_append, List.length_singleton]
      omega
  · rw [if_neg (by omega)]
    have ea : a = ws.length := by omega
    subst ea
    walk_at "rd"
    rw [walk_end (by omega), List.append_nil] at eo
    intro x dx hx hd hne
    obtain ⟨tp6, at6, _⟩ := id tab6
    have free : ∀ b, Hx b = none → H b = none := fun b hb => by
      cases e : H b with
      | none => rfl
      | some o =>
        exfalso
        by_cases hm : b ∈ [covT K]
        · rw [List.mem_singleton.mp hm, sx _ _ at6] at hb
          cases hb
        · rw [sx _ _ (s6 b o hm e)] at hb
          cases hb
    refine ⟨x, dx, Hx, p, nl6, _, _, rfl, ⟨rfl, hx, hd, hne⟩, SqL.of hpx, sqL_same (same_show.trans sx) hnl, fun H' pl nl s' npl nnl hne' ax apl anl => ⟨rfl, k H' x dx pl nl (s6.trans (Sx.of (sx.trans s'))) (tab6.ext (sx.trans s')) (free _ hx) ax (free _ npl) (free _ nnl) hne' ?_ ?_⟩⟩
    · rw [eC, ← eo]
      exact apl
    · rw [eN]
      exact anl
end
end Pb

/-! V3 -/
set_option Elab.async false
set_option linter.all false
set_option maxRecDepth 100000
set_option maxHeartbeats 4000000
namespace Pb
open PySem PySem.Spec PyProof.Rows L2
open C8 (Cal Mak Met pe_c pe_mk pe_mt pe_mt0 pe_gc fnScope_by)
/-! short words -/
local macro_rules | `(tactic| walk_at "rd") => `(tactic| try simp only [tVar, tC, tAdd, tSub, t2I, tIsN, tNotN, tB, tAnd, tOr, tNot, tAndV, tOrV, tNotV, tIf, tSeq, tPar, tPar3, tNext, tBreak, tCont, tDrop, tRet, tRetN, tIfS, gName, gNil, gCons, gTup, gSub, tAsg, tAug, ipI, iList, iTup, iRng1, iRng2, iStr, iEnum, iZip,
  tOp, tUn, rI, rI0, rU, tTest, tChain, tFld, sFld, sFldAug, L2.rAdd, L2.rSub, tNil, tCons, tTup, tLst, tCall, tMeth, tMake, tCB, tNoPart, tPart, tSl, tBM0, tBM, tDGet, tDGet1, tDGet2, tDIn, tDNotIn, sDPut, tDNewK, rEq, rNe, scal_ii, scal_ss, scal_bb, scal_nn, scal_ni, scal_in, scal_ns, scal_sn, scal_is, scal_si, List.take_succ_cons, List.take_zero, List.drop_succ_cons, List.drop_zero, upd_same, upd_upd, and_assoc, tKGet, gStar, tDisp, tPairs, tYes,
  L2.start, List.map_cons, List.map_nil, List.length_cons, List.length_nil, List.cons_append, List.nil_append, List.append_nil, List.replicate, Nat.sub_self, Nat.add_sub_cancel, Nat.reduceAdd, Nat.reduceSub, List.set_cons_zero, List.set_cons_succ, List.getElem?_cons_zero, List.getElem?_cons_succ,
  Option.some.injEq, V.int.injEq, V.bl.injEq, V.str.injEq, V.ref.injEq, exists_eq_left', exists_eq_left, exists_eq', exists_eq, true_and, and_true, if_true, if_false, Bool.false_eq_true, List.cons.injEq, Bool.not_true, Bool.not_false, cxK, cxP, cxW, ite_true, ite_false, wipe, reduceCtorEq, and_self, decide_true, decide_false, exists_and_left, exists_const, decide_eq_true_eq])
local macro_rules | `(tactic| walk_at "len") => `(tactic| (intro vs H Q E h; repeat (first | (obtain ⟨e, _⟩ := h; subst e; rfl) | (obtain ⟨_, h⟩ := h))))
local macro_rules | `(tactic| walk_at "wd") => `(tactic| simp (config := {decide := true}) only [V.str.injEq, scal_ss, true_and, if_true, if_false])

/-! what a cover is due to be (k04) -/
theorem joins_all {ws : List Str} {a : Nat} : ∀ {js : List Join} {i : Nat} {c : Option Nat} {m : Nat} {z : Int}, (c, m, z) ∈ joinsAt ws a i js → ∃ k j, c = some (i + k) ∧ js[k]? = some j ∧ j.1.length = m ∧ j.2 = z
  | [], _, _, _, _, h => nomatch h
  | j :: js, i, c, m, z, h => by
    rw [joinsAt] at h
    rcases List.mem_append.mp h with h | h
    · by_cases e : (ws.drop a).take j.1.length = j.1
      · rw [if_pos e] at h
        cases List.mem_singleton.mp h
        exact ⟨0, j, rfl, rfl, rfl, rfl⟩
      · rw [if_neg e] at h
        cases h
    · obtain ⟨k, j2, e1, e2, e3, e4⟩ := joins_all h
      exact ⟨k + 1, j2, by rw [e1]; congr 1; omega, by simpa using e2, e3, e4⟩
theorem parts_one_of {ws : List Str} {js : List Join} {one : Int} {a : Nat} {p q : Part} (h : p ∈ partsAt ws js one a) (g : q ∈ partsAt ws js one a) (e : p.1 = q.1) : p = q := by
  have key : ∀ {c : Option Nat} {m : Nat} {z : Int}, (c, m, z) ∈ partsAt ws js one a → (c = none ∧ m = 1 ∧ z = one) ∨ ∃ k j, c = some k ∧ js[k]? = some j ∧ j.1.length = m ∧ j.2 = z := fun {c m z} h => by
    unfold partsAt at h
    rcases List.mem_append.mp h with h | h
    · by_cases e : a < ws.length
      · rw [if_pos e] at h
        cases List.mem_singleton.mp h
        exact .inl ⟨rfl, rfl, rfl⟩
      · rw [if_neg e] at h
        cases h
    · obtain ⟨k, j, e1, e2, e3, e4⟩ := joins_all h
      exact .inr ⟨k, j, by rw [e1, Nat.zero_add], e2, e3, e4⟩
  obtain ⟨c, m, z⟩ := p
  obtain ⟨c2, m2, z2⟩ := q
  replace e : c = c2 := e
  subst e
  rcases key h with ⟨e1, e2, e3⟩ | ⟨k, j, e1, e2, e3, e4⟩ <;> rcases key g with ⟨f1, f2, f3⟩ | ⟨l, i, f1, f2, f3, f4⟩
  · rw [e2, e3, f2, f3]
  · rw [e1] at f1; cases f1
  · rw [f1] at e1; cases e1
  · rw [e1] at f1
    cases f1
    rw [e2] at f2
    cases f2
    rw [← e3, ← e4, ← f3, ← f4]
/-- the first part that a count tells at a place -/
def findP (ws : List Str) (js : List Join) (one : Int) (a : Nat) (c : Option Nat) : Option Part := ((partsAt ws js one a).filter fun p => decide (p.1 = c)).head?
def dueWalk (ws : List Str) (js : List Join) (one : Int) : List (Option Nat) → Nat → Int → Option (Nat × Int)
  | [], a, t => some (a, t)
  | c :: r, a, t => match findP ws js one a c with
    | none => none
    | some p => dueWalk ws js one r (a + p.2.1) (t + p.2.2)
def lowB (ws : List Str) (js : List Join) (one : Int) (nums : List Int) (i : Nat) : Bool := (partsAt ws js one i).all fun p => decide (nums.getD i 0 ≤ p.2.2 + nums.getD (i + p.2.1) 0)
def endB (ws : List Str) (js : List Join) (one : Int) (nums : List Int) (a : Nat) (t : Int) : Bool :=
  decide (a = ws.length) && (decide (nums.length = ws.length + 1) && (decide (nums.getD ws.length 0 = 0) && (decide (nums.getD 0 0 = t) && (List.range ws.length).all (lowB ws js one nums))))
def dueB (ws : List Str) (js : List Join) (one : Int) (parts : List (Option Nat)) (nums : List Int) : Bool := match dueWalk ws js one parts 0 0 with
  | none => false
  | some (a, t) => endB ws js one nums a t
theorem findP_mem {ws : List Str} {js : List Join} {one : Int} {a : Nat} {c : Option Nat} {p : Part} (h : findP ws js one a c = some p) : p ∈ partsAt ws js one a ∧ p.1 = c := by
  have m := List.mem_of_mem_head? (by rw [findP] at h; exact h)
  have := List.mem_filter.mp m
  exact ⟨this.1, of_decide_eq_true this.2⟩
theorem findP_of {ws : List Str} {js : List Join} {one : Int} {a : Nat} {p : Part} (h : p ∈ partsAt ws js one a) : findP ws js one a p.1 = some p := by
  cases e : findP ws js one a p.1 with
  | none =>
    unfold findP at e
    have : p ∈ (partsAt ws js one a).filter fun q => decide (q.1 = p.1) := List.mem_filter.mpr ⟨h, decide_eq_true rfl⟩
    rw [List.head?_eq_none_iff.mp e] at this
    cases this
  | some q =>
    obtain ⟨m, e2⟩ := findP_mem e
    rw [parts_one_of m h e2]
theorem parts_out {ws : List Str} {js : List Join} {one : Int} {a : Nat} (h : ∀ j ∈ js, JoinOk j) (ha : ws.length ≤ a) : partsAt ws js one a = [] := by
  have q : ∀ (js : List Join) (i : Nat), (∀ j ∈ js, JoinOk j) → joinsAt ws a i js = [] := by
    intro js
    induction js with
    | nil => intro i _; rfl
    | cons j js ih =>
      intro i g
      have lo := (g j (.head _)).row.lo
      have ne : ¬ (ws.drop a).take j.1.length = j.1 := fun z => by
        have l := congrArg List.length z
        rw [List.length_take, List.length_drop] at l
        omega
      rw [joinsAt, if_neg ne, ih (i + 1) fun k hk => g k (.tail _ hk)]
      rfl
  unfold partsAt
  rw [if_neg (by omega), q js 0 h]
  rfl
theorem cv_drop1 {ws : List Str} {js : List Join} {one : Int} {k : Nat} : ∀ a, (cvStep ws js one (k + a)).1.drop a = (cvStep ws js one k).1
  | 0 => rfl
  | a + 1 => by
    rw [show k + (a + 1) = (k + a) + 1 by omega, cvStep, List.drop_succ_cons]
    exact cv_drop1 a
theorem cv_drop2 {ws : List Str} {js : List Join} {one : Int} {k : Nat} : ∀ a, (cvStep ws js one (k + a)).2.drop a = (cvStep ws js one k).2
  | 0 => rfl
  | a + 1 => by
    rw [show k + (a + 1) = (k + a) + 1 by omega, cvStep, List.drop_succ_cons]
    exact cv_drop2 a
theorem pick_min {nums : List Int} {ps : List Part} {p : Part} (h : p ∈ ps) : costAt nums (pick nums ps) ≤ costAt nums p := by
  obtain ⟨j, hj, e⟩ := List.getElem_of_mem h
  have q := (argBest_lt (fun i => costAt nums (ps.getD i (none, 1, 0))) (ps.length - 1)).2 j (by omega)
  have e2 : ps.getD j (none, 1, 0) = p := by rw [List.getD_eq_getElem?_getD, List.getElem?_eq_getElem hj, e]; rfl
  unfold pick
  rw [e2] at q
  exact q
section
variable {ws : List Str} {js : List Join} {one : Int}
/-- the number of a place -/
theorem num_at {a i : Nat} (h : a ≤ ws.length) : (cvNums ws js one).getD (a + i) 0 = (cvStep ws js one (ws.length - a)).1.getD i 0 := by
  have e := cv_drop1 (ws := ws) (js := js) (one := one) (k := ws.length - a) a
  rw [Nat.sub_add_cancel h] at e
  unfold cvNums
  rw [List.getD_eq_getElem?_getD, List.getD_eq_getElem?_getD, ← e, List.getElem?_drop]
theorem num_end : (cvNums ws js one).getD ws.length 0 = 0 := by
  have e := num_at (ws := ws) (js := js) (one := one) (a := ws.length) (i := 0) (Nat.le_refl _)
  rw [Nat.add_zero, Nat.sub_self] at e
  rw [e]
  rfl
theorem cost_num {a : Nat} (h : a < ws.length) {p : Part} (h1 : 1 ≤ p.2.1) : costAt (cvStep ws js one (ws.length - 1 - a)).1 p = p.2.2 + (cvNums ws js one).getD (a + p.2.1) 0 := by
  have e := num_at (ws := ws) (js := js) (one := one) (a := a + 1) (i := p.2.1 - 1) (by omega)
  rw [show a + 1 + (p.2.1 - 1) = a + p.2.1 by omega, show ws.length - (a + 1) = ws.length - 1 - a by omega] at e
  unfold costAt
  rw [e]
theorem num_low {a : Nat} (g : ∀ j ∈ js, JoinOk j) (h : a < ws.length) : (∀ p ∈ partsAt ws js one a, (cvNums ws js one).getD a 0 ≤ p.2.2 + (cvNums ws js one).getD (a + p.2.1) 0) ∧ ∃ p ∈ partsAt ws js one a, (cvNums ws js one).getD a 0 = p.2.2 + (cvNums ws js one).getD (a + p.2.1) 0 ∧ (cvBest ws js one)[a]? = some (p.1, p.2.1) ∧ a + p.2.1 ≤ ws.length := by
  have fit := parts_fit (one := one) h fun j hj => by have := (g j hj).row.lo; omega
  have e1 := num_at (ws := ws) (js := js) (one := one) (a := a) (i := 0) (by omega)
  have ek : ws.length - a = (ws.length - 1 - a) + 1 := by omega
  rw [Nat.add_zero, ek, cvStep] at e1
  have e2 : (cvBest ws js one)[a]? = (cvStep ws js one (ws.length - a)).2[0]? := by
    have e := cv_drop2 (ws := ws) (js := js) (one := one) (k := ws.length - a) a
    rw [Nat.sub_add_cancel (by omega)] at e
    unfold cvBest
    rw [← e, List.getElem?_drop, Nat.add_zero]
  rw [ek, cvStep] at e2
  have ea : ws.length - 1 - (ws.length - 1 - a) = a := by omega
  rw [ea] at e1 e2
  replace e1 : (cvNums ws js one).getD a 0 = costAt (cvStep ws js one (ws.length - 1 - a)).1 (pick (cvStep ws js one (ws.length - 1 - a)).1 (partsAt ws js one a)) := e1
  have pm := pick_mem (nums := (cvStep ws js one (ws.length - 1 - a)).1) (parts_one (js := js) (one := one) h)
  refine ⟨fun p hp => ?_, _, pm, ?_, e2, (fit _ pm).2⟩
  · rw [e1, ← cost_num h (fit p hp).1]
    exact pick_min hp
  · rw [e1, ← cost_num h (fit _ pm).1]
theorem due_go (g : ∀ j ∈ js, JoinOk j) : ∀ (f a : Nat) (t : Int), a ≤ ws.length → ws.length ≤ f + a → dueWalk ws js one (cvWalk (cvBest ws js one) f a) a t = some (ws.length, t + (cvNums ws js one).getD a 0)
  | 0, a, t, ha, hf => by
    have : a = ws.length := by omega
    subst this
    rw [cvWalk, dueWalk, num_end, Int.add_zero]
  | f + 1, a, t, ha, hf => by
    rcases Nat.lt_or_ge a ws.length with h | h
    · obtain ⟨_, p, hp, e1, e2, e3⟩ := num_low (one := one) g h
      have m1 := (parts_fit (one := one) h (fun j hj => by have := (g j hj).row.lo; omega) p hp).1
      rw [cvWalk, e2]
      show dueWalk ws js one (p.1 :: cvWalk (cvBest ws js one) f (a + p.2.1)) a t = _
      rw [dueWalk, findP_of hp]
      show dueWalk ws js one (cvWalk (cvBest ws js one) f (a + p.2.1)) (a + p.2.1) (t + p.2.2) = _
      rw [due_go g f (a + p.2.1) (t + p.2.2) e3 (by omega), e1, Int.add_assoc]
    · have : a = ws.length := by omega
      subst this
      rw [walk_end (by unfold cvBest; rw [cv_len2]; exact Nat.le_refl _), dueWalk, num_end, Int.add_zero]
theorem due_cover (g : ∀ j ∈ js, JoinOk j) : dueB ws js one (cvParts ws js one) (cvNums ws js one) = true := by
  unfold dueB cvParts
  rw [due_go g ws.length 0 0 (Nat.zero_le _) (by omega), Int.zero_add]
  show endB ws js one (cvNums ws js one) ws.length ((cvNums ws js one).getD 0 0) = true
  unfold endB
  rw [decide_eq_true rfl, decide_eq_true (by unfold cvNums; rw [cv_len1]), decide_eq_true num_end, decide_eq_true rfl]
  simp only [Bool.true_and]
  refine List.all_eq_true.mpr fun i hi => List.all_eq_true.mpr fun p hp => decide_eq_true ?_
  exact (num_low (one := one) g (List.mem_range.mp hi)).1 p hp
end
end Pb

/-! PbStr -/
set_option Elab.async false
set_option linter.all false
set_option maxRecDepth 100000
set_option maxHeartbeats 4000000
/-! Pb: str of a whole number or None, is True, in with a list of data -/
namespace Pb
open PySem PySem.P PySem.Spec PyProof.Rows L2
section
variable {X : Cx}
theorem str_of_none {prog : Program} {w : World} {A : Around} {E : Value → Shared → Prop} {s : Shared} {Q : Value → Shared → Prop} (h : Q (.str "None" s.toks) { s with toks := s.toks + 1 }) : wpAny (model prog w) A (call (.type "str") [.none]) Q E s :=
  callType_new F.called_str (by decide) (F.typeCall_str_1 _) (F.newCall_str_1 _) (fun obj => F.args_object_init_2 obj _) F.entry_str_new
    (meets_str_new (S := fun _ R s => R (.ok (.ret (.str "None" s.toks))) { s with toks := s.toks + 1 }) fun _ _ _ _ s hq =>
      wpAny_strOf_gives rfl (typeIs_none s) F.slot_NoneType_str F.slot_NoneType_repr F.entry_NoneType_repr (F.args_NoneType_repr_1 _) gives_none_repr hq (hsz := by decide)) ⟨typeIs_str _ _ _, h⟩
/-- str(x), x a whole number or None -/
def rStrN : List V → Hp → VK → Prop := fun xs H Q => (∃ i : Int, xs = [.int i] ∧ i.natAbs.log2 < 1920 ∧ Q (.str (toString i)) H) ∨ (xs = [.non] ∧ Q (.str "None") H)
theorem call_strN : CallR X (.type "str") rStrN := by
  intro pins s σ H xs us Q I r h
  rcases h with ⟨i, rfl, hz, q⟩ | ⟨rfl, q⟩
  · exact call_str_int pins s σ H _ us Q I r ⟨i, rfl, hz, q⟩
  · obtain ⟨u, rfl, r1⟩ := vals1 r
    cases r1
    exact str_of_none ⟨.str _, H, I.tok _, ⟨_, rfl⟩, q⟩
/-- x is True, x is not True -/
def rIsT : R2 := fun x y H Q => ∃ b, x = .bl b ∧ y = .bl true ∧ Q (.bl b) H
def rNotT : R2 := fun x y H Q => ∃ b, x = .bl b ∧ y = .bl true ∧ Q (.bl (!b)) H
theorem op_isT : OpR X (compareOp .Is) rIsT := by
  intro pins s σ H x y v u Q I rx ry h
  obtain ⟨b, rfl, rfl, q⟩ := h
  cases rx
  cases ry
  cases b <;> exact wpAny_pure (fin_bl I q rfl)
theorem op_notT : OpR X (compareOp .IsNot) rNotT := by
  intro pins s σ H x y v u Q I rx ry h
  obtain ⟨b, rfl, rfl, q⟩ := h
  cases rx
  cases ry
  cases b <;> exact wpAny_pure (fin_bl I q rfl)
def rInL (K : PySem.W.Frag) (neg : Bool) : R2 := fun x y H Q => ∃ d ds, Dp K H x d ∧ Dp K H y (.list ds) ∧ SeqAt.shaped d = true ∧ SeqAt.shaped (.list ds) = true ∧ Q (.bl (if neg then !ds.any fun z => PyData.eqv z d else ds.any fun z => PyData.eqv z d)) H
theorem op_inL (hu : X.A.units + 65 < cLine) : OpR X (compareOp .In) (rInL X.K false) := by
  intro pins s σ H x y v u Q I rx ry h
  obtain ⟨d, ds, hd, he, sd, se, q⟩ := h
  obtain ⟨as, r1⟩ := Dp.reads I d x v hd rx
  obtain ⟨bs, r2⟩ := Dp.reads I (.list ds) y u he ry
  exact SeqAt.in_list_reads r2 r1 (SeqAt.canLay_of_shaped se) (SeqAt.canLay_of_shaped sd) (room_in_shaped sd hu) ⟨.bl _, H, I, rfl, q⟩
theorem op_notInL (hu : X.A.units + 65 < cLine) : OpR X (compareOp .NotIn) (rInL X.K true) := by
  intro pins s σ H x y v u Q I rx ry h
  obtain ⟨d, ds, hd, he, sd, se, q⟩ := h
  obtain ⟨as, r1⟩ := Dp.reads I d x v hd rx
  obtain ⟨bs, r2⟩ := Dp.reads I (.list ds) y u he ry
  exact SeqAt.notIn_list_reads r2 r1 (SeqAt.canLay_of_shaped se) (SeqAt.canLay_of_shaped sd) (room_in_shaped sd hu) ⟨.bl _, H, I, rfl, q⟩
end
end Pb

/-! L1 -/
set_option Elab.async false
set_option linter.all false
set_option maxRecDepth 100000
set_option maxHeartbeats 4000000
namespace Pb
open PySem PySem.Spec PyProof.Rows L2
open C8 (Cal Mak Met pe_c pe_mk pe_mt pe_mt0 pe_gc fnScope_by)
/-! short words -/
local macro_rules | `(tactic| walk_at "rd") => `(tactic| try simp only [tVar, tC, tAdd, tSub, t2I, tIsN, tNotN, tB, tAnd, tOr, tNot, tAndV, tOrV, tNotV, tIf, tSeq, tPar, tPar3, tNext, tBreak, tCont, tDrop, tRet, tRetN, tIfS, gName, gNil, gCons, gTup, gSub, tAsg, tAug, ipI, iList, iTup, iRng1, iRng2, iStr, iEnum, iZip,
  tOp, tUn, rI, rI0, rU, tTest, tChain, tFld, sFld, sFldAug, L2.rAdd, L2.rSub, tNil, tCons, tTup, tLst, tCall, tMeth, tMake, tCB, tNoPart, tPart, tSl, tBM0, tBM, tDGet, tDGet1, tDGet2, tDIn, tDNotIn, sDPut, tDNewK, rEq, rNe, scal_ii, scal_ss, scal_bb, scal_nn, scal_ni, scal_in, scal_ns, scal_sn, scal_is, scal_si, List.take_succ_cons, List.take_zero, List.drop_succ_cons, List.drop_zero, upd_same, upd_upd, and_assoc, tKGet, gStar, tDisp, tPairs, tYes,
  L2.start, List.map_cons, List.map_nil, List.length_cons, List.length_nil, List.cons_append, List.nil_append, List.append_nil, List.replicate, Nat.sub_self, Nat.add_sub_cancel, Nat.reduceAdd, Nat.reduceSub, List.set_cons_zero, List.set_cons_succ, List.getElem?_cons_zero, List.getElem?_cons_succ,
  Option.some.injEq, V.int.injEq, V.bl.injEq, V.str.injEq, V.ref.injEq, exists_eq_left', exists_eq_left, exists_eq', exists_eq, true_and, and_true, if_true, if_false, Bool.false_eq_true, List.cons.injEq, Bool.not_true, Bool.not_false, cxK, cxP, cxW, ite_true, ite_false, wipe, reduceCtorEq, and_self, decide_true, decide_false, exists_and_left, exists_const, decide_eq_true_eq])
local macro_rules | `(tactic| walk_at "len") => `(tactic| (intro vs H Q E h; repeat (first | (obtain ⟨e, _⟩ := h; subst e; rfl) | (obtain ⟨_, h⟩ := h))))
local macro_rules | `(tactic| walk_at "wd") => `(tactic| simp (config := {decide := true}) only [V.str.injEq, scal_ss, true_and, if_true, if_false])

theorem atI_2 {α : Type} {x y z : α} {xs : List α} : atI (x :: y :: z :: xs) 2 = some z := by
  unfold atI ixN
  rw [if_pos (by omega), if_pos (by rw [List.length_cons, List.length_cons, List.length_cons]; omega)]
  rfl
/-- ints stay where a list of one's own is changed -/
theorem sqL_sx {K : PySem.W.Frag} {H H' : Hp} {a b : Addr} {xs ys : List V} (s : Sx [b] H H') (hb : H b = some (.lst ys)) (ne : xs ≠ ys) (h : SqL K H a xs) : SqL K H' a xs := by
  rcases h with (h | ⟨o, h⟩) | h
  · exact .inl (.inl (s _ _ (fun z => by rw [List.mem_singleton.mp z, hb] at h; exact ne (HO.lst.inj (Option.some.inj h)).symm) h))
  · exact .inl (.inr ⟨o, s _ _ (fun z => by rw [List.mem_singleton.mp z, hb] at h; cases h) h⟩)
  · exact .inr h
theorem a_ixV {K : PySem.W.Frag} {H : Hp} {a : Addr} {xs : List V} {i : Int} {v : V} {Q : VK} (h : SqL K H a xs) (e : atI xs i = some v) (q : Q v H) : rIx K (.ref a) (.int i) H Q := .inl ⟨a, xs, i, v, rfl, rfl, h, e, q⟩
def sp__law_cell_at (K : PySem.W.Frag) : Sp := fun vs H Q _ => ∃ (a : Addr) (k : Int) (ns : List Int), vs = [.ref a, .int k] ∧ SqL K H a (ns.map V.int) ∧ 0 ≤ k ∧ ∀ v, Q (.int v) H
def sp__law_draw (K : PySem.W.Frag) : Sp := fun vs H Q _ => ∃ c k cap, vs = [.int c, .int k, .int cap] ∧ 0 ≤ k ∧ k ≤ 1000 ∧ 0 < cap ∧ ∀ H' v, Same H H' → 0 ≤ v → v < cap → Q (.int v) H'
def sp__law_number (K : PySem.W.Frag) : Sp := fun vs H Q _ => ∃ c k lim, vs = [.int c, .int k, .int lim] ∧ 0 ≤ k ∧ k ≤ 1000 ∧ 0 < lim ∧ ∀ H' v, Same H H' → 0 ≤ v → v < lim → Q (.int v) H'
def stateL (sc : Addr) (by_ k : Int) : List V := [.ref sc, .int by_, .int k]
def sp__law_next (K : PySem.W.Frag) : Sp := fun vs H Q _ => ∃ (st sc : Addr) (b k lim : Int) (ns : List Int), vs = [.ref st, .int lim] ∧ H st = some (.lst (stateL sc b k)) ∧ SqL K H sc (ns.map V.int) ∧ 0 ≤ b ∧ 0 ≤ k ∧ 0 < lim ∧
  ∀ H' v, Sx [st] H H' → H' st = some (.lst (stateL sc b (k + 1))) → 0 ≤ v → v < lim → Q (.int v) H'
section
variable {P : Program} {w : World} {K : PySem.W.Frag} {mg : Str → Option Value} {base : Heap}
theorem ok_cell_at (T : Tx w K mg) : Cal P w K mg base 1 "_law_cell_at" (sp__law_cell_at K) [] := by
  refine cal_of T.D__law_cell_at T.g__law_cell_at sc__law_cell_at (fun _ _ _ _ _ _ us hl => match us, hl with | [_, _], _ => rfl) (by walk_at "len") fun cdv A outer s H vs Q E hr h => ?_
  refine ⟨_, (pss_cons (ps_if (pt_cmpR op_lt (pv 1) (pe_callB (r := rLenQ K) call_lenQ (by rfl) T.b_len (by decide +kernel) (pa_cons (pv 0) pa_nil)) (nomark _)) (pss_one (ps_ret (pe_ix (r := rIx K) ix_seq (pv 0) (pv 1) (fun _ _ => rfl)))) pss_nil)
    (pss_one (ps_ret pe_int))), ?_⟩
  obtain ⟨a, k, ns, rfl, hs, h0, q⟩ := h
  walk_at "rd"
  refine ⟨a, _, rfl, .inl hs, ?_⟩
  rw [List.length_map]
  refine ⟨_, rfl, ?_⟩
  split
  next h1 =>
    have hk : k.toNat < ns.length := by omega
    refine .inl ⟨a, _, k, .int ns[k.toNat], rfl, rfl, hs, ?_, q _⟩
    unfold atI ixN
    rw [if_pos h0, List.length_map, if_pos h1]
    show (ns.map V.int)[k.toNat]? = _
    rw [List.getElem?_map, List.getElem?_eq_getElem hk]
    rfl
  next => exact q _
theorem ok_draw (T : Tx w K mg) : Cal P w K mg base 1 "_law_draw" (sp__law_draw K) [] := by
  refine cal_of T.D__law_draw T.g__law_draw sc__law_draw (fun _ _ _ _ _ _ us hl => match us, hl with | [_, _, _], _ => rfl) (by walk_at "len") fun cdv A outer s H vs Q E hr h => ?_
  refine ⟨_, (pss_cons (ps_set (i := 3) sc__law_draw.nd rfl (by first | exact Or.inl rfl | exact Or.inr rfl) (pe_tup (pa_cons pe_int (pa_cons pe_int (pa_cons pe_int (pa_cons pe_int (pa_cons pe_int (pa_cons pe_int (pa_cons pe_int (pa_cons pe_int (pa_cons pe_int (pa_cons pe_int (pa_cons pe_int (pa_cons pe_int (pa_cons pe_int (pa_cons pe_int (pa_cons pe_int (pa_cons pe_int pa_nil))))))))))))))))))
    (pss_one (ps_ret (pe_op op_mod (pe_op op_mod (pe_op op_add (pe_op op_mul (pv 0) pe_int) (pe_op op_mul (pv 1) pe_int)) (pe_ix (r := rIx K) ix_seq (pv 3) (pe_op op_mod (pv 1) pe_int) (fun _ _ => rfl))) (pv 2))))), ?_⟩
  obtain ⟨c, k, cap, rfl, h0, h1, h2, q⟩ := h
  walk_at "rd"
  refine ⟨by rw [sizeLine_eq]; omega, fun p hp => ⟨.inr (by decide), .inr (by decide), by omega, ?_⟩⟩
  have s1 := same_new (o := HO.tup [V.int 1000003, V.int 1000033, V.int 1000037, V.int 1000039, V.int 1000081, V.int 1000099, V.int 1000117, V.int 1000121, V.int 1000133, V.int 1000151, V.int 1000159, V.int 1000171, V.int 1000183, V.int 1000187, V.int 1000193, V.int 1000199]) hp
  have hr : ∀ i : Nat, i < 16 → ∃ n : Int, ([1000003, 1000033, 1000037, 1000039, 1000081, 1000099, 1000117, 1000121, 1000133, 1000151, 1000159, 1000171, 1000183, 1000187, 1000193, 1000199] : List Int)[i]? = some n ∧ 0 < n := fun i hi => by
    have e := List.getElem?_eq_getElem (l := ([1000003, 1000033, 1000037, 1000039, 1000081, 1000099, 1000117, 1000121, 1000133, 1000151, 1000159, 1000171, 1000183, 1000187, 1000193, 1000199] : List Int)) (i := i) hi
    have pos : ∀ n ∈ ([1000003, 1000033, 1000037, 1000039, 1000081, 1000099, 1000117, 1000121, 1000133, 1000151, 1000159, 1000171, 1000183, 1000187, 1000193, 1000199] : List Int), 0 < n := by decide
    exact ⟨_, e, pos _ (List.getElem_mem hi)⟩
  have m0 := Int.emod_nonneg k (show (16 : Int) ≠ 0 by decide)
  have m1 := Int.emod_lt_of_pos k (show (0 : Int) < 16 by decide)
  obtain ⟨n, e, hn⟩ := hr (k % 16).toNat (by omega)
  refine .inr (.inl ⟨p, _, _, .int n, rfl, rfl, .inl (.inl upd_same), ?_, ?_⟩)
  · unfold atI ixN
    rw [if_pos m0, if_pos (by exact m1)]
    show (([1000003, 1000033, 1000037, 1000039, 1000081, 1000099, 1000117, 1000121, 1000133, 1000151, 1000159, 1000171, 1000183, 1000187, 1000193, 1000199] : List Int).map V.int)[(k % 16).toNat]? = _
    rw [List.getElem?_map, e]
    rfl
  · exact ⟨n, rfl, hn, h2, q _ _ s1 (Int.emod_nonneg _ (by omega)) (Int.emod_lt_of_pos _ h2)⟩
theorem ok_number (T : Tx w K mg) (F__law_draw : Cal P w K mg base 1 "_law_draw" (sp__law_draw K) []) : Cal P w K mg base 2 "_law_number" (sp__law_number K) [] := by
  refine cal_of T.D__law_number T.g__law_number sc__law_number (fun _ _ _ _ _ _ us hl => match us, hl with | [_, _, _], _ => rfl) (by walk_at "len") fun cdv A outer s H vs Q E hr h => ?_
  refine ⟨_, (pss_cons (ps_set (i := 3) sc__law_number.nd rfl (by first | exact Or.inl rfl | exact Or.inr rfl) (pe_op op_sub (pv 0) (pe_op op_pow pe_int pe_int)))
    (pss_cons (ps_for PassesOwn.never rfl (pi_range1 (by rfl) T.b_range (pa_cons (pe_op op_mod (pv 1) pe_int) pa_nil)) (pg_name (i := 4) sc__law_number.nd rfl (by first | exact Or.inl rfl | exact Or.inr rfl)) (pss_one (ps_set (i := 3) sc__law_number.nd rfl (by first | exact Or.inl rfl | exact Or.inr rfl) (pe_op op_fdiv (pv 3) pe_int))))
    (pss_cons (ps_if (pt_cmpR op_gt (pv 3) pe_int (nomark _)) (pss_one (ps_ret (pe_op op_mod (pe_op op_mod (pv 3) pe_int) (pv 2)))) pss_nil)
    (pss_cons (ps_set (i := 5) sc__law_number.nd rfl (by first | exact Or.inl rfl | exact Or.inr rfl) (pe_op op_mod (pv 0) pe_int))
    (pss_one (ps_ret (pe_op op_mod (pe_c F__law_draw hr (by decide) (by rfl) (pa_cons (pe_op op_mul (pe_op op_add (pv 5) (pe_op op_mul pe_int (pv 1))) (pe_op op_add (pe_op op_add (pv 5) (pe_op op_mul pe_int (pv 1))) pe_int)) (pa_cons (pe_op op_add (pe_op op_mod (pv 1) pe_int) pe_int) (pa_cons pe_int pa_nil)))) (pv 2)))))))), ?_⟩
  obtain ⟨c, k, lim, rfl, h0, h1, h2, q⟩ := h
  walk_at "rd"
  refine ⟨by first | decide | (unfold CPow; decide), ?_⟩
  have m0 := Int.emod_nonneg k (show (24 : Int) ≠ 0 by decide)
  have m1 := Int.emod_lt_of_pos k (show (0 : Int) < 24 by decide)
  refine a_for ?_
  walk_at "rd"
  refine ⟨by decide, by omega, by omega, ?_⟩
  refine for_go2 walk_range (fun i σ H1 => Same H H1 ∧ ∃ r o4, σ = [some (.int c), some (.int k), some (.int lim), some (.int r), o4, none]) ⟨Same.refl _, _, _, rfl⟩ (fun _ _ _ _ _ => trivial) ?_ ?_
  · rintro Pw yes i y σ H1 H2 hi ⟨s1, r, o4, rfl⟩ ⟨e0, ey⟩
    subst e0
    walk_at "rd"
    exact ⟨⟨by decide, by decide⟩, yes _ _ _ ⟨s1, _, _, rfl⟩⟩
  · rintro σ H1 ⟨s1, r, o4, rfl⟩
    walk_at "rd"
    split
    next => exact ⟨by decide, h2, q _ _ s1 (Int.emod_nonneg _ (by omega)) (Int.emod_lt_of_pos _ h2)⟩
    next =>
      have n0 := Int.emod_nonneg c (show (1000003 : Int) ≠ 0 by decide)
      have n1 := Int.emod_lt_of_pos c (show (0 : Int) < 1000003 by decide)
      have k0 := Int.emod_nonneg k (show (9 : Int) ≠ 0 by decide)
      have k1 := Int.emod_lt_of_pos k (show (0 : Int) < 9 by decide)
      refine ⟨by decide, .inl (by decide), .inl (by decide), .inl ⟨by omega, by omega⟩, by decide, _, _, _, rfl, by omega, by omega, by decide, fun H2 v s2 v0 v1 => ?_⟩
      exact ⟨_, rfl, h2, q _ _ (s1.trans s2) (Int.emod_nonneg _ (by omega)) (Int.emod_lt_of_pos _ h2)⟩
theorem ok_next (T : Tx w K mg) (F__law_cell_at : Cal P w K mg base 1 "_law_cell_at" (sp__law_cell_at K) []) (F__law_number : Cal P w K mg base 2 "_law_number" (sp__law_number K) []) : Cal P w K mg base 3 "_law_next" (sp__law_next K) [] := by
  refine cal_of T.D__law_next T.g__law_next sc__law_next (fun _ _ _ _ _ _ us hl => match us, hl with | [_, _], _ => rfl) (by walk_at "len") fun cdv A outer s H vs Q E hr h => ?_
  refine ⟨_, (pss_cons (ps_asg (pe_op op_add (pe_ix (r := rIx K) ix_seq (pv 0) pe_int (fun _ _ => rfl)) pe_int) (pg_sub (pv 0) pe_int set_list))
    (pss_cons (ps_set (i := 2) sc__law_next.nd rfl (by first | exact Or.inl rfl | exact Or.inr rfl) (pe_op op_fdiv (pe_ix (r := rIx K) ix_seq (pv 0) pe_int (fun _ _ => rfl)) pe_int))
    (pss_cons (ps_set (i := 3) sc__law_next.nd rfl (by first | exact Or.inl rfl | exact Or.inr rfl) (pe_op op_add (pe_c F__law_cell_at hr (by decide) (by rfl) (pa_cons (pe_ix (r := rIx K) ix_seq (pv 0) pe_int (fun _ _ => rfl)) (pa_cons (pe_op op_add (pe_ix (r := rIx K) ix_seq (pv 0) pe_int (fun _ _ => rfl)) (pv 2)) pa_nil))) (pe_op op_mul pe_int (pv 2))))
    (pss_one (ps_ret (pe_c F__law_number hr (by decide) (by rfl) (pa_cons (pv 3) (pa_cons (pe_op op_add (pe_op op_mod (pe_ix (r := rIx K) ix_seq (pv 0) pe_int (fun _ _ => rfl)) pe_int) pe_int) (pa_cons (pv 1) pa_nil))))))))), ?_⟩
  obtain ⟨st, sc, b, k, lim, ns, rfl, hst, hsc, hb, hk, hl, q⟩ := h
  walk_at "rd"
  have hst2 : H st = some (.lst [.ref sc, .int b, .int k]) := hst
  refine a_ixV (SqL.of hst2) atI_2 ?_
  refine ⟨k, rfl, st, _, 2, 2, rfl, rfl, hst2, rfl, ?_⟩
  have e1 : upd H st (.lst ([V.ref sc, .int b, .int k].set 2 (.int (k + 1)))) st = some (.lst [.ref sc, .int b, .int (k + 1)]) := upd_same
  have sx : Sx [st] H (upd H st (.lst ([V.ref sc, .int b, .int k].set 2 (.int (k + 1))))) := Sx.at
  generalize upd H st (.lst ([V.ref sc, .int b, .int k].set 2 (.int (k + 1)))) = H1 at *
  have hsc1 : SqL K H1 sc (ns.map V.int) := sqL_sx sx hst2 (fun z => by cases ns <;> cases z) hsc
  refine a_ixV (SqL.of e1) atI_2 ⟨_, rfl, ⟨by decide, by decide⟩, ?_⟩
  refine a_ixV (SqL.of e1) atI_0 (a_ixV (SqL.of e1) atI_1 ⟨_, rfl, sc, _, ns, rfl, hsc1, by have : 0 ≤ (k + 1) / 12 := Int.ediv_nonneg (by omega) (by decide); omega, fun v => ?_⟩)
  refine ⟨.inl (by decide), v, rfl, a_ixV (SqL.of e1) atI_2 ⟨_, rfl, by decide, _, _, _, rfl, ?_, ?_, hl, fun H2 u s2 u0 u1 => q _ _ (sx.trans (Sx.of s2)) (s2 _ _ e1) u0 u1⟩⟩
  · have := Int.emod_nonneg (k + 1) (show (12 : Int) ≠ 0 by decide)
    omega
  · have := Int.emod_lt_of_pos (k + 1) (show (0 : Int) < 12 by decide)
    omega
end
end Pb

/-! S1 -/
set_option Elab.async false
set_option linter.all false
set_option maxRecDepth 100000
set_option maxHeartbeats 4000000
namespace Pb
open PySem PySem.Spec PyProof.Rows L2
open C8 (Cal Mak Met pe_c pe_mk pe_mt pe_mt0 pe_gc fnScope_by)
/-! short words -/
local macro_rules | `(tactic| walk_at "rd") => `(tactic| try simp only [tVar, tC, tAdd, tSub, t2I, tIsN, tNotN, tB, tAnd, tOr, tNot, tAndV, tOrV, tNotV, tIf, tSeq, tPar, tPar3, tNext, tBreak, tCont, tDrop, tRet, tRetN, tIfS, gName, gNil, gCons, gTup, gSub, tAsg, tAug, ipI, iList, iTup, iRng1, iRng2, iStr, iEnum, iZip,
  tOp, tUn, rI, rI0, rU, tTest, tChain, tFld, sFld, sFldAug, L2.rAdd, L2.rSub, tNil, tCons, tTup, tLst, tCall, tMeth, tMake, tCB, tNoPart, tPart, tSl, tBM0, tBM, tDGet, tDGet1, tDGet2, tDIn, tDNotIn, sDPut, tDNewK, rEq, rNe, scal_ii, scal_ss, scal_bb, scal_nn, scal_ni, scal_in, scal_ns, scal_sn, scal_is, scal_si, List.take_succ_cons, List.take_zero, List.drop_succ_cons, List.drop_zero, upd_same, upd_upd, and_assoc, tKGet, gStar, tDisp, tPairs, tYes,
  L2.start, List.map_cons, List.map_nil, List.length_cons, List.length_nil, List.cons_append, List.nil_append, List.append_nil, List.replicate, Nat.sub_self, Nat.add_sub_cancel, Nat.reduceAdd, Nat.reduceSub, List.set_cons_zero, List.set_cons_succ, List.getElem?_cons_zero, List.getElem?_cons_succ,
  Option.some.injEq, V.int.injEq, V.bl.injEq, V.str.injEq, V.ref.injEq, exists_eq_left', exists_eq_left, exists_eq', exists_eq, true_and, and_true, if_true, if_false, Bool.false_eq_true, List.cons.injEq, Bool.not_true, Bool.not_false, cxK, cxP, cxW, ite_true, ite_false, wipe, reduceCtorEq, and_self, decide_true, decide_false, exists_and_left, exists_const, decide_eq_true_eq])
local macro_rules | `(tactic| walk_at "len") => `(tactic| (intro vs H Q E h; repeat (first | (obtain ⟨e, _⟩ := h; subst e; rfl) | (obtain ⟨_, h⟩ := h))))
local macro_rules | `(tactic| walk_at "wd") => `(tactic| simp (config := {decide := true}) only [V.str.injEq, scal_ss, true_and, if_true, if_false])

/-- the law's script and its counter -/
structure StI (K : PySem.W.Frag) (H0 H : Hp) (st sc : Addr) (b : Int) (ns : List Int) : Prop where
  s0 : Sx [st] H0 H
  k0 : ∃ k, 0 ≤ k ∧ H0 st = some (.lst (stateL sc b k))
  sq : SqL K H0 sc (ns.map V.int)
  b0 : 0 ≤ b
  now : ∃ k, 0 ≤ k ∧ H st = some (.lst (stateL sc b k))
section
variable {K : PySem.W.Frag} {H0 H H' : Hp} {st sc : Addr} {b : Int} {ns : List Int} {E : XK}
theorem StI.sqL (i : StI K H0 H st sc b ns) : SqL K H sc (ns.map V.int) := by
  obtain ⟨k, _, e⟩ := i.k0
  exact sqL_sx i.s0 e (fun z => by cases ns <;> cases z) i.sq
theorem StI.grow (i : StI K H0 H st sc b ns) (s : Same H H') : StI K H0 H' st sc b ns where
  s0 := i.s0.trans (Sx.of s)
  k0 := i.k0
  sq := i.sq
  b0 := i.b0
  now := by
    obtain ⟨k, h0, e⟩ := i.now
    exact ⟨k, h0, s _ _ e⟩
theorem StI.step (i : StI K H0 H st sc b ns) {k : Int} (h0 : 0 ≤ k) (s : Sx [st] H H') (e : H' st = some (.lst (stateL sc b k))) : StI K H0 H' st sc b ns where
  s0 := i.s0.trans s
  k0 := i.k0
  sq := i.sq
  b0 := i.b0
  now := ⟨k, h0, e⟩
/-- a change at a place of one's own -/
theorem StI.own (i : StI K H0 H st sc b ns) {f : Addr} {o : HO} (hf : H0 f = none) : StI K H0 (upd H f o) st sc b ns where
  s0 := fun c u hc ec => by
    rw [upd_ne (ne_of_none ec hf)]
    exact i.s0 c u hc ec
  k0 := i.k0
  sq := i.sq
  b0 := i.b0
  now := by
    obtain ⟨k, h0, e⟩ := i.now
    obtain ⟨k2, h2, e2⟩ := i.k0
    exact ⟨k, h0, (upd_ne (ne_of_none e2 hf)).trans e⟩
/-- a place of one's own is not the state's -/
theorem StI.off (i : StI K H0 H st sc b ns) {f : Addr} (hf : H0 f = none) : f ∉ [st] := fun z => by
  obtain ⟨k, _, e⟩ := i.k0
  rw [List.mem_singleton.mp z, e] at hf
  cases hf
theorem StI.fresh (i : StI K H0 H st sc b ns) {x : Addr} (e : H x = none) : H0 x = none := by
  cases q : H0 x with
  | none => rfl
  | some o =>
    have e2 := i.s0 x o (fun z => by
      obtain ⟨k, _, ek⟩ := i.now
      rw [List.mem_singleton.mp z, ek] at e
      cases e) q
    rw [e2] at e
    cases e
theorem a_next (i : StI K H0 H st sc b ns) {lim : Int} (hl : 0 < lim) {Q : VK} (q : ∀ H' v, StI K H0 H' st sc b ns → Sx [st] H H' → 0 ≤ v → v < lim → Q (.int v) H') : sp__law_next K [.ref st, .int lim] H Q E := by
  obtain ⟨k, h0, e⟩ := i.now
  exact ⟨st, sc, b, k, lim, ns, rfl, e, i.sqL, i.b0, h0, hl, fun H' v sx e' v0 v1 => q H' v (i.step (by omega) sx e') sx v0 v1⟩
end
section
variable {K : PySem.W.Frag} {H0 H H' : Hp} {st sc : Addr} {b : Int} {ns : List Int}
theorem StI.here (i : StI K H0 H st sc b ns) : StI K H H st sc b ns := ⟨Sx.refl, i.now, i.sqL, i.b0, i.now⟩
theorem StI.over (i : StI K H0 H st sc b ns) (j : StI K H H' st sc b ns) : StI K H0 H' st sc b ns := ⟨i.s0.trans j.s0, i.k0, i.sq, i.b0, j.now⟩
theorem StI.tk (i : StI K H0 H st sc b ns) : Tk H [st] := by
  obtain ⟨k, _, e⟩ := i.now
  exact Tk.cons e Tk.nil
theorem StI.hid (j : StI K H H' st sc b ns) : Same (hide H [st]) (hide H' [st]) := j.s0.hide fun _ h => h
end
end Pb

/-! PbEnd -/
set_option Elab.async false
set_option linter.all false
set_option maxRecDepth 100000
set_option maxHeartbeats 4000000
namespace Pb
open PySem PySem.Spec PyProof.Rows L2
open C8 (Cal Mak Met pe_c pe_mk pe_mt pe_mt0 pe_gc fnScope_by)
/-! short words -/
local macro_rules | `(tactic| walk_at "rd") => `(tactic| try simp only [tVar, tC, tAdd, tSub, t2I, tIsN, tNotN, tB, tAnd, tOr, tNot, tAndV, tOrV, tNotV, tIf, tSeq, tPar, tPar3, tNext, tBreak, tCont, tDrop, tRet, tRetN, tIfS, gName, gNil, gCons, gTup, gSub, tAsg, tAug, ipI, iList, iTup, iRng1, iRng2, iStr, iEnum, iZip,
  tOp, tUn, rI, rI0, rU, tTest, tChain, tFld, sFld, sFldAug, L2.rAdd, L2.rSub, tNil, tCons, tTup, tLst, tCall, tMeth, tMake, tCB, tNoPart, tPart, tSl, tBM0, tBM, tDGet, tDGet1, tDGet2, tDIn, tDNotIn, sDPut, tDNewK, rEq, rNe, scal_ii, scal_ss, scal_bb, scal_nn, scal_ni, scal_in, scal_ns, scal_sn, scal_is, scal_si, List.take_succ_cons, List.take_zero, List.drop_succ_cons, List.drop_zero, upd_same, upd_upd, and_assoc, tKGet, gStar, tDisp, tPairs, tYes,
  L2.start, List.map_cons, List.map_nil, List.length_cons, List.length_nil, List.cons_append, List.nil_append, List.append_nil, List.replicate, Nat.sub_self, Nat.add_sub_cancel, Nat.reduceAdd, Nat.reduceSub, List.set_cons_zero, List.set_cons_succ, List.getElem?_cons_zero, List.getElem?_cons_succ,
  Option.some.injEq, V.int.injEq, V.bl.injEq, V.str.injEq, V.ref.injEq, exists_eq_left', exists_eq_left, exists_eq', exists_eq, true_and, and_true, if_true, if_false, Bool.false_eq_true, List.cons.injEq, Bool.not_true, Bool.not_false, cxK, cxP, cxW, ite_true, ite_false, wipe, reduceCtorEq, and_self, decide_true, decide_false, exists_and_left, exists_const, decide_eq_true_eq])
local macro_rules | `(tactic| walk_at "len") => `(tactic| (intro vs H Q E h; repeat (first | (obtain ⟨e, _⟩ := h; subst e; rfl) | (obtain ⟨_, h⟩ := h))))
local macro_rules | `(tactic| walk_at "wd") => `(tactic| simp (config := {decide := true}) only [V.str.injEq, scal_ss, true_and, if_true, if_false])

/-! Pb: a law's promise, data equal to itself -/
theorem gfn_ofN {P : Program} {w : World} {K : PySem.W.Frag} {mg : Str → Option Value} {base : Heap} {x qual : Str} {st : Stmt} {f : Addr} {fd : FuncData} {dvs : List V} {kws : List (Str × V)} {N ps : List Str} {k : Nat} {sp : Sp} (D : FunD K x qual (L2.defArgs st) (L2.defBody st) (L2.defScope st) dvs kws f fd) (S : FnScope N ps (L2.defScope st)) (len : ∀ vs H Q E, sp vs H Q E → vs.length = ps.length)
    (hbody : ∀ (cdv : Value) (A : Around) (outer : List Env) (s : Shared) (H : Hp) (vs : List V) (Q : VK) (E : XK), Still (A.deeper (envOfC qual (L2.defScope st) s.heap.objs.size f cdv)) → Room k (A.deeper (envOfC qual (L2.defScope st) s.heap.objs.size f cdv)) → sp vs H Q E →
      ∃ t, PSs (cxOf CX0 P w K mg base N qual (L2.defScope st) f cdv A outer s H E).nox (L2.defBody st) t ∧ t { nx := fun _ H' => Q .non H', rt := Q } (start N vs) H) : GFn P w K mg base (k + 1) f fd ps sp :=
  gfn_of D S len fun cdv A outer s H vs Q E hs hr h => by
    obtain ⟨t, h1, h2⟩ := hbody cdv A outer s H vs Q E hs hr h
    exact ⟨t, h1.nox, h2⟩
mutual
theorem eqv_self : ∀ d : PyData, d.hasDict = false → PyData.eqv d d = true
  | .none, _ => by simp [PyData.eqv]
  | .bool b, _ => by simp [PyData.eqv]
  | .int i, _ => by simp [PyData.eqv]
  | .str x, _ => by simp [PyData.eqv]
  | .list xs, h => by
    rw [PyData.eqv]
    exact eqvAll_self xs (by simpa [PyData.hasDict] using h)
  | .tuple xs, h => by
    rw [PyData.eqv]
    exact eqvAll_self xs (by simpa [PyData.hasDict] using h)
  | .dict _, h => by simp [PyData.hasDict] at h
theorem eqvAll_self : ∀ ds : List PyData, PyData.hasDictAll ds = false → PyData.eqvAll ds ds = true
  | [], _ => by simp [PyData.eqvAll]
  | d :: ds, h => by
    have h2 : d.hasDict = false ∧ PyData.hasDictAll ds = false := by simpa [PyData.hasDictAll] using h
    rw [PyData.eqvAll, eqv_self d h2.1, eqvAll_self ds h2.2]
    rfl
end
theorem eqv_shaped {d : PyData} (h : SeqAt.shaped d = true) : PyData.eqv d d = true := by
  unfold SeqAt.shaped at h
  exact eqv_self d (PyData.hasDict_of_canLay d (Bool.and_eq_true_iff.mp h).1)
theorem iteF' {c : Prop} [Decidable c] {a b : Prop} (h : ¬ c) (q : b) : if c then a else b := by rw [if_neg h]; exact q
section
variable {K : PySem.W.Frag} {H : Hp} {x : V} {Q : VK}
theorem a_neSelf {y : V} {d : PyData} (h : Dp K H x d) (h2 : Dp K H y d) (sh : SeqAt.shaped d = true) (q : Q (.bl false) H) : rNeD K x y H Q := a_neD h h2 sh sh (by rw [eqv_shaped sh]; exact q)
theorem a_eqSelf {y : V} {d : PyData} (h : Dp K H x d) (h2 : Dp K H y d) (sh : SeqAt.shaped d = true) (q : Q (.bl true) H) : rEqD K x y H Q := a_eqD h h2 sh sh (by rw [eqv_shaped sh]; exact q)
theorem shaped_ints (ns : List Int) : SeqAt.shaped (.list (ns.map PyData.int)) = true := shaped_of (n := 1) (shp_list fun d hd => by
  obtain ⟨n, _, e⟩ := List.mem_map.mp hd
  rw [← e]
  exact shp_int) (by decide)
end
end Pb

/-! PbIx -/
set_option Elab.async false
set_option linter.all false
set_option maxRecDepth 100000
set_option maxHeartbeats 4000000
namespace Pb
open PySem PySem.Spec PyProof.Rows L2
open C8 (Cal Mak Met pe_c pe_mk pe_mt pe_mt0 pe_gc fnScope_by)
/-! short words -/
local macro_rules | `(tactic| walk_at "rd") => `(tactic| try simp only [tVar, tC, tAdd, tSub, t2I, tIsN, tNotN, tB, tAnd, tOr, tNot, tAndV, tOrV, tNotV, tIf, tSeq, tPar, tPar3, tNext, tBreak, tCont, tDrop, tRet, tRetN, tIfS, gName, gNil, gCons, gTup, gSub, tAsg, tAug, ipI, iList, iTup, iRng1, iRng2, iStr, iEnum, iZip,
  tOp, tUn, rI, rI0, rU, tTest, tChain, tFld, sFld, sFldAug, L2.rAdd, L2.rSub, tNil, tCons, tTup, tLst, tCall, tMeth, tMake, tCB, tNoPart, tPart, tSl, tBM0, tBM, tDGet, tDGet1, tDGet2, tDIn, tDNotIn, sDPut, tDNewK, rEq, rNe, scal_ii, scal_ss, scal_bb, scal_nn, scal_ni, scal_in, scal_ns, scal_sn, scal_is, scal_si, List.take_succ_cons, List.take_zero, List.drop_succ_cons, List.drop_zero, upd_same, upd_upd, and_assoc, tKGet, gStar, tDisp, tPairs, tYes,
  L2.start, List.map_cons, List.map_nil, List.length_cons, List.length_nil, List.cons_append, List.nil_append, List.append_nil, List.replicate, Nat.sub_self, Nat.add_sub_cancel, Nat.reduceAdd, Nat.reduceSub, List.set_cons_zero, List.set_cons_succ, List.getElem?_cons_zero, List.getElem?_cons_succ,
  Option.some.injEq, V.int.injEq, V.bl.injEq, V.str.injEq, V.ref.injEq, exists_eq_left', exists_eq_left, exists_eq', exists_eq, true_and, and_true, if_true, if_false, Bool.false_eq_true, List.cons.injEq, Bool.not_true, Bool.not_false, cxK, cxP, cxW, ite_true, ite_false, wipe, reduceCtorEq, and_self, decide_true, decide_false, exists_and_left, exists_const, decide_eq_true_eq])
local macro_rules | `(tactic| walk_at "len") => `(tactic| (intro vs H Q E h; repeat (first | (obtain ⟨e, _⟩ := h; subst e; rfl) | (obtain ⟨_, h⟩ := h))))
local macro_rules | `(tactic| walk_at "wd") => `(tactic| simp (config := {decide := true}) only [V.str.injEq, scal_ss, true_and, if_true, if_false])

/-! items of lists (the same as parts of L2, M3, N2b) -/
theorem iteT' {c : Prop} [Decidable c] {a b : Prop} (h : c) (q : a) : if c then a else b := by rw [if_pos h]; exact q
theorem ixN_at {n j : Nat} (hj : j < n) : ixN n (j : Int) = some j := by
  unfold ixN
  rw [if_pos (by omega), if_pos (by omega)]
  simp
theorem DpAll.set {K : PySem.W.Frag} {H : Hp} {v : V} {d : PyData} (h : Dp K H v d) : ∀ {vs : List V} {ds : List PyData} {j : Nat}, DpAll K H vs ds → DpAll K H (vs.set j v) (ds.set j d)
  | _, _, _, .nil => .nil
  | _, _, 0, .cons _ t => .cons h t
  | _, _, _ + 1, .cons x t => .cons x (DpAll.set h t)
theorem a_ixTV {K : PySem.W.Frag} {H : Hp} {a : Addr} {xs : List V} {i : Int} {v : V} {Q : VK} (h : SqT K H a xs) (e : atI xs i = some v) (q : Q v H) : rIx K (.ref a) (.int i) H Q := .inr (.inl ⟨a, xs, i, v, rfl, rfl, h, e, q⟩)
section
variable {K : PySem.W.Frag} {H : Hp} {ms : List Addr} {x y : V} {ds es : List PyData} {Q : VK}
theorem a_ixA {H' : Hp} {a : Addr} {xs : List V} {i : Int} {d : PyData} (hs : SqL K H a xs) (ha : DpAll K H' xs ds) (e : atI ds i = some d) (q : ∀ v, Dp K H' v d → Q v H) : rIx K (.ref a) (.int i) H Q := by
  have el := DpAll.length ha
  unfold atI at e
  cases hj : ixN ds.length i with
  | none => rw [hj] at e; cases e
  | some j =>
    rw [hj] at e
    obtain ⟨v, ev, dv⟩ := DpAll.get ha e
    refine a_ixV hs (v := v) ?_ (q v dv)
    unfold atI
    rw [el, hj]
    exact ev
theorem a_ixD {i : Int} {d : PyData} (h : Dp K (hide H ms) x (.list ds)) (e : atI ds i = some d) (q : ∀ v, Dp K (hide H ms) v d → Q v H) : rIx K x (.int i) H Q := by
  obtain ⟨a, xs, rfl, hs, ha⟩ := dp_list h
  exact a_ixA (sqL_same same_show hs) ha e q
end
theorem atI_m1 {α : Type} {xs : List α} {v : α} (z : 1 ≤ xs.length) (e : xs[xs.length - 1]? = some v) : atI xs (-1) = some v := by
  unfold atI ixN
  rw [if_neg (by omega), if_pos (by omega), show (-1 + (xs.length : Int)).toNat = xs.length - 1 by omega]
  exact e
theorem flat_one {α : Type} {x : α} : ∀ n : Nat, (List.replicate n [x]).flatten = List.replicate n x
  | 0 => rfl
  | n + 1 => by rw [List.replicate_succ, List.flatten_cons, flat_one n, List.replicate_succ]; rfl
end Pb

/-! PbLit -/
set_option Elab.async false
set_option linter.all false
set_option maxRecDepth 100000
set_option maxHeartbeats 4000000
/-! Pb: nested displays of constants and names as one step -/
namespace Pb
open PySem PySem.Spec PyProof.Rows L2
inductive Lit where
  | c (d : PyData) | v (i : Nat) | tup (ls : List Lit) | lst (ls : List Lit)
mutual
def Lit.d (r : Nat → PyData) : Lit → PyData
  | .c d => d
  | .v i => r i
  | .tup ls => .tuple (Lit.ds r ls)
  | .lst ls => .list (Lit.ds r ls)
def Lit.ds (r : Nat → PyData) : List Lit → List PyData
  | [] => []
  | l :: ls => l.d r :: Lit.ds r ls
end
mutual
def Lit.vars : Lit → List Nat
  | .c _ => []
  | .v i => [i]
  | .tup ls => Lit.varsAll ls
  | .lst ls => Lit.varsAll ls
def Lit.varsAll : List Lit → List Nat
  | [] => []
  | l :: ls => l.vars ++ Lit.varsAll ls
end
theorem Lit.ds_len {r : Nat → PyData} : ∀ {ls : List Lit}, (Lit.ds r ls).length = ls.length
  | [] => rfl
  | _ :: ls => by show (Lit.ds r ls).length + 1 = ls.length + 1; rw [Lit.ds_len]
def VarsAt (K : PySem.W.Frag) (H : Hp) (σ : L2.St) (r : Nat → PyData) (is : List Nat) : Prop := ∀ i ∈ is, ∃ v, σ[i]? = some (some v) ∧ Dp K H v (r i)
theorem VarsAt.nil {K : PySem.W.Frag} {H : Hp} {σ : L2.St} {r : Nat → PyData} : VarsAt K H σ r [] := fun _ h => nomatch h
theorem VarsAt.cons {K : PySem.W.Frag} {H : Hp} {σ : L2.St} {r : Nat → PyData} {i : Nat} {is : List Nat} {v : V} (h : σ[i]? = some (some v)) (d : Dp K H v (r i)) (a : VarsAt K H σ r is) : VarsAt K H σ r (i :: is) := fun j hj => by
  rcases List.mem_cons.mp hj with e | hj
  · rw [e]; exact ⟨v, h, d⟩
  · exact a j hj
def tLit (K : PySem.W.Frag) (l : Lit) : TE := fun σ H Q => ∃ ms r, Tk H ms ∧ VarsAt K (hide H ms) σ r l.vars ∧ ∀ H' v, Same H H' → Dp K (hide H' ms) v (l.d r) → Q v H'
def aLit (K : PySem.W.Frag) (ls : List Lit) : TA := fun σ H Q => ∃ ms r, Tk H ms ∧ VarsAt K (hide H ms) σ r (Lit.varsAll ls) ∧ ∀ H' vs, Same H H' → DpAll K (hide H' ms) vs (Lit.ds r ls) → Q vs H'
section
variable {X : Cx} {K : PySem.W.Frag} {e : Expr} {es : List Expr} {pos : Pos} {l : Lit} {ls : List Lit}
theorem pe_weak {t u : TE} (h : PE X e t) (w : ∀ σ H Q, u σ H Q → t σ H Q) : PE X e u := ⟨fun pins s σ H Q I q => h.run pins s σ H Q I (w σ H Q q)⟩
theorem pa_weak {t u : TA} (h : PA X es t) (w : ∀ σ H Q, u σ H Q → t σ H Q) : PA X es u := ⟨fun pos pins s σ H Q I q => h.run pos pins s σ H Q I (w σ H Q q)⟩
theorem pl_of {v : V} {d : PyData} (h : PE X e (tC v)) (hd : ∀ H, Dp K H v d) : PE X e (tLit K (.c d)) := pe_weak h fun σ H Q ⟨ms, r, _, _, q⟩ => q H v (Same.refl _) (hd _)
theorem pl_int {i : Int} {j : Nat} : PE X (.Constant (.int i) j pos) (tLit K (.c (.int i))) := pl_of pe_int fun _ => .int _
theorem pl_str {x : Str} {j : Nat} : PE X (.Constant (.str x) j pos) (tLit K (.c (.str x))) := pl_of pe_str fun _ => .str _
theorem pl_bl {b : Bool} {j : Nat} : PE X (.Constant (.bool b) j pos) (tLit K (.c (.bool b))) := pl_of pe_bl fun _ => .bl _
theorem pl_non {j : Nat} : PE X (.Constant .none j pos) (tLit K (.c .none)) := pl_of pe_non fun _ => .non
theorem pl_neg {i : Int} {a : Expr} (h : PE X a (tC (.int i))) : PE X (.UnaryOp .USub a pos) (tLit K (.c (.int (-i)))) := pe_weak (pe_un un_neg h) fun σ H Q ⟨ms, r, _, _, q⟩ => ⟨i, rfl, q H _ (Same.refl _) (.int _)⟩
theorem pl_var {i : Nat} (h : PE X e (tVar i)) : PE X e (tLit K (.v i)) := pe_weak h fun σ H Q ⟨ms, r, tk, hv, q⟩ => by
  obtain ⟨v, e1, d⟩ := hv i (List.mem_singleton.mpr rfl)
  exact ⟨v, e1, q H v (Same.refl _) d⟩
theorem pls_nil : PA X [] (aLit K []) := pa_weak pa_nil fun σ H Q ⟨ms, r, _, _, q⟩ => q H [] (Same.refl _) .nil
theorem pls_cons (h : PE X e (tLit K l)) (a : PA X es (aLit K ls)) (hs : starEach (e :: es) X.env = (false, eval e X.env) :: starEach es X.env := by rfl) : PA X (e :: es) (aLit K (l :: ls)) := pa_weak (pa_cons h a hs) fun σ H Q ⟨ms, r, tk, hv, q⟩ =>
  ⟨ms, r, tk, fun i hi => hv i (List.mem_append_left _ hi), fun H1 x s1 d1 => ⟨ms, r, tk.same s1, fun i hi => by
    obtain ⟨v, e1, d⟩ := hv i (List.mem_append_right _ hi)
    exact ⟨v, e1, Dp.mono (Same.hide s1 ms) d⟩, fun H2 xs s2 d2 => q H2 (x :: xs) (s1.trans s2) (.cons (Dp.mono (Same.hide s2 ms) d1) d2)⟩⟩
theorem pl_tup {k : Nat} (h : PA X es (aLit K ls)) (hz : ls.length ≤ 1000 := by decide) : PE X (.Tuple es k pos) (tLit K (.tup ls)) := pe_weak (pe_tup h) fun σ H Q ⟨ms, r, tk, hv, q⟩ =>
  ⟨ms, r, tk, hv, fun H1 vs s1 d1 => ⟨by rw [DpAll.length d1, Lit.ds_len, sizeLine_eq]; omega, fun p np => q _ (.ref p) (s1.trans (same_new np)) (.tup (.inl (.inl (new_at (tk.same s1) np))) (DpAll.mono (Same.hide (same_new np) ms) d1))⟩⟩
theorem pl_lst (h : PA X es (aLit K ls)) (hz : ls.length ≤ 1000 := by decide) : PE X (.List es pos) (tLit K (.lst ls)) := pe_weak (pe_lst h) fun σ H Q ⟨ms, r, tk, hv, q⟩ =>
  ⟨ms, r, tk, hv, fun H1 vs s1 d1 => ⟨by rw [DpAll.length d1, Lit.ds_len, sizeLine_eq]; omega, fun p np => q _ (.ref p) (s1.trans (same_new np)) (.lst (.inl (.inl (new_at (tk.same s1) np))) (DpAll.mono (Same.hide (same_new np) ms) d1))⟩⟩
/-- a list to be changed later: its place is new -/
def tLitN (K : PySem.W.Frag) (ls : List Lit) : TE := fun σ H Q => ∃ ms r, Tk H ms ∧ VarsAt K (hide H ms) σ r (Lit.varsAll ls) ∧ ∀ H1 p vs, Same H H1 → H1 p = none → H p = none → DpAll K (hide H1 ms) vs (Lit.ds r ls) → Q (.ref p) (upd H1 p (.lst vs))
theorem pl_lstN (h : PA X es (aLit K ls)) (hz : ls.length ≤ 1000 := by decide) : PE X (.List es pos) (tLitN K ls) := pe_weak (pe_lst h) fun σ H Q ⟨ms, r, tk, hv, q⟩ =>
  ⟨ms, r, tk, hv, fun H1 vs s1 d1 => ⟨by rw [DpAll.length d1, Lit.ds_len, sizeLine_eq]; omega, fun p np => q H1 p vs s1 np (s1.free np) d1⟩⟩
end
section
variable {K : PySem.W.Frag} {σ : L2.St} {H : Hp} {Q : VK} {l : Lit} {ls : List Lit}
/-- without names -/
theorem a_lit (hv : l.vars = []) (d : PyData) (hd : l.d (fun _ => .none) = d) (q : ∀ H' v, Same H H' → Dp K H' v d → Q v H') : tLit K l σ H Q := ⟨[], fun _ => .none, Tk.nil, by rw [hv]; exact VarsAt.nil, fun H' v s h => by
  rw [hide_nil, hd] at h
  exact q H' v s h⟩
theorem a_litN (hv : Lit.varsAll ls = []) (ds : List PyData) (hd : Lit.ds (fun _ => .none) ls = ds) (q : ∀ H1 p vs, Same H H1 → H1 p = none → H p = none → DpAll K H1 vs ds → Q (.ref p) (upd H1 p (.lst vs))) : tLitN K ls σ H Q := ⟨[], fun _ => .none, Tk.nil, by rw [hv]; exact VarsAt.nil, fun H1 p vs s n n0 h => by
  rw [hide_nil, hd] at h
  exact q H1 p vs s n n0 h⟩
end
end Pb

/-! PbMK -/
set_option Elab.async false
set_option linter.all false
set_option maxRecDepth 100000
set_option maxHeartbeats 4000000
/-! Pb: methods with keyword-only parameters; try: e; return e2 / finally: .. where nothing raises -/
namespace Pb
open PySem PySem.Spec PyProof.Rows L2
structure KMet (P : Program) (w : World) (K : PySem.W.Frag) (mg : Str → Option Value) (base : Heap) (k : Nat) (C : Addr) (m : Str) (sp : Sp) (ps : List Str) (st : Stmt) (qual : Str) (kws : List (Str × V)) : Prop where
  ex : ∃ f fd, Cls K C ∧ Meth K C m f ∧ FnOk P w K mg base CX0 k f fd ps sp ∧ FunD K m qual (L2.defArgs st) (L2.defBody st) (L2.defScope st) [] kws f fd
section
variable {P : Program} {w : World} {K : PySem.W.Frag} {mg : Str → Option Value} {base : Heap}
theorem kmet_of {m qual : Str} {C : Addr} {st : Stmt} {f : Addr} {N ps : List Str} {k : Nat} {sp : Sp} {kws : List (Str × V)} (c : Cls K C) (me : Meth K C m f) (D : FnD K m qual st [] kws f) (S : FnScope N ps (L2.defScope st))
    (len : ∀ vs H Q E, sp vs H Q E → vs.length = ps.length)
    (hbody : ∀ (cdv : Value) (A : Around) (outer : List Env) (s : Shared) (H : Hp) (vs : List V) (Q : VK) (E : XK), Room k (A.deeper (envOfC qual (L2.defScope st) s.heap.objs.size f cdv)) → sp vs H Q E →
      ∃ t, PSs (cxOf CX0 P w K mg base N qual (L2.defScope st) f cdv A outer s H E).nox (L2.defBody st) t ∧ t { nx := fun _ H' => Q .non H', rt := Q } (start N vs) H) : KMet P w K mg base (k + 1) C m sp ps st qual kws := by
  obtain ⟨fd, F⟩ := D
  refine ⟨f, fd, c, me, F.ok S len fun cdv A outer s H vs Q E hr h => ?_, F⟩
  obtain ⟨t, h1, h2⟩ := hbody cdv A outer s H vs Q E hr h
  exact ⟨t, h1.nox, h2⟩
end
/-- o.m(k = v, ..) -/
def tMethK (C : Addr) (m : Str) (n : Nat) (sp : Sp) (gV : List V → List V → List V) (E : XK) (ta : TE) (tk : TA) : TE := fun σ H Q => ta σ H fun x H1 => ∃ a dx fs, x = .ref a ∧ H1 a = some (.ins C dx fs) ∧ fs.lookup m = none ∧
  tk σ H1 fun zs H2 => zs.length = n ∧ sp (gV [x] zs) H2 Q E
section
variable {X : Cx} {k j : Nat} {m qual : Str} {C : Addr} {sp : Sp} {ps : List Str} {st : Stmt} {kws : List (Str × V)} {apos pos : Pos} {o : Expr} {kwe : List Keyword} {ta : TE} {tk : TA}
theorem pe_mtK0 {pl : Sem Bool} (c : KMet X.prog X.w X.K X.mg X.base k C m sp ps st qual kws) (hr : Room j X.A) (hk : k ≤ j) (he : PE X o ta) (ks : List Str) (ms : List (Str × V)) (g : {α : Type} → List α → List α → List α → List α) (hkws : kws ≠ []) (hms : ∀ q ∈ ms, q ∈ kws)
    (hrel : ∀ {vs mz zs : List V} {us mv ws : List Value}, Vals vs us → Vals mz mv → Vals zs ws → Vals (g vs mz zs) (g us mv ws))
    (h : ∀ (D : Addr) (doc pm : Value) (an : Option Addr) (cdv ct : Value) (us mv ws : List Value), us.length = 1 → mv.length = ms.length → ws.length = ks.length →
      KwChain D ((ms.map (·.1)).zip mv) (bindArgs (PySem.W.fnOf m qual (L2.defArgs st) (L2.defBody st) (L2.defScope st) .none (.ref D) doc pm an cdv ct) ⟨us, ks.zip ws⟩) (ps.zip (g us mv ws)))
    (hkw : PK X kwe tk) (hall : (backToKw pos (keywordEach kwe X.env)).all (·.1.isSome) = true := by rfl) (hks : (backToKw pos (keywordEach kwe X.env)).filterMap (·.1) = ks := by rfl)
    (hpl : ((backTo pos (starEach [] X.env)).any (·.1) || (backToKw pos (keywordEach kwe X.env)).any (·.1.isNone)) = false := by rfl)
    (ht : eval (.Call (.Attribute o m apos) [] kwe pos) X.env = (do
      let ov ← eval o X.env
      standAt apos.atName
      let (f, first) ← holding [ov] (getMethod ov m pl)
      callWith pos f first (backTo pos (starEach [] X.env)) (backToKw pos (keywordEach kwe X.env))) := by rfl) :
    PE X (.Call (.Attribute o m apos) [] kwe pos) (tMethK C m ks.length sp (fun vs zs => g vs (ms.map (·.2)) zs) C8.E0 ta tk) := by
  obtain ⟨f, fd, hc, hm, F, D⟩ := c.ex
  obtain ⟨mv, hb⟩ := D.kbinds0 (ps := ps) 1 ks ms g hkws hms hrel h
  refine ⟨fun pins s σ H Q I z => PySem.W.methodCall_KW (pl := pl) (thn (he.run pins s σ H _ I z) fun u s1 ⟨x, H1, I1, rx, a, dx, fs, ex, ea, l, q⟩ => ?_) ht⟩
  subst ex
  cases (show u = Value.ref a from rx)
  refine getmeth_ok I1 ea hc hm l (PySem.W.callWith_KW0 (first := [.ref a]) (h₀ := X.base) I.ok.mod.kin hm.kp hall (thn (hkw.run pos pins s1 σ H1 _ I1 q) fun ws s2 ⟨zs, H2, I2, rz, l2, q2⟩ => ⟨I2.kIn, ?_⟩) hpl)
  rw [hks]
  have r0 : Vals [V.ref a] [Value.ref a] := .cons rfl .nil
  refine wpAny_call (codeAny_mono (F.run X.A X.stack s2 H2 ⟨[.ref a], ks.zip ws⟩ _ _ Q C8.E0 (hr.mono hk) I2.env0 (hb.to s2 [.ref a] ws I2.kIn rfl (rz.length.symm.trans l2)) (hb.rel r0 rz) q2) fun r s3 hq => ?_)
  match r, hq with
  | .error er, hq => exact C8.pass0 (E := C8.E0) pins σ H2 s2 er s3 I2 hq
  | .ok (.ret u), hq => exact I2.after hq
end
/-! ### try: e1; return e2 / finally: suite -/
def tXRetFin (t1 t2 : TE) (tf : TS) : TS := fun D σ H => t1 σ H fun _ H1 => t2 σ H1 fun v H2 => tf { D with nx := fun _ H3 => D.rt v H3 } σ H2
section
variable {X : Cx} {e1 e2 : Expr} {f0 : Stmt} {fs : List Stmt} {p1 p2 pos : Pos} {t1 t2 : TE} {tf : TS}
theorem ps_xRetFin (hs : swapsWith e1 none p1.line X.env = pure false) (h1 : PE X.nox e1 t1) (h2 : PE X.nox e2 t2) (hf : PSs X.nox (f0 :: fs) tf) : PS X (.Try [.Expr e1 p1, .Return (some e2) p2] [] [] (f0 :: fs) pos) (tXRetFin t1 t2 tf) := by
  refine ⟨fun pins s σ H D I h => wpAny_Try_finally (wpAny_execs_cons (wpAny_mono ((ps_expr (pos := p1) h1 hs).run pins s σ H { nx := fun σ1 H1 => σ1 = σ ∧ t2 σ H1 fun v H2 => tf { D with nx := fun _ H3 => D.rt v H3 } σ H2, rt := fun _ _ => False } (I.wish _) ?_) (fun fl s1 z => ?_) fun _ _ z => False.elim z))⟩
  · show t1 σ H fun _ H1 => _ ∧ _
    have e : (fun (_ : V) H1 => σ = σ ∧ t2 σ H1 fun v H2 => tf { D with nx := fun _ H3 => D.rt v H3 } σ H2) = fun (_ : V) H1 => t2 σ H1 fun v H2 => tf { D with nx := fun _ H3 => D.rt v H3 } σ H2 := by
      funext _ H1
      simp
    rw [e]
    exact h
  · match fl, z with
    | .next, ⟨_, H1, I1, e, q1⟩ =>
      rw [e] at I1
      refine wpAny_execs_cons (wpAny_Return_some (wpAny_mono (h2.run pins s1 σ H1 _ I1 q1) (fun u s2 z => ?_) fun _ _ z => False.elim z))
      obtain ⟨v2, H2, I2, r2, q2⟩ := z
      exact fin_ret hf I2.unwish r2 q2
    | .ret u, ⟨_, _, _, _, _, z⟩ => exact z.elim
    | .brk, ⟨_, _, _, z⟩ => exact z.elim
    | .cont, ⟨_, _, _, z⟩ => exact z.elim
end
end Pb

/-! V4 -/
set_option Elab.async false
set_option linter.all false
set_option maxRecDepth 100000
set_option maxHeartbeats 4000000
namespace Pb
open PySem PySem.Spec PyProof.Rows L2
open C8 (Cal Mak Met pe_c pe_mk pe_mt pe_mt0 pe_gc fnScope_by)
/-! short words -/
local macro_rules | `(tactic| walk_at "rd") => `(tactic| try simp only [tVar, tC, tAdd, tSub, t2I, tIsN, tNotN, tB, tAnd, tOr, tNot, tAndV, tOrV, tNotV, tIf, tSeq, tPar, tPar3, tNext, tBreak, tCont, tDrop, tRet, tRetN, tIfS, gName, gNil, gCons, gTup, gSub, tAsg, tAug, ipI, iList, iTup, iRng1, iRng2, iStr, iEnum, iZip,
  tOp, tUn, rI, rI0, rU, tTest, tChain, tFld, sFld, sFldAug, L2.rAdd, L2.rSub, tNil, tCons, tTup, tLst, tCall, tMeth, tMake, tCB, tNoPart, tPart, tSl, tBM0, tBM, tDGet, tDGet1, tDGet2, tDIn, tDNotIn, sDPut, tDNewK, rEq, rNe, scal_ii, scal_ss, scal_bb, scal_nn, scal_ni, scal_in, scal_ns, scal_sn, scal_is, scal_si, List.take_succ_cons, List.take_zero, List.drop_succ_cons, List.drop_zero, upd_same, upd_upd, and_assoc, tKGet, gStar, tDisp, tPairs, tYes,
  L2.start, List.map_cons, List.map_nil, List.length_cons, List.length_nil, List.cons_append, List.nil_append, List.append_nil, List.replicate, Nat.sub_self, Nat.add_sub_cancel, Nat.reduceAdd, Nat.reduceSub, List.set_cons_zero, List.set_cons_succ, List.getElem?_cons_zero, List.getElem?_cons_succ,
  Option.some.injEq, V.int.injEq, V.bl.injEq, V.str.injEq, V.ref.injEq, exists_eq_left', exists_eq_left, exists_eq', exists_eq, true_and, and_true, if_true, if_false, Bool.false_eq_true, List.cons.injEq, Bool.not_true, Bool.not_false, cxK, cxP, cxW, ite_true, ite_false, wipe, reduceCtorEq, and_self, decide_true, decide_false, exists_and_left, exists_const, decide_eq_true_eq])
local macro_rules | `(tactic| walk_at "len") => `(tactic| (intro vs H Q E h; repeat (first | (obtain ⟨e, _⟩ := h; subst e; rfl) | (obtain ⟨_, h⟩ := h))))
local macro_rules | `(tactic| walk_at "wd") => `(tactic| simp (config := {decide := true}) only [V.str.injEq, scal_ss, true_and, if_true, if_false])

/-! the least costs; whether a cover shows what it tells (k04) -/
def sp__law_least (K : PySem.W.Frag) : Sp := fun vs H Q _ => ∃ ms v u ws js one, vs = [v, u, .int one] ∧ Tk H ms ∧ Dp K (hide H ms) v (wordsD ws) ∧ Dp K (hide H ms) u (joinsD js) ∧ CovOk ws js one ∧ ∀ H' f, Same H H' → H f = none → H' f = some (.lst ((cvNums ws js one).map V.int)) → Q (.ref f) H'
/-- a cover with its two lists -/
def IsCov (K : PySem.W.Frag) (H : Hp) (p : Addr) (parts : List (Option Nat)) (nums : List Int) : Prop := ∃ dx pl nl, H p = some (.ins (He.ga K "Cover") dx (coverF pl nl)) ∧ H pl = some (.lst (parts.map countV)) ∧ H nl = some (.lst (nums.map V.int))
def sp_Cover_shows (K : PySem.W.Frag) : Sp := fun vs H Q _ => ∃ ms p v u ws js one parts nums, vs = [.ref p, v, u, .int one] ∧ IsCov K H p parts nums ∧ Tk H ms ∧ Dp K (hide H ms) v (wordsD ws) ∧ Dp K (hide H ms) u (joinsD js) ∧ CovOk ws js one ∧ parts.length ≤ 1000 ∧ nums.length ≤ 1000 ∧ ∀ H', Same H H' → Q (.bl (dueB ws js one parts nums)) H'
def sp__law_due (K : PySem.W.Frag) : Sp := fun vs H Q _ => ∃ ms p v u ws js one parts nums, vs = [v, u, .int one, .ref p] ∧ IsCov K H p parts nums ∧ Tk H ms ∧ Dp K (hide H ms) v (wordsD ws) ∧ Dp K (hide H ms) u (joinsD js) ∧ CovOk ws js one ∧ parts.length ≤ 1000 ∧ nums.length ≤ 1000 ∧ (∀ k, some k ∈ parts → k ≤ 9) ∧ ∀ H', Same H H' → Q (.bl (dueB ws js one parts nums)) H'
theorem dueB_len {ws : List Str} {js : List Join} {one : Int} {parts : List (Option Nat)} {nums : List Int} (h : ¬ nums.length = ws.length + 1) : dueB ws js one parts nums = false := by
  unfold dueB
  cases dueWalk ws js one parts 0 0 with
  | none => rfl
  | some q =>
    obtain ⟨a, t⟩ := q
    show endB ws js one nums a t = false
    unfold endB
    rw [decide_eq_false h, Bool.false_and, Bool.and_false]
/-- whether a count is the one -/
def cntB (c : Option Nat) : PyData → Bool
  | .int k => decide (countV c = .int k)
  | .none => decide (countV c = .non)
  | _ => false
def rowB (c : Option Nat) : PyData → Bool
  | .tuple (x :: _) => cntB c x
  | _ => false
theorem cntB_of {c e : Option Nat} : cntB c (countD e) = decide (e = c) := by
  cases c <;> cases e <;> simp [cntB, countD, countV] <;> omega
theorem rows_filter {c : Option Nat} {ps : List Part} : (ps.map partD).filter (rowB c) = (ps.filter fun p => decide (p.1 = c)).map partD := by
  rw [List.filter_map]
  congr 1
  refine List.filter_congr fun p _ => ?_
  show rowB c (partD p) = _
  exact cntB_of
theorem countV_dp {K : PySem.W.Frag} {H : Hp} {v : V} {c : Option Nat} (h : Dp K H v (countD c)) : v = countV c := by
  cases c <;> cases h <;> rfl
theorem dp_count {K : PySem.W.Frag} {H : Hp} (c : Option Nat) : Dp K H (countV c) (countD c) := by
  cases c
  · exact .non
  · exact .int _
theorem countV_eq {c e : Option Nat} : decide (countV e = countV c) = decide (e = c) := by
  cases c <;> cases e <;> simp [countV] <;> omega
theorem scal_count {c e : Option Nat} : scal (countV e) (countV c) = true := by
  cases c <;> cases e <;> rfl
theorem parts_shaped {ps : List Part} : SeqAt.shaped (.list (ps.map partD)) = true := shaped_of (n := 3) (shp_list fun d hd => by
  obtain ⟨p, _, rfl⟩ := List.mem_map.mp hd
  refine shp_tup (n := 1) fun d hd => ?_
  simp only [List.mem_cons, List.not_mem_nil, or_false] at hd
  rcases hd with rfl | rfl | rfl
  · cases p.1
    · exact shp_none
    · exact shp_int
  · exact shp_int
  · exact shp_int) (by decide)
theorem eqv_nilP {ds : List PyData} : PyData.eqv (.list ds) (.list []) = decide (ds = []) := by
  cases ds <;> simp [PyData.eqv, PyData.eqvAll]
section
variable {P : Program} {w : World} {K : PySem.W.Frag} {mg : Str → Option Value} {base : Heap}
theorem ok_least (T : Tx w K mg) (F__law_parts : Cal P w K mg base 1 "_law_parts" (sp__law_parts K) []) : Cal P w K mg base 2 "_law_least" (sp__law_least K) [] := by
  refine cal_of T.D__law_least T.g__law_least sc__law_least (fun _ _ _ _ _ _ us hl => match us, hl with | [_, _, _], _ => rfl) (by walk_at "len") fun cdv A outer s H vs Q E hr h => ?_
  refine ⟨_, (pss_cons (ps_set (i := 3) sc__law_least.nd rfl (by first | exact Or.inl rfl | exact Or.inr rfl) (pe_op op_rep (pe_lst (pa_cons pe_int pa_nil)) (pe_op op_add (pe_callB (r := rLenQ K) call_lenQ (by rfl) T.b_len (by decide +kernel) (pa_cons (pv 0) pa_nil)) pe_int)))
    (pss_cons (ps_for PassesOwn.never rfl (pi_range1 (by rfl) T.b_range (pa_cons (pe_callB (r := rLenQ K) call_lenQ (by rfl) T.b_len (by decide +kernel) (pa_cons (pv 0) pa_nil)) pa_nil)) (pg_name (i := 4) sc__law_least.nd rfl (by first | exact Or.inl rfl | exact Or.inr rfl)) (pss_cons (ps_set (i := 5) sc__law_least.nd rfl (by first | exact Or.inl rfl | exact Or.inr rfl) (pe_op op_sub (pe_op op_sub (pe_callB (r := rLenQ K) call_lenQ (by rfl) T.b_len (by decide +kernel) (pa_cons (pv 0) pa_nil)) pe_int) (pv 4)))
    (pss_one (ps_asg (pe_callB (cr_min rfl) (by rfl) T.b_min (by decide +kernel) (pa_cons (pe_lc rfl sc__law_least.nd (pi_listK (K := K) (pe_c F__law_parts hr (by decide) (by rfl) (pa_cons (pv 0) (pa_cons (pv 1) (pa_cons (pv 2) (pa_cons (pv 5) pa_nil)))))) (blkOk_by (own := [("_law_count", 6), ("_law_many", 7), ("_law_cost", 8)]) (N := ["_law_words", "_law_joins", "_law_price", "_law_found", "_law_back", "_law_at", "_law_count", "_law_many", "_law_cost"]) (sc := L2.defScope s__law_least) (by decide +kernel)) (fun _ _ _ _ _ => (pg_m (pg_tupK (K := K) (n := 3) rfl (pgs_cons (pg_name (i := 6) sc__law_least.nd rfl (by first | exact Or.inl rfl | exact Or.inr rfl)) (pgs_cons (pg_name (i := 7) sc__law_least.nd rfl (by first | exact Or.inl rfl | exact Or.inr rfl)) (pgs_cons (pg_name (i := 8) sc__law_least.nd rfl (by first | exact Or.inl rfl | exact Or.inr rfl)) pgs_nil)))))) (fun _ _ _ _ _ => pts_nilM) (fun _ _ _ _ _ => (pe_m (pe_op op_add (pv 8) (pe_ix (r := rIx K) ix_seq (pv 3) (pe_op op_add (pv 5) (pv 7)) (fun _ _ => rfl)))))) pa_nil)) (pg_sub (pv 3) (pv 5) set_list)))))
    (pss_one (ps_ret (pv 3))))), ?_⟩
  obtain ⟨ms, v, u, ws, js, one, rfl, tk, hv, hu, ok, k⟩ := h
  have big : ∀ n : Nat, n ≤ 1000000 → n ≤ sizeLine := fun n h => by rw [sizeLine_eq]; omega
  have hv0 := Dp.mono same_show hv
  have hw := ok.words.hi
  have hlen : ∀ {A : Hp} {R : VK}, Same H A → R (.int (ws.length : Nat)) A → rLenQ K [v] A R := fun {A R} s q => a_lenL (Dp.mono s hv0) (by rw [List.length_map]; exact q)
  refine seq_mid (fun σ A => ∃ fl, σ = [some v, some u, some (.int one), some (.ref fl), none, none, none, none, none] ∧ Same H A ∧ H fl = none ∧ A fl = some (.lst ((List.replicate (ws.length - 0) (0 : Int) ++ (cvStep ws js one 0).1).map V.int))) (fun Kx yes => ?_) ?_
  · walk_at "rd"
    refine ⟨big _ (by decide), fun p np => ?_⟩
    have sp := same_new (o := HO.lst [V.int 0]) np
    refine hlen sp ⟨_, rfl, ?_⟩
    refine ⟨p, _, [V.int 0], rfl, rfl, upd_same, by omega, by omega, by rw [sizeLine_eq]; show 1 * _ ≤ 16777216; omega, fun fl nfl => ?_⟩
    have npf : fl ≠ p := fun z => by rw [z, upd_same] at nfl; cases nfl
    refine yes _ _ ⟨fl, rfl, sp.trans (same_new nfl), (upd_ne npf).symm.trans nfl, upd_same.trans ?_⟩
    congr 2
    rw [show ((ws.length : Nat) : Int) + 1 = ((ws.length + 1 : Nat) : Int) by omega, Int.toNat_natCast, flat_one, Nat.sub_zero, cvStep, ← List.replicate_succ', List.map_replicate]
  rintro σ A ⟨fl, rfl, s1, nfl, efl⟩
  refine a_for ?_
  walk_at "rd"
  refine hlen s1 ⟨_, rfl, by omega, by omega, ?_⟩
  rw [Int.toNat_natCast]
  refine for_go2 walk_range (fun i σ A => ∃ o4 o5 o6 o7 o8, σ = [some v, some u, some (.int one), some (.ref fl), o4, o5, o6, o7, o8] ∧ Same H A ∧ A fl = some (.lst ((List.replicate (ws.length - i) (0 : Int) ++ (cvStep ws js one i).1).map V.int))) ⟨_, _, _, _, _, rfl, s1, efl⟩ (fun _ _ _ _ _ => trivial) ?_ (fun σ A z => by
    obtain ⟨o4, o5, o6, o7, o8, rfl, z1, z2⟩ := z
    walk_at "rd"
    refine k A fl z1 nfl (z2.trans ?_)
    rw [Nat.sub_self]
    rfl)
  clear s1 efl A
  rintro Pw yes i y σ A A' hi ⟨o4, o5, o6, o7, o8, rfl, s1, efl⟩ ⟨e0, ey⟩
  subst e0
  obtain rfl : y = V.int (0 + (i : Nat)) := ey
  refine g_name ?_
  dsimp only
  have hi2 : i < ws.length := hi
  have nlen := cv_len1 (ws := ws) (js := js) (one := one) i
  have hat : ws.length - 1 - i < ws.length := by omega
  have fit := parts_fit (js := js) (one := one) hat (fun j hj => by have := (ok.joins j hj).row.lo; omega)
  have one1 := parts_one (js := js) (one := one) hat
  have plen := parts_len (ws := ws) (js := js) (one := one) (a := ws.length - 1 - i)
  have few := ok.few
  have step1 : (cvStep ws js one (i + 1)).1 = costAt (cvStep ws js one i).1 (pick (cvStep ws js one i).1 (partsAt ws js one (ws.length - 1 - i))) :: (cvStep ws js one i).1 := by rw [cvStep]
  refine seq_mid (fun σ A2 => σ = [some v, some u, some (.int one), some (.ref fl), some (.int (0 + (i : Nat))), some (.int ((ws.length - 1 - i : Nat) : Int)), o6, o7, o8] ∧ A2 = A') (fun Kx yes1 => ?_) ?_
  · walk_at "rd"
    refine hlen s1 ⟨_, rfl, ?_⟩
    have e : ((ws.length : Nat) : Int) - 1 - (0 + (i : Nat)) = ((ws.length - 1 - i : Nat) : Int) := by omega
    rw [e]
    exact yes1 _ _ ⟨rfl, rfl⟩
  rintro σ A2 ⟨rfl, rfl⟩
  have hvA := Dp.mono (Same.hide s1 ms) hv
  have huA := Dp.mono (Same.hide s1 ms) hu
  have eL : partsL ws js one (ws.length - 1 - i) = partsAt ws js one (ws.length - 1 - i) := partsL_in hat
  have efill : ∀ p : Part, 1 ≤ p.2.1 → ws.length - 1 - i + p.2.1 ≤ ws.length → (List.replicate (ws.length - i) (0 : Int) ++ (cvStep ws js one i).1)[ws.length - 1 - i + p.2.1]? = some ((cvStep ws js one i).1.getD (p.2.1 - 1) 0) := fun p h1 h2 => by
    rw [List.getElem?_append_right (by rw [List.length_replicate]; omega), List.length_replicate, show ws.length - 1 - i + p.2.1 - (ws.length - i) = p.2.1 - 1 by omega, List.getD_eq_getElem?_getD, List.getElem?_eq_getElem (by omega)]
    rfl
  have eset : ∀ m : Int, ((List.replicate (ws.length - i) (0 : Int) ++ (cvStep ws js one i).1).map V.int).set (ws.length - 1 - i) (.int m) = (List.replicate (ws.length - (i + 1)) (0 : Int) ++ (m :: (cvStep ws js one i).1)).map V.int := fun m => by
    rw [show V.int m = V.int m from rfl, ← List.map_set]
    congr 1
    rw [show ws.length - i = (ws.length - 1 - i) + 1 by omega, List.replicate_succ', List.append_assoc, List.set_append_right _ _ (by rw [List.length_replicate]; exact Nat.le_refl _), List.length_replicate, Nat.sub_self, show ws.length - (i + 1) = ws.length - 1 - i by omega]
    rfl
  have pmin : ∀ p ∈ partsAt ws js one (ws.length - 1 - i), costAt (cvStep ws js one i).1 (pick (cvStep ws js one i).1 (partsAt ws js one (ws.length - 1 - i))) ≤ costAt (cvStep ws js one i).1 p := fun p hp => pick_min hp
  have pmem := pick_mem (nums := (cvStep ws js one i).1) one1
  generalize pick (cvStep ws js one i).1 (partsAt ws js one (ws.length - 1 - i)) = pk at *
  generalize (cvStep ws js one i).1 = nums at *
  generalize ws.length - 1 - i = at_ at *
  generalize partsAt ws js one at_ = ps at *
  walk_at "rd"
  refine a_lc ?_
  walk_at "rd"
  refine ⟨ms, _, _, ws, js, one, at_, rfl, tk.same s1, hvA, huA, by omega, by omega, fun j hj => Nat.le_trans (ok.joins j hj).row.hi (by decide), by omega, ok.words.all, fun j hj => (ok.joins j hj).row.all, fun H7 q s7 nq hq => ?_⟩
  rw [eL] at hq
  obtain ⟨q', qx, eq', hql, hqa⟩ := dp_list hq
  cases eq'
  refine ⟨q, rfl, ⟨qx, sqL_same same_show hql⟩, fun D nD => ?_⟩
  refine lc_data (K := K) (ds := ps.map partD) (ms := ms) (walk_list (xs := qx)) nD ((tk.same s1).same s7) (by rw [List.length_map, sizeLine_eq]; omega) hqa (fun H8 s8 => sqL_same (same_show.trans s8) hql) (fun _ => true) (fun d => match d with
    | .tuple [_, .int m, .int z] => .int (z + nums.getD (m.toNat - 1) 0)
    | _ => .none) (fun y d H8 hd8 s8 hD8 hy => ?_) (fun H8 ys s8 e8 hys => ?_)
  · obtain ⟨p, hp, rfl⟩ := List.mem_map.mp hd8
    obtain ⟨q2, u1, u2, u3, rfl, hq2, d1, d2, d3⟩ := dp_t3 hy
    cases d2
    cases d3
    obtain ⟨f1, f2⟩ := fit p hp
    refine a_t3V (sqT_same same_show hq2) ?_
    walk_at "rd"
    refine ⟨fun z => z.elim, fun _ => ?_⟩
    rw [show (at_ : Int) + ((p.2.1 : Nat) : Int) = ((at_ + p.2.1 : Nat) : Int) by omega]
    refine a_ixV (SqL.of ((s7.trans s8) _ _ efl)) (atI_natc (by rw [List.getElem?_map, efill p f1 f2]; rfl)) ⟨_, rfl, Same.refl _, ?_⟩
    exact .int _
  · rw [List.filter_eq_self.mpr fun _ _ => rfl] at hys
    have e2 : ((ps.map partD).map fun d => match d with
      | .tuple [_, .int m, .int z] => .int (z + nums.getD (m.toNat - 1) 0)
      | _ => PyData.none) = (ps.map (costAt nums)).map PyData.int := by
      rw [List.map_map, List.map_map]
      rfl
    rw [e2] at hys
    have e3 := DpAll.ints_inv hys
    subst e3
    refine ⟨D, _, rfl, SqL.of e8, by rw [List.length_map]; exact one1, fun m hm hmin => ?_⟩
    have em : m = costAt nums pk := by
      obtain ⟨p, hp, e⟩ := List.mem_map.mp hm
      have h1 := pmin p hp
      have h2 := hmin _ (List.mem_map.mpr ⟨pk, pmem, rfl⟩)
      omega
    refine ⟨fl, _, at_, at_, rfl, rfl, (s7.trans s8) _ _ efl, ixN_at (by rw [List.length_map, List.length_append, List.length_replicate]; omega), ?_⟩
    refine yes _ _ _ ⟨_, _, _, _, _, rfl, fun b o e => ?_, upd_same.trans ?_⟩
    · rw [upd_ne fun z => by rw [z, nfl] at e; cases e]
      exact (s7.trans s8) _ _ (s1 _ _ e)
    · rw [eset, step1, em]
theorem ok_shows (T : Tx w K mg) (F_is_whole : Cal P w K mg base 1 "is_whole" (sp_is_whole K) []) (F_parts_at : Cal P w K mg base 1 "parts_at" (sp_parts_at K) []) : KMet P w K mg base 2 (He.ga K "Cover") "shows" (sp_Cover_shows K) ["self", "words", "joins", "one"] s_Cover_shows "Cover.shows" [("one", .int 3)] := by
  refine kmet_of T.c_Cover T.me_Cover_shows T.D_Cover_shows sc_Cover_shows (by walk_at "len") fun cdv A outer s H vs Q E hr h => ?_
  refine ⟨_, (pss_cons (ps_if (PW.pt (pw_or (pt_cmpR op_ne (pe_callB (r := rLenQ K) call_lenQ (by rfl) T.b_len (by decide +kernel) (pa_cons (pe_fldK (K := K) (pv 0) rfl) pa_nil)) (pe_op op_add (pe_callB (r := rLenQ K) call_lenQ (by rfl) T.b_len (by decide +kernel) (pa_cons (pv 1) pa_nil)) pe_int) (nomark _)) (pw_or1 (pt_not (pt_val (pe_callB (r := rAll K) (cr_all rfl) (by rfl) T.b_all (by decide +kernel) (pa_cons (pe_lc rfl sc_Cover_shows.nd (pi_listK (K := K) (pe_fldK (K := K) (pv 0) rfl)) (blkOk_by (own := [("number", 4)]) (N := ["self", "words", "joins", "one", "number", "at", "total", "part", "here", "row", "place", "count", "many", "cost"]) (sc := L2.defScope s_Cover_shows) (by decide +kernel)) (fun _ _ _ _ _ => (pg_m (pg_name (i := 4) sc_Cover_shows.nd rfl (by first | exact Or.inl rfl | exact Or.inr rfl)))) (fun _ _ _ _ _ => pts_nilM) (fun _ _ _ _ _ => (pe_m (pe_c F_is_whole hr (by decide) (by rfl) (pa_cons (pv 4) pa_nil))))) pa_nil))))))) (pss_one (ps_ret pe_bl)) pss_nil)
    (pss_cons (ps_asg (pe_tup (pa_cons pe_int (pa_cons pe_int pa_nil))) (pg_tupK (K := K) (n := 2) rfl (pgs_cons (pg_name (i := 5) sc_Cover_shows.nd rfl (by first | exact Or.inl rfl | exact Or.inr rfl)) (pgs_cons (pg_name (i := 6) sc_Cover_shows.nd rfl (by first | exact Or.inl rfl | exact Or.inr rfl)) pgs_nil))))
    (pss_cons (ps_for PassesOwn.never rfl (pi_listK (K := K) (pe_fldK (K := K) (pv 0) rfl)) (pg_name (i := 7) sc_Cover_shows.nd rfl (by first | exact Or.inl rfl | exact Or.inr rfl)) (pss_cons (ps_setLc (i := 8) rfl sc_Cover_shows.nd rfl rfl (sw_true rfl rfl rfl (by decide +kernel)) (pi_listK (K := K) (pe_c F_parts_at hr (by decide) (by rfl) (pa_cons (pv 1) (pa_cons (pv 2) (pa_cons (pv 3) (pa_cons (pv 5) pa_nil)))))) (blkOk_by (own := [("row", 9)]) (N := ["self", "words", "joins", "one", "number", "at", "total", "part", "here", "row", "place", "count", "many", "cost"]) (sc := L2.defScope s_Cover_shows) (by decide +kernel)) (fun _ _ _ _ _ => (pg_m (pg_name (i := 9) sc_Cover_shows.nd rfl (by first | exact Or.inl rfl | exact Or.inr rfl)))) (fun _ _ _ _ _ => (pts_one (pt_m (pt_cmpR op_eq (pe_ix (r := rIx K) ix_seq (pv 9) pe_int (fun _ _ => rfl)) (pv 7) (nomark _))))) (fun _ _ _ _ _ => (pe_m (pv 9))))
    (pss_cons (ps_if (PW.pt (pw_or (pt_cmpR (r := rEqD K) (op_eqD hr.units) (pv 8) (pe_lst pa_nil) (nomark _)) (pw_or1 (PW.pt (pw_and (pt_cmpR op_notN (pv 7) pe_non (nomark _)) (pw_and1 (pt_not (pt_val (pe_c F_is_whole hr (by decide) (by rfl) (pa_cons (pv 7) pa_nil)))))))))) (pss_one (ps_ret pe_bl)) pss_nil)
    (pss_cons (ps_aug (i := 5) sc_Cover_shows.nd rfl (by first | exact Or.inl rfl | exact Or.inr rfl) (pe_ix (r := rIx K) ix_seq (pe_ix (r := rIx K) ix_seq (pv 8) pe_int (fun _ _ => rfl)) pe_int (fun _ _ => rfl)) ip_add)
    (pss_one (ps_aug (i := 6) sc_Cover_shows.nd rfl (by first | exact Or.inl rfl | exact Or.inr rfl) (pe_ix (r := rIx K) ix_seq (pe_ix (r := rIx K) ix_seq (pv 8) pe_int (fun _ _ => rfl)) pe_int (fun _ _ => rfl)) ip_add))))))
    (pss_cons (ps_if (PW.pt (pw_or (pt_cmpR op_ne (pv 5) (pe_callB (r := rLenQ K) call_lenQ (by rfl) T.b_len (by decide +kernel) (pa_cons (pv 1) pa_nil)) (nomark _)) (pw_or (pt_cmpR op_ne (pe_ix (r := rIx K) ix_seq (pe_fldK (K := K) (pv 0) rfl) (pe_un un_neg pe_int) (fun _ _ => rfl)) pe_int (nomark _)) (pw_or1 (pt_cmpR op_ne (pe_ix (r := rIx K) ix_seq (pe_fldK (K := K) (pv 0) rfl) pe_int (fun _ _ => rfl)) (pv 6) (nomark _)))))) (pss_one (ps_ret pe_bl)) pss_nil)
    (pss_cons (ps_for PassesOwn.never rfl (pi_range1 (by rfl) T.b_range (pa_cons (pe_callB (r := rLenQ K) call_lenQ (by rfl) T.b_len (by decide +kernel) (pa_cons (pv 1) pa_nil)) pa_nil)) (pg_name (i := 10) sc_Cover_shows.nd rfl (by first | exact Or.inl rfl | exact Or.inr rfl)) (pss_one (ps_for PassesOwn.never rfl (pi_listK (K := K) (pe_c F_parts_at hr (by decide) (by rfl) (pa_cons (pv 1) (pa_cons (pv 2) (pa_cons (pv 3) (pa_cons (pv 10) pa_nil)))))) (pg_tupK (K := K) (n := 3) rfl (pgs_cons (pg_name (i := 11) sc_Cover_shows.nd rfl (by first | exact Or.inl rfl | exact Or.inr rfl)) (pgs_cons (pg_name (i := 12) sc_Cover_shows.nd rfl (by first | exact Or.inl rfl | exact Or.inr rfl)) (pgs_cons (pg_name (i := 13) sc_Cover_shows.nd rfl (by first | exact Or.inl rfl | exact Or.inr rfl)) pgs_nil)))) (pss_one (ps_if (pt_cmpR op_gt (pe_ix (r := rIx K) ix_seq (pe_fldK (K := K) (pv 0) rfl) (pv 10) (fun _ _ => rfl)) (pe_op op_add (pv 13) (pe_ix (r := rIx K) ix_seq (pe_fldK (K := K) (pv 0) rfl) (pe_op op_add (pv 10) (pv 12)) (fun _ _ => rfl))) (nomark _)) (pss_one (ps_ret pe_bl)) pss_nil)))))
    (pss_one (ps_ret pe_bl))))))), ?_⟩
  obtain ⟨ms, p, v, u, ws, js, one, parts, nums, rfl, ⟨dx, pl, nl, ap, apl, anl⟩, tk, hv, hu, ok, lp, ln, k⟩ := h
  have big : ∀ n : Nat, n ≤ 1000000 → n ≤ sizeLine := fun n h => by rw [sizeLine_eq]; omega
  have hv0 := Dp.mono same_show hv
  have hw := ok.words.hi
  have hlen : ∀ {A : Hp} {R : VK}, Same H A → R (.int (ws.length : Nat)) A → rLenQ K [v] A R := fun {A R} s q => a_lenL (Dp.mono s hv0) (by rw [List.length_map]; exact q)
  have hnum : ∀ {A : Hp} {R : VK}, Same H A → R (.int (nums.length : Nat)) A → rLenQ K [.ref nl] A R := fun {A R} s q => a_lenL (K := K) (ds := nums.map PyData.int) (.lst (SqL.of (s _ _ anl)) (DpAll.ints _)) (by rw [List.length_map]; exact q)
  refine seq_mid (fun σ A => ∃ o4, σ = [some (.ref p), some v, some u, some (.int one), o4, none, none, none, none, none, none, none, none, none] ∧ Same H A ∧ nums.length = ws.length + 1) (fun Kx yes => ?_) ?_
  · walk_at "rd"
    refine ⟨_, _, _, ap, T.c_Cover, T.n_Cover_numbers, _, rfl, hnum (Same.refl _) (hlen (Same.refl _) ⟨_, rfl, ?_⟩)⟩
    refine ⟨rfl, ?_⟩
    rcases Decidable.em (nums.length = ws.length + 1) with e | e
    · rw [if_neg (by simp; omega)]
      refine a_lc ?_
      walk_at "rd"
      refine ⟨_, _, _, ap, T.c_Cover, T.n_Cover_numbers, _, rfl, nl, rfl, ⟨_, SqL.of anl⟩, fun D nD => ?_⟩
      refine lc_data (K := K) (ds := nums.map PyData.int) (ms := []) walk_list nD Tk.nil (by rw [List.length_map, sizeLine_eq]; omega) (DpAll.ints _) (fun H8 s8 => SqL.of (s8 _ _ anl)) (fun _ => true) (fun _ => .bool true) (fun y d H8 hd8 s8 hD8 hy => ?_) (fun H8 ys s8 e8 hys => ?_)
      · obtain ⟨m, hm, rfl⟩ := List.mem_map.mp hd8
        walk_at "rd"
        exact ⟨fun z => z.elim, fun _ => ⟨[], _, .int m, rfl, Tk.nil, by rw [hide_nil]; exact Dp.mono same_show hy, fun H9 s9 => ⟨s9, .bl true⟩⟩⟩
      · rw [List.filter_eq_self.mpr fun _ _ => rfl] at hys
        have eb : (nums.map PyData.int).map (fun _ => PyData.bool true) = (nums.map fun _ => true).map PyData.bool := by rw [List.map_map, List.map_map]; rfl
        rw [eb] at hys
        refine a_all (bs := nums.map fun _ => true) (.lst (SqL.of e8) (DpAll.mono same_show hys)) ?_
        rw [show (nums.map fun _ => true).all id = true by simp]
        refine ⟨_, rfl, ?_⟩
        rw [if_neg (by decide)]
        exact yes _ _ ⟨_, rfl, s8, e⟩
    · rw [if_pos (by simp; omega)]
      have := k H (Same.refl _)
      rw [dueB_len e] at this
      exact this
  rintro σ A ⟨o4, rfl, s1, elen⟩
  have jl : ∀ j ∈ js, 1 ≤ j.1.length := fun j hj => by have := (ok.joins j hj).row.lo; omega
  refine seq_mid (fun σ A => σ = [some (.ref p), some v, some u, some (.int one), o4, some (.int 0), some (.int 0), none, none, none, none, none, none, none] ∧ Same H A) (fun Kx yes => ?_) ?_
  · walk_at "rd"
    refine ⟨big _ (by decide), fun tp ntp => ?_⟩
    exact a_t2V (.inl (.inl upd_same)) (yes _ _ ⟨rfl, s1.trans (same_new ntp)⟩)
  clear s1 A
  rintro σ A ⟨rfl, s1⟩
  have few := ok.few
  refine seq_mid (fun σ A => ∃ o7 o8 o9, ∃ a : Nat, ∃ t : Int, σ = [some (.ref p), some v, some u, some (.int one), o4, some (.int (a : Nat)), some (.int t), o7, o8, o9, none, none, none, none] ∧ Same H A ∧ dueWalk ws js one parts 0 0 = some (a, t) ∧ a ≤ ws.length) (fun Kx yes => ?_) ?_
  · refine a_for ?_
    walk_at "rd"
    refine ⟨_, _, _, s1 _ _ ap, T.c_Cover, T.n_Cover_parts, _, rfl, pl, rfl, ⟨_, SqL.of (s1 _ _ apl)⟩, ?_⟩
    refine for_go2 walk_list (fun i σ A => ∃ o7 o8 o9, ∃ a : Nat, ∃ t : Int, σ = [some (.ref p), some v, some u, some (.int one), o4, some (.int (a : Nat)), some (.int t), o7, o8, o9, none, none, none, none] ∧ Same H A ∧ dueWalk ws js one parts 0 0 = dueWalk ws js one (parts.drop i) a t ∧ a ≤ ws.length) ⟨_, _, _, 0, 0, rfl, s1, rfl, Nat.zero_le _⟩ (fun i σ A _ z => by
      obtain ⟨_, _, _, _, _, _, z, _⟩ := z
      exact SqL.of (z _ _ apl)) ?_ (fun σ A z => by
      obtain ⟨o7, o8, o9, a, t, rfl, z1, z2, z3⟩ := z
      rw [List.length_map, List.drop_length, dueWalk] at z2
      exact yes _ _ ⟨_, _, _, a, t, rfl, z1, z2, z3⟩)
    clear s1 A
    rintro Pw yes1 i y σ A A' hi ⟨o7, o8, o9, a, t, rfl, s1, ed, ha⟩ ⟨e0, ey⟩
    subst e0
    rw [List.length_map] at hi
    have ec : parts[i]? = some parts[i] := List.getElem?_eq_getElem hi
    rw [List.getElem?_map, ec] at ey
    rw [List.drop_eq_getElem_cons hi, dueWalk] at ed
    generalize parts[i] = c at *
    obtain rfl : y = countV c := by cases ey; rfl
    refine g_name ?_
    dsimp only
    have hvA := Dp.mono (Same.hide s1 ms) hv
    have huA := Dp.mono (Same.hide s1 ms) hu
    have plen := parts_len (ws := ws) (js := js) (one := one) (a := a)
    have ef : findP ws js one a c = ((partsAt ws js one a).filter fun p => decide (p.1 = c)).head? := rfl
    have fit : ∀ q ∈ partsAt ws js one a, a < ws.length → 1 ≤ q.2.1 ∧ a + q.2.1 ≤ ws.length := fun q hq h => parts_fit (one := one) h jl q hq
    have out : ws.length ≤ a → partsAt ws js one a = [] := parts_out ok.joins
    refine seq_mid (fun σ A2 => ∃ D o9, σ = [some (.ref p), some v, some u, some (.int one), o4, some (.int (a : Nat)), some (.int t), some (countV c), some (.ref D), o9, none, none, none, none] ∧ Same A' A2 ∧ Dp K A2 (.ref D) (.list (((partsAt ws js one a).filter fun p => decide (p.1 = c)).map partD))) (fun Kx2 yes2 => ?_) ?_
    · walk_at "rd"
      refine a_lc ?_
      walk_at "rd"
      refine ⟨ms, _, _, ws, js, one, a, rfl, tk.same s1, hvA, huA, by omega, by omega, fun j hj => Nat.le_trans (ok.joins j hj).row.hi (by decide), by omega, ok.words.all, fun j hj => (ok.joins j hj).row.all, fun H7 q s7 nq hq => ?_⟩
      obtain ⟨q', qx, eq', hql, hqa⟩ := dp_list hq
      cases eq'
      refine ⟨q, rfl, ⟨qx, sqL_same same_show hql⟩, fun D nD => ?_⟩
      refine lc_data (K := K) (ds := (partsAt ws js one a).map partD) (ms := ms) (walk_list (xs := qx)) nD ((tk.same s1).same s7) (by rw [List.length_map, sizeLine_eq]; omega) hqa (fun H8 s8 => sqL_same (same_show.trans s8) hql) (rowB c) (fun d => d) (fun y d H8 hd8 s8 hD8 hy => ?_) (fun H8 ys s8 e8 hys => ?_)
      · obtain ⟨r, hr, rfl⟩ := List.mem_map.mp hd8
        walk_at "rd"
        refine a_ixTh hy atI_0 fun x hx => ?_
        cases countV_dp hx
        refine ⟨scal_count, ?_, fun _ => Same.refl _, fun _ => ⟨Same.refl _, hy⟩⟩
        rw [countV_eq]
        exact cntB_of.symm
      · rw [rows_filter, List.map_id'] at hys
        exact yes2 _ _ ⟨D, _, rfl, s7.trans s8, .lst (SqL.of e8) (DpAll.mono same_show hys)⟩
    rintro σ A2 ⟨D, o9', rfl, s2, hD⟩
    generalize ((partsAt ws js one a).filter fun p => decide (p.1 = c)) = found at *
    walk_at "rd"
    refine ⟨big _ (by decide), fun p2 np2 => ?_⟩
    have s3 := same_new (o := HO.lst []) np2
    refine a_eqD (Dp.mono s3 hD) (.lst (SqL.of upd_same) .nil) parts_shaped rfl ⟨_, rfl, ?_⟩
    rw [eqv_nilP]
    have hD3 := Dp.mono s3 hD
    have s13 := s1.trans (s2.trans s3)
    generalize upd A2 p2 (HO.lst []) = A3 at *
    cases found with
    | nil =>
      refine iteT' (by decide) ?_
      have := k A3 s13
      unfold dueB at this
      rw [ed, ef] at this
      exact this
    | cons r rs =>
      refine iteF' (by simp) ?_
      have ef2 : findP ws js one a c = some r := ef
      obtain ⟨rm, rc⟩ := findP_mem ef2
      have hal : a < ws.length := by
        rcases Nat.lt_or_ge a ws.length with h | h
        · exact h
        · rw [out h] at rm; cases rm
      obtain ⟨f1, f2⟩ := fit r rm hal
      obtain ⟨da, dxs, ea, hda, hdx⟩ := dp_list hD3
      cases ea
      rw [ef2] at ed
      obtain ⟨y0, ey0, hy0⟩ := DpAll.get (i := 0) (d := partD r) hdx rfl
      obtain ⟨tq, u1, u2, u3, rfl, htq, d1, d2, d3⟩ := dp_t3 hy0
      cases d2
      cases d3
      have it0 : ∀ {R : VK}, R (.ref tq) A3 → rIx K (.ref D) (.int 0) A3 R := fun q => a_ixV hda (atI_natc (i := 0) ey0) q
      have fin : ∀ B : Hp, Same A3 B → rIx K (.ref D) (.int 0) B fun x H1 => rIx K x (.int 1) H1 fun x H1 => ∃ i_1, x = V.int i_1 ∧ rIx K (.ref D) (.int 0) H1 fun x H1 => rIx K x (.int 2) H1 fun x H1 => ∃ i_2, x = V.int i_2 ∧ Pw (i + 1) [some (.ref p), some v, some u, some (.int one), o4, some (.int ((a : Nat) + i_1)), some (.int (t + i_2)), some (countV c), some (.ref D), o9', none, none, none, none] H1 := fun B sB => by
        refine a_ixV (sqL_same sB hda) (atI_natc (i := 0) ey0) (a_ixTV (sqT_same sB htq) atI_1 ⟨_, rfl, a_ixV (sqL_same sB hda) (atI_natc (i := 0) ey0) (a_ixTV (sqT_same sB htq) atI_2 ⟨_, rfl, ?_⟩)⟩)
        exact yes1 _ _ _ ⟨_, _, _, a + r.2.1, t + r.2.2, rfl, s13.trans sB, ed, f2⟩
      cases c with
      | none => exact iteF' (by decide) (fin A3 (Same.refl _))
      | some m =>
        refine iteT' rfl ⟨[], _, .int m, rfl, Tk.nil, .int _, fun B sB => ⟨_, rfl, ?_⟩⟩
        exact iteF' (by simp [isWhole]) (fin B sB)
  rintro σ A ⟨o7, o8, o9, a, t, rfl, s1, ed, ha⟩
  have eB : dueB ws js one parts nums = endB ws js one nums a t := by
    unfold dueB
    rw [ed]
  rw [eB] at k
  unfold endB at k
  rw [decide_eq_true elen, Bool.true_and] at k
  have nget : ∀ j, j ≤ ws.length → atI (nums.map V.int) (j : Int) = some (.int (nums.getD j 0)) := fun j hj => by
    refine atI_natc ?_
    rw [List.getElem?_map, List.getElem?_eq_getElem (by omega), List.getD_eq_getElem?_getD, List.getElem?_eq_getElem (by omega)]
    rfl
  have nlast : atI (nums.map V.int) (-1) = some (.int (nums.getD ws.length 0)) := by
    refine atI_m1 (by rw [List.length_map]; omega) ?_
    rw [List.length_map, show nums.length - 1 = ws.length by omega, List.getElem?_map, List.getElem?_eq_getElem (by omega), List.getD_eq_getElem?_getD, List.getElem?_eq_getElem (by omega)]
    rfl
  refine seq_mid (fun σ A => σ = [some (.ref p), some v, some u, some (.int one), o4, some (.int (a : Nat)), some (.int t), o7, o8, o9, none, none, none, none] ∧ Same H A ∧ ∀ H', Same H H' → Q (.bl ((List.range ws.length).all (lowB ws js one nums))) H') (fun Kx yes => ?_) ?_
  · walk_at "rd"
    refine hlen s1 ⟨rfl, ?_⟩
    rcases Decidable.em (a = ws.length) with e1 | e1
    · rw [decide_eq_true e1, Bool.true_and] at k
      refine iteF' (by simp [e1]) ⟨_, _, _, s1 _ _ ap, T.c_Cover, T.n_Cover_numbers, _, rfl, a_ixV (SqL.of (s1 _ _ anl)) nlast ⟨rfl, ?_⟩⟩
      rcases Decidable.em (nums.getD ws.length 0 = 0) with e2 | e2
      · rw [decide_eq_true e2, Bool.true_and] at k
        refine iteF' (by rw [e2]; decide) ⟨_, _, _, s1 _ _ ap, T.c_Cover, T.n_Cover_numbers, _, rfl, a_ixV (SqL.of (s1 _ _ anl)) (nget 0 (Nat.zero_le _)) ⟨rfl, ?_⟩⟩
        rcases Decidable.em (nums.getD 0 0 = t) with e3 | e3
        · rw [decide_eq_true e3, Bool.true_and] at k
          exact iteF' (by rw [e3]; simp) (yes _ _ ⟨rfl, s1, k⟩)
        · rw [decide_eq_false e3, Bool.false_and] at k
          exact iteT' (by simpa using e3) (k _ s1)
      · rw [decide_eq_false e2, Bool.false_and] at k
        exact iteT' (by simpa using e2) (k _ s1)
    · rw [decide_eq_false e1, Bool.false_and] at k
      exact iteT' (by simp; omega) (k _ s1)
  clear k eB ed s1 A
  rintro σ A ⟨rfl, s1, k⟩
  refine a_for ?_
  walk_at "rd"
  refine hlen s1 ⟨_, rfl, by omega, by omega, ?_⟩
  rw [Int.toNat_natCast]
  refine for_go2 walk_range (fun i σ A => ∃ o7 o8 o9 o10 o11 o12 o13, σ = [some (.ref p), some v, some u, some (.int one), o4, some (.int (a : Nat)), some (.int t), o7, o8, o9, o10, o11, o12, o13] ∧ Same H A ∧ ∀ j, j < i → lowB ws js one nums j = true) ⟨_, _, _, _, _, _, _, rfl, s1, fun j hj => absurd hj (Nat.not_lt_zero _)⟩ (fun _ _ _ _ _ => trivial) ?_ (fun σ A z => by
    obtain ⟨o7, o8, o9, o10, o11, o12, o13, rfl, z1, z2⟩ := z
    walk_at "rd"
    have e : (List.range ws.length).all (lowB ws js one nums) = true := List.all_eq_true.mpr fun j hj => z2 j (List.mem_range.mp hj)
    rw [e] at k
    exact k A z1)
  clear s1 A
  rintro Pw yes i y σ A A' hi ⟨o7, o8, o9, o10, o11, o12, o13, rfl, s1, low⟩ ⟨e0, ey⟩
  subst e0
  have hi2 : i < ws.length := hi
  have plen := parts_len (ws := ws) (js := js) (one := one) (a := i)
  have fit := parts_fit (one := one) hi2 jl
  have bad : lowB ws js one nums i = false → ∀ H', Same H H' → Q (.bl false) H' := fun z H' s => by
    have e : (List.range ws.length).all (lowB ws js one nums) = false := by
      rw [List.all_eq_false]
      exact ⟨i, List.mem_range.mpr hi2, by rw [z]; decide⟩
    rw [e] at k
    exact k H' s
  obtain rfl : y = V.int (0 + (i : Nat)) := ey
  rw [show (0 + (i : Nat) : Int) = ((i : Nat) : Int) by omega]
  refine g_name ?_
  refine a_for ?_
  walk_at "rd"
  refine ⟨ms, _, _, ws, js, one, i, rfl, tk.same s1, Dp.mono (Same.hide s1 ms) hv, Dp.mono (Same.hide s1 ms) hu, by omega, by omega, fun j hj => Nat.le_trans (ok.joins j hj).row.hi (by decide), by omega, ok.words.all, fun j hj => (ok.joins j hj).row.all, fun H7 q s7 nq hq => ?_⟩
  obtain ⟨q', qx, eq', hql, hqa⟩ := dp_list hq
  cases eq'
  have s17 := s1.trans s7
  have qlen := DpAll.length hqa
  rw [List.length_map] at qlen
  refine ⟨q, rfl, ⟨qx, sqL_same same_show hql⟩, ?_⟩
  refine for_go2 (walk_list (xs := qx)) (fun j σ A => ∃ o11 o12 o13, σ = [some (.ref p), some v, some u, some (.int one), o4, some (.int (a : Nat)), some (.int t), o7, o8, o9, some (.int (i : Nat)), o11, o12, o13] ∧ Same H7 A ∧ ∀ r ∈ (partsAt ws js one i).take j, nums.getD i 0 ≤ r.2.2 + nums.getD (i + r.2.1) 0) ⟨_, _, _, rfl, Same.refl _, fun r hr => by rw [List.take_zero] at hr; cases hr⟩ (fun j σ A _ z => by
    obtain ⟨_, _, _, _, z, _⟩ := z
    exact sqL_same (same_show.trans z) hql) ?_ (fun σ A z => by
    obtain ⟨o11, o12, o13, rfl, z1, z2⟩ := z
    refine yes _ _ _ ⟨_, _, _, _, _, _, _, rfl, s17.trans z1, fun j hj => ?_⟩
    rcases Nat.lt_or_ge j i with h | h
    · exact low j h
    · obtain rfl : j = i := by omega
      rw [qlen, List.take_length] at z2
      exact List.all_eq_true.mpr fun r hr => decide_eq_true (z2 r hr))
  rintro Pz yesz j z σ B B' hj ⟨p11, p12, p13, rfl, sB, lowj⟩ ⟨e0, ez⟩
  subst e0
  rw [qlen] at hj
  obtain ⟨d, ed, hd⟩ := DpAll.at hqa ez
  rw [List.getElem?_map, List.getElem?_eq_getElem hj] at ed
  cases ed
  have hrm := List.getElem_mem hj
  have htk : (partsAt ws js one i).take (j + 1) = (partsAt ws js one i).take j ++ [(partsAt ws js one i)[j]] := List.take_succ_eq_append_getElem hj
  generalize (partsAt ws js one i)[j] = r at *
  obtain ⟨f1, f2⟩ := fit r hrm
  obtain ⟨tq, u1, u2, u3, rfl, htq, d1, d2, d3⟩ := dp_t3 hd
  cases d2
  cases d3
  refine a_t3V (sqT_same (same_show.trans sB) htq) ?_
  walk_at "rd"
  have s1B := s17.trans sB
  refine ⟨_, _, _, s1B _ _ ap, T.c_Cover, T.n_Cover_numbers, _, rfl, a_ixV (SqL.of (s1B _ _ anl)) (nget i (by omega)) ?_⟩
  refine ⟨_, _, _, s1B _ _ ap, T.c_Cover, T.n_Cover_numbers, _, rfl, ?_⟩
  rw [show (i : Int) + ((r.2.1 : Nat) : Int) = ((i + r.2.1 : Nat) : Int) by omega]
  refine a_ixV (SqL.of (s1B _ _ anl)) (nget (i + r.2.1) f2) ?_
  refine ⟨_, rfl, _, rfl, ?_⟩
  rcases Decidable.em (r.2.2 + nums.getD (i + r.2.1) 0 < nums.getD i 0) with e | e
  · refine iteT' e (bad ?_ _ s1B)
    unfold lowB
    rw [List.all_eq_false]
    exact ⟨r, hrm, by rw [decide_eq_false (by omega)]; decide⟩
  · refine iteF' e (yesz _ _ _ ⟨_, _, _, rfl, sB, fun x hx => ?_⟩)
    rw [htk] at hx
    rcases List.mem_append.mp hx with h | h
    · exact lowj x h
    · rw [List.mem_singleton.mp h]
      omega
end
end Pb

/-! V5 -/
set_option Elab.async false
set_option linter.all false
set_option maxRecDepth 100000
set_option maxHeartbeats 4000000
namespace Pb
open PySem PySem.Spec PyProof.Rows L2
open C8 (Cal Mak Met pe_c pe_mk pe_mt pe_mt0 pe_gc fnScope_by)
/-! short words -/
local macro_rules | `(tactic| walk_at "rd") => `(tactic| try simp only [tVar, tC, tAdd, tSub, t2I, tIsN, tNotN, tB, tAnd, tOr, tNot, tAndV, tOrV, tNotV, tIf, tSeq, tPar, tPar3, tNext, tBreak, tCont, tDrop, tRet, tRetN, tIfS, gName, gNil, gCons, gTup, gSub, tAsg, tAug, ipI, iList, iTup, iRng1, iRng2, iStr, iEnum, iZip,
  tOp, tUn, rI, rI0, rU, tTest, tChain, tFld, sFld, sFldAug, L2.rAdd, L2.rSub, tNil, tCons, tTup, tLst, tCall, tMeth, tMake, tCB, tNoPart, tPart, tSl, tBM0, tBM, tDGet, tDGet1, tDGet2, tDIn, tDNotIn, sDPut, tDNewK, rEq, rNe, scal_ii, scal_ss, scal_bb, scal_nn, scal_ni, scal_in, scal_ns, scal_sn, scal_is, scal_si, List.take_succ_cons, List.take_zero, List.drop_succ_cons, List.drop_zero, upd_same, upd_upd, and_assoc, tKGet, gStar, tDisp, tPairs, tYes,
  L2.start, List.map_cons, List.map_nil, List.length_cons, List.length_nil, List.cons_append, List.nil_append, List.append_nil, List.replicate, Nat.sub_self, Nat.add_sub_cancel, Nat.reduceAdd, Nat.reduceSub, List.set_cons_zero, List.set_cons_succ, List.getElem?_cons_zero, List.getElem?_cons_succ,
  Option.some.injEq, V.int.injEq, V.bl.injEq, V.str.injEq, V.ref.injEq, exists_eq_left', exists_eq_left, exists_eq', exists_eq, true_and, and_true, if_true, if_false, Bool.false_eq_true, List.cons.injEq, Bool.not_true, Bool.not_false, cxK, cxP, cxW, ite_true, ite_false, wipe, reduceCtorEq, and_self, decide_true, decide_false, exists_and_left, exists_const, decide_eq_true_eq])
local macro_rules | `(tactic| walk_at "len") => `(tactic| (intro vs H Q E h; repeat (first | (obtain ⟨e, _⟩ := h; subst e; rfl) | (obtain ⟨_, h⟩ := h))))
local macro_rules | `(tactic| walk_at "wd") => `(tactic| simp (config := {decide := true}) only [V.str.injEq, scal_ss, true_and, if_true, if_false])

/-! whether a cover is as told, by the law's own look (k04) -/
def txtC : Option Nat → Str
  | none => "None"
  | some k => Str.ofString (toString ((k : Nat) : Int))
theorem txtC_eq {c e : Option Nat} (hc : ∀ k, c = some k → k ≤ 9) (he : ∀ k, e = some k → k ≤ 9) : decide (V.str (txtC e) = V.str (txtC c)) = decide (e = c) := by
  have inj : ∀ i j : _root_.Fin 10, Str.ofString (toString ((i.val : Nat) : Int)) = Str.ofString (toString ((j.val : Nat) : Int)) → i = j := by decide +kernel
  have non : ∀ i : _root_.Fin 10, ¬ Str.ofString (toString ((i.val : Nat) : Int)) = ("None" : Str) := by decide +kernel
  have e1 : (V.str (txtC e) = V.str (txtC c)) ↔ e = c := by
    constructor
    · intro z
      have z := V.str.inj z
      cases c with
      | none => cases e with
        | none => rfl
        | some k => exact absurd z (non ⟨k, by have := he k rfl; omega⟩)
      | some l => cases e with
        | none => exact absurd z.symm (non ⟨l, by have := hc l rfl; omega⟩)
        | some k =>
          have q := inj ⟨k, by have := he k rfl; omega⟩ ⟨l, by have := hc l rfl; omega⟩ z
          rw [Fin.mk.injEq] at q
          rw [q]
    · rintro rfl
      rfl
  exact decide_eq_decide.mpr e1
theorem a_strC {c : Option Nat} (hc : ∀ k, c = some k → k ≤ 9) {H : Hp} {R : VK} (q : R (.str (txtC c)) H) : rStrN [countV c] H R := by
  cases c with
  | none => exact .inr ⟨rfl, q⟩
  | some k =>
    have h : ∀ i : _root_.Fin 10, ((i.val : Nat) : Int).natAbs.log2 < 1920 := by decide
    have hk := hc k rfl
    exact .inl ⟨k, rfl, h ⟨k, by omega⟩, q⟩
section
variable {P : Program} {w : World} {K : PySem.W.Frag} {mg : Str → Option Value} {base : Heap}
theorem ok_due (T : Tx w K mg) (F__law_parts : Cal P w K mg base 1 "_law_parts" (sp__law_parts K) []) : GCal P w K mg base 2 "_law_due" (sp__law_due K) := by
  refine gcal_of T.D__law_due T.g__law_due sc__law_due (fun _ _ _ _ _ _ us hl => match us, hl with | [_, _, _, _], _ => rfl) (by walk_at "len") fun cdv A outer s H vs Q E hs hr h => ?_
  refine ⟨_, (pss_cons (ps_par3 (i := 4) (j := 5) (l := 6) rfl sc__law_due.nd rfl rfl rfl (by decide) (by decide) (by decide) rfl rfl rfl (pa_cons pe_int (pa_cons pe_int (pa_cons (pe_fldK (K := K) (pv 3) rfl) pa_nil))) rfl)
    (pss_cons (ps_for PassesOwn.never rfl (pi_listK (K := K) (pe_fldK (K := K) (pv 3) rfl)) (pg_name (i := 7) sc__law_due.nd rfl (by first | exact Or.inl rfl | exact Or.inr rfl)) (pss_cons (ps_setLc (i := 8) rfl sc__law_due.nd rfl rfl (sw_true rfl rfl rfl (by decide +kernel)) (pi_listK (K := K) (pe_c F__law_parts hr (by decide) (by rfl) (pa_cons (pv 0) (pa_cons (pv 1) (pa_cons (pv 2) (pa_cons (pv 4) pa_nil)))))) (blkOk_by (own := [("_law_row", 9)]) (N := ["_law_words", "_law_joins", "_law_price", "_law_found", "_law_at", "_law_total", "_law_numbers", "_law_part", "_law_some", "_law_row", "_law_place", "_law_count", "_law_many", "_law_cost"]) (sc := L2.defScope s__law_due) (by decide +kernel)) (fun _ _ _ _ _ => (pg_m (pg_name (i := 9) sc__law_due.nd rfl (by first | exact Or.inl rfl | exact Or.inr rfl)))) (fun _ _ _ _ _ => (pts_one (pt_m (pt_cmpR op_eq (pe_callTy call_strN (by rfl) T.b_str (by decide +kernel) (pa_cons (pe_ix (r := rIx K) ix_seq (pv 9) pe_int (fun _ _ => rfl)) pa_nil)) (pe_callTy call_strN (by rfl) T.b_str (by decide +kernel) (pa_cons (pv 7) pa_nil)) (nomark _))))) (fun _ _ _ _ _ => (pe_m (pv 9))))
    (pss_cons (ps_if (PW.pt (pw_or (pt_cmpR (r := rEqD K) (op_eqD hr.units) (pv 8) (pe_lst pa_nil) (nomark _)) (pw_or1 (pt_cmpR op_ge (pv 4) (pe_callB (r := rLenQ K) call_lenQ (by rfl) T.b_len (by decide +kernel) (pa_cons (pv 0) pa_nil)) (nomark _))))) (pss_one (ps_ret pe_bl)) pss_nil)
    (pss_one (ps_par (i := 4) (j := 5) rfl sc__law_due.nd rfl rfl (by decide) rfl rfl (pa_cons (pe_op op_add (pv 4) (pe_ix (r := rIx K) ix_seq (pe_ix (r := rIx K) ix_seq (pv 8) pe_int (fun _ _ => rfl)) pe_int (fun _ _ => rfl))) (pa_cons (pe_op op_add (pv 5) (pe_ix (r := rIx K) ix_seq (pe_ix (r := rIx K) ix_seq (pv 8) pe_int (fun _ _ => rfl)) pe_int (fun _ _ => rfl))) pa_nil)) rfl)))))
    (pss_cons (ps_if (PW.pt (pw_or (pt_cmpR op_ne (pv 4) (pe_callB (r := rLenQ K) call_lenQ (by rfl) T.b_len (by decide +kernel) (pa_cons (pv 0) pa_nil)) (nomark _)) (pw_or (pt_cmpR op_ne (pe_callB (r := rLenQ K) call_lenQ (by rfl) T.b_len (by decide +kernel) (pa_cons (pv 6) pa_nil)) (pe_op op_add (pe_callB (r := rLenQ K) call_lenQ (by rfl) T.b_len (by decide +kernel) (pa_cons (pv 0) pa_nil)) pe_int) (nomark _)) (pw_or (pt_cmpR op_ne (pe_ix (r := rIx K) ix_seq (pv 6) (pe_un un_neg pe_int) (fun _ _ => rfl)) pe_int (nomark _)) (pw_or1 (pt_cmpR op_ne (pe_ix (r := rIx K) ix_seq (pv 6) pe_int (fun _ _ => rfl)) (pv 5) (nomark _))))))) (pss_one (ps_ret pe_bl)) pss_nil)
    (pss_cons (ps_for PassesOwn.never rfl (pi_range1 (by rfl) T.b_range (pa_cons (pe_callB (r := rLenQ K) call_lenQ (by rfl) T.b_len (by decide +kernel) (pa_cons (pv 0) pa_nil)) pa_nil)) (pg_name (i := 10) sc__law_due.nd rfl (by first | exact Or.inl rfl | exact Or.inr rfl)) (pss_one (ps_for PassesOwn.never rfl (pi_listK (K := K) (pe_c F__law_parts hr (by decide) (by rfl) (pa_cons (pv 0) (pa_cons (pv 1) (pa_cons (pv 2) (pa_cons (pv 10) pa_nil)))))) (pg_tupK (K := K) (n := 3) rfl (pgs_cons (pg_name (i := 11) sc__law_due.nd rfl (by first | exact Or.inl rfl | exact Or.inr rfl)) (pgs_cons (pg_name (i := 12) sc__law_due.nd rfl (by first | exact Or.inl rfl | exact Or.inr rfl)) (pgs_cons (pg_name (i := 13) sc__law_due.nd rfl (by first | exact Or.inl rfl | exact Or.inr rfl)) pgs_nil)))) (pss_one (ps_if (pt_cmpR op_gt (pe_ix (r := rIx K) ix_seq (pv 6) (pv 10) (fun _ _ => rfl)) (pe_op op_add (pv 13) (pe_ix (r := rIx K) ix_seq (pv 6) (pe_op op_add (pv 10) (pv 12)) (fun _ _ => rfl))) (nomark _)) (pss_one (ps_ret pe_bl)) pss_nil)))))
    (pss_one (ps_ret pe_bl)))))), ?_⟩
  obtain ⟨ms, p, v, u, ws, js, one, parts, nums, rfl, ⟨dx, pl, nl, ap, apl, anl⟩, tk, hv, hu, ok, lp, ln, lk, k⟩ := h
  have big : ∀ n : Nat, n ≤ 1000000 → n ≤ sizeLine := fun n h => by rw [sizeLine_eq]; omega
  have hv0 := Dp.mono same_show hv
  have hw := ok.words.hi
  have hlen : ∀ {A : Hp} {R : VK}, Same H A → R (.int (ws.length : Nat)) A → rLenQ K [v] A R := fun {A R} s q => a_lenL (Dp.mono s hv0) (by rw [List.length_map]; exact q)
  have hnum : ∀ {A : Hp} {R : VK}, Same H A → R (.int (nums.length : Nat)) A → rLenQ K [.ref nl] A R := fun {A R} s q => a_lenL (K := K) (ds := nums.map PyData.int) (.lst (SqL.of (s _ _ anl)) (DpAll.ints _)) (by rw [List.length_map]; exact q)
  have s1 : Same H H := Same.refl _
  have jl : ∀ j ∈ js, 1 ≤ j.1.length := fun j hj => by have := (ok.joins j hj).row.lo; omega
  refine seq_mid (fun σ A => σ = [some v, some u, some (.int one), some (.ref p), some (.int 0), some (.int 0), some (.ref nl), none, none, none, none, none, none, none] ∧ Same H A) (fun Kx yes => ?_) ?_
  · walk_at "rd"
    exact ⟨_, _, _, ap, T.c_Cover, T.n_Cover_numbers, _, rfl, yes _ _ ⟨rfl, Same.refl _⟩⟩
  rintro σ A ⟨rfl, s1⟩
  have few := ok.few
  refine seq_mid (fun σ A => ∃ o7 o8 o9, ∃ a : Nat, ∃ t : Int, σ = [some v, some u, some (.int one), some (.ref p), some (.int (a : Nat)), some (.int t), some (.ref nl), o7, o8, o9, none, none, none, none] ∧ Same H A ∧ dueWalk ws js one parts 0 0 = some (a, t) ∧ a ≤ ws.length) (fun Kx yes => ?_) ?_
  · refine a_for ?_
    walk_at "rd"
    refine ⟨_, _, _, s1 _ _ ap, T.c_Cover, T.n_Cover_parts, _, rfl, pl, rfl, ⟨_, SqL.of (s1 _ _ apl)⟩, ?_⟩
    refine for_go2 walk_list (fun i σ A => ∃ o7 o8 o9, ∃ a : Nat, ∃ t : Int, σ = [some v, some u, some (.int one), some (.ref p), some (.int (a : Nat)), some (.int t), some (.ref nl), o7, o8, o9, none, none, none, none] ∧ Same H A ∧ dueWalk ws js one parts 0 0 = dueWalk ws js one (parts.drop i) a t ∧ a ≤ ws.length) ⟨_, _, _, 0, 0, rfl, s1, rfl, Nat.zero_le _⟩ (fun i σ A _ z => by
      obtain ⟨_, _, _, _, _, _, z, _⟩ := z
      exact SqL.of (z _ _ apl)) ?_ (fun σ A z => by
      obtain ⟨o7, o8, o9, a, t, rfl, z1, z2, z3⟩ := z
      rw [List.length_map, List.drop_length, dueWalk] at z2
      exact yes _ _ ⟨_, _, _, a, t, rfl, z1, z2, z3⟩)
    clear s1 A
    rintro Pw yes1 i y σ A A' hi ⟨o7, o8, o9, a, t, rfl, s1, ed, ha⟩ ⟨e0, ey⟩
    subst e0
    rw [List.length_map] at hi
    have ec : parts[i]? = some parts[i] := List.getElem?_eq_getElem hi
    rw [List.getElem?_map, ec] at ey
    rw [List.drop_eq_getElem_cons hi, dueWalk] at ed
    generalize parts[i] = c at *
    obtain rfl : y = countV c := by cases ey; rfl
    have hcs : ∀ k, c = some k → k ≤ 9 := fun k e => lk k (by rw [← e]; exact List.mem_of_getElem? ec)
    have hrow : ∀ r ∈ partsL ws js one a, ∀ k, r.1 = some k → k ≤ 9 := fun r hr k e => by
      rcases List.mem_cons.mp hr with h | h
      · rw [h] at e; cases e
      · obtain ⟨cc, m, z⟩ := r
        obtain ⟨k2, j, e1, e2, _⟩ := joins_all h
        replace e : cc = some k := e
        rw [e] at e1
        have := (List.getElem?_eq_some_iff.mp e2).1
        cases e1
        omega
    refine g_name ?_
    dsimp only
    have hvA := Dp.mono (Same.hide s1 ms) hv
    have huA := Dp.mono (Same.hide s1 ms) hu
    have plen : (partsL ws js one a).length ≤ js.length + 1 := by have := joins_len (ws := ws) (a := a) (js := js) (i := 0); unfold partsL; rw [List.length_cons]; omega
    have ef : findP ws js one a c = ((partsAt ws js one a).filter fun p => decide (p.1 = c)).head? := rfl
    have fit : ∀ q ∈ partsAt ws js one a, a < ws.length → 1 ≤ q.2.1 ∧ a + q.2.1 ≤ ws.length := fun q hq h => parts_fit (one := one) h jl q hq
    have out : ws.length ≤ a → partsAt ws js one a = [] := parts_out ok.joins
    refine seq_mid (fun σ A2 => ∃ D o9, σ = [some v, some u, some (.int one), some (.ref p), some (.int (a : Nat)), some (.int t), some (.ref nl), some (countV c), some (.ref D), o9, none, none, none, none] ∧ Same A' A2 ∧ Dp K A2 (.ref D) (.list (((partsL ws js one a).filter fun p => decide (p.1 = c)).map partD))) (fun Kx2 yes2 => ?_) ?_
    · walk_at "rd"
      refine a_lc ?_
      walk_at "rd"
      refine ⟨ms, _, _, ws, js, one, a, rfl, tk.same s1, hvA, huA, by omega, by omega, fun j hj => Nat.le_trans (ok.joins j hj).row.hi (by decide), by omega, ok.words.all, fun j hj => (ok.joins j hj).row.all, fun H7 q s7 nq hq => ?_⟩
      obtain ⟨q', qx, eq', hql, hqa⟩ := dp_list hq
      cases eq'
      refine ⟨q, rfl, ⟨qx, sqL_same same_show hql⟩, fun D nD => ?_⟩
      refine lc_data (K := K) (ds := (partsL ws js one a).map partD) (ms := ms) (walk_list (xs := qx)) nD ((tk.same s1).same s7) (by rw [List.length_map, sizeLine_eq]; omega) hqa (fun H8 s8 => sqL_same (same_show.trans s8) hql) (rowB c) (fun d => d) (fun y d H8 hd8 s8 hD8 hy => ?_) (fun H8 ys s8 e8 hys => ?_)
      · obtain ⟨r, hr, rfl⟩ := List.mem_map.mp hd8
        walk_at "rd"
        refine a_ixTh hy atI_0 fun x hx => ?_
        cases countV_dp hx
        refine a_strC (hrow r hr) (a_strC hcs ⟨rfl, ?_, fun _ => Same.refl _, fun _ => ⟨Same.refl _, hy⟩⟩)
        rw [txtC_eq hcs (hrow r hr)]
        exact cntB_of.symm
      · rw [rows_filter, List.map_id'] at hys
        exact yes2 _ _ ⟨D, _, rfl, s7.trans s8, .lst (SqL.of e8) (DpAll.mono same_show hys)⟩
    rintro σ A2 ⟨D, o9', rfl, s2, hD⟩
    walk_at "rd"
    refine ⟨big _ (by decide), fun p2 np2 => ?_⟩
    have s3 := same_new (o := HO.lst []) np2
    refine a_eqD (Dp.mono s3 hD) (.lst (SqL.of upd_same) .nil) parts_shaped rfl ⟨_, rfl, ?_⟩
    rw [eqv_nilP]
    have hD3 := Dp.mono s3 hD
    have s13 := s1.trans (s2.trans s3)
    generalize upd A2 p2 (HO.lst []) = A3 at *
    rcases Nat.lt_or_ge a ws.length with hal | hge
    rotate_left
    · have kf : Q (.bl false) A3 := by
        have := k A3 s13
        unfold dueB at this
        rw [ed, ef, out hge] at this
        exact this
      split
      · exact kf
      · exact hlen s13 ⟨_, rfl, iteT' (by omega) kf⟩
    rw [partsL_in hal] at hD hD3 ⊢
    generalize ((partsAt ws js one a).filter fun p => decide (p.1 = c)) = found at *
    cases found with
    | nil =>
      refine iteT' (by decide) ?_
      have := k A3 s13
      unfold dueB at this
      rw [ed, ef] at this
      exact this
    | cons r rs =>
      refine iteF' (by simp) ?_
      have ef2 : findP ws js one a c = some r := ef
      obtain ⟨rm, rc⟩ := findP_mem ef2
      obtain ⟨f1, f2⟩ := fit r rm hal
      obtain ⟨da, dxs, ea, hda, hdx⟩ := dp_list hD3
      cases ea
      rw [ef2] at ed
      obtain ⟨y0, ey0, hy0⟩ := DpAll.get (i := 0) (d := partD r) hdx rfl
      obtain ⟨tq, u1, u2, u3, rfl, htq, d1, d2, d3⟩ := dp_t3 hy0
      cases d2
      cases d3
      have it0 : ∀ {R : VK}, R (.ref tq) A3 → rIx K (.ref D) (.int 0) A3 R := fun q => a_ixV hda (atI_natc (i := 0) ey0) q
      have fin : ∀ B : Hp, Same A3 B → rIx K (.ref D) (.int 0) B fun x H1 => rIx K x (.int 1) H1 fun x H1 => ∃ i_1, x = V.int i_1 ∧ rIx K (.ref D) (.int 0) H1 fun x H1 => rIx K x (.int 2) H1 fun x H1 => ∃ i_2, x = V.int i_2 ∧ Pw (i + 1) [some v, some u, some (.int one), some (.ref p), some (.int ((a : Nat) + i_1)), some (.int (t + i_2)), some (.ref nl), some (countV c), some (.ref D), o9', none, none, none, none] H1 := fun B sB => by
        refine a_ixV (sqL_same sB hda) (atI_natc (i := 0) ey0) (a_ixTV (sqT_same sB htq) atI_1 ⟨_, rfl, a_ixV (sqL_same sB hda) (atI_natc (i := 0) ey0) (a_ixTV (sqT_same sB htq) atI_2 ⟨_, rfl, ?_⟩)⟩)
        exact yes1 _ _ _ ⟨_, _, _, a + r.2.1, t + r.2.2, rfl, s13.trans sB, ed, f2⟩
      refine hlen s13 ⟨_, rfl, iteF' (by omega) ?_⟩
      exact fin A3 (Same.refl _)
  rintro σ A ⟨o7, o8, o9, a, t, rfl, s1, ed, ha⟩
  have eB : dueB ws js one parts nums = endB ws js one nums a t := by
    unfold dueB
    rw [ed]
  rw [eB] at k
  unfold endB at k
  have nget : nums.length = ws.length + 1 → ∀ j, j ≤ ws.length → atI (nums.map V.int) (j : Int) = some (.int (nums.getD j 0))   := fun elen j hj => by
    refine atI_natc ?_
    rw [List.getElem?_map, List.getElem?_eq_getElem (by omega), List.getD_eq_getElem?_getD, List.getElem?_eq_getElem (by omega)]
    rfl
  have nlast : nums.length = ws.length + 1 → atI (nums.map V.int) (-1) = some (.int (nums.getD ws.length 0)) := fun elen => by
    refine atI_m1 (by rw [List.length_map]; omega) ?_
    rw [List.length_map, show nums.length - 1 = ws.length by omega, List.getElem?_map, List.getElem?_eq_getElem (by omega), List.getD_eq_getElem?_getD, List.getElem?_eq_getElem (by omega)]
    rfl
  refine seq_mid (fun σ A => σ = [some v, some u, some (.int one), some (.ref p), some (.int (a : Nat)), some (.int t), some (.ref nl), o7, o8, o9, none, none, none, none] ∧ Same H A ∧ nums.length = ws.length + 1 ∧ ∀ H', Same H H' → Q (.bl ((List.range ws.length).all (lowB ws js one nums))) H') (fun Kx yes => ?_) ?_
  · walk_at "rd"
    refine hlen s1 ⟨rfl, ?_⟩
    rcases Decidable.em (a = ws.length) with e1 | e1
    · rw [decide_eq_true e1, Bool.true_and] at k
      refine iteF' (by simp [e1]) (hnum s1 (hlen s1 ⟨_, rfl, rfl, ?_⟩))
      rcases Decidable.em (nums.length = ws.length + 1) with e0 | e0
      · rw [decide_eq_true e0, Bool.true_and] at k
        refine iteF' (by simp [e0]) (a_ixV (SqL.of (s1 _ _ anl)) (nlast e0) ⟨rfl, ?_⟩)
        rcases Decidable.em (nums.getD ws.length 0 = 0) with e2 | e2
        · rw [decide_eq_true e2, Bool.true_and] at k
          refine iteF' (by rw [e2]; decide) (a_ixV (SqL.of (s1 _ _ anl)) (nget e0 0 (Nat.zero_le _)) ⟨rfl, ?_⟩)
          rcases Decidable.em (nums.getD 0 0 = t) with e3 | e3
          · rw [decide_eq_true e3, Bool.true_and] at k
            exact iteF' (by rw [e3]; simp) (yes _ _ ⟨rfl, s1, e0, k⟩)
          · rw [decide_eq_false e3, Bool.false_and] at k
            exact iteT' (by simpa using e3) (k _ s1)
        · rw [decide_eq_false e2, Bool.false_and] at k
          exact iteT' (by simpa using e2) (k _ s1)
      · rw [decide_eq_false e0, Bool.false_and] at k
        exact iteT' (by simp; omega) (k _ s1)
    · rw [decide_eq_false e1, Bool.false_and] at k
      exact iteT' (by simp; omega) (k _ s1)
  clear k eB ed s1 A
  rintro σ A ⟨rfl, s1, elen, k⟩
  refine a_for ?_
  walk_at "rd"
  refine hlen s1 ⟨_, rfl, by omega, by omega, ?_⟩
  rw [Int.toNat_natCast]
  refine for_go2 walk_range (fun i σ A => ∃ o7 o8 o9 o10 o11 o12 o13, σ = [some v, some u, some (.int one), some (.ref p), some (.int (a : Nat)), some (.int t), some (.ref nl), o7, o8, o9, o10, o11, o12, o13] ∧ Same H A ∧ ∀ j, j < i → lowB ws js one nums j = true) ⟨_, _, _, _, _, _, _, rfl, s1, fun j hj => absurd hj (Nat.not_lt_zero _)⟩ (fun _ _ _ _ _ => trivial) ?_ (fun σ A z => by
    obtain ⟨o7, o8, o9, o10, o11, o12, o13, rfl, z1, z2⟩ := z
    walk_at "rd"
    have e : (List.range ws.length).all (lowB ws js one nums) = true := List.all_eq_true.mpr fun j hj => z2 j (List.mem_range.mp hj)
    rw [e] at k
    exact k A z1)
  clear s1 A
  rintro Pw yes i y σ A A' hi ⟨o7, o8, o9, o10, o11, o12, o13, rfl, s1, low⟩ ⟨e0, ey⟩
  subst e0
  have hi2 : i < ws.length := hi
  have plen := parts_len (ws := ws) (js := js) (one := one) (a := i)
  have fit := parts_fit (one := one) hi2 jl
  have bad : lowB ws js one nums i = false → ∀ H', Same H H' → Q (.bl false) H' := fun z H' s => by
    have e : (List.range ws.length).all (lowB ws js one nums) = false := by
      rw [List.all_eq_false]
      exact ⟨i, List.mem_range.mpr hi2, by rw [z]; decide⟩
    rw [e] at k
    exact k H' s
  obtain rfl : y = V.int (0 + (i : Nat)) := ey
  rw [show (0 + (i : Nat) : Int) = ((i : Nat) : Int) by omega]
  refine g_name ?_
  refine a_for ?_
  walk_at "rd"
  refine ⟨ms, _, _, ws, js, one, i, rfl, tk.same s1, Dp.mono (Same.hide s1 ms) hv, Dp.mono (Same.hide s1 ms) hu, by omega, by omega, fun j hj => Nat.le_trans (ok.joins j hj).row.hi (by decide), by omega, ok.words.all, fun j hj => (ok.joins j hj).row.all, fun H7 q s7 nq hq => ?_⟩
  rw [partsL_in hi2] at hq
  obtain ⟨q', qx, eq', hql, hqa⟩ := dp_list hq
  cases eq'
  have s17 := s1.trans s7
  have qlen := DpAll.length hqa
  rw [List.length_map] at qlen
  refine ⟨q, rfl, ⟨qx, sqL_same same_show hql⟩, ?_⟩
  refine for_go2 (walk_list (xs := qx)) (fun j σ A => ∃ o11 o12 o13, σ = [some v, some u, some (.int one), some (.ref p), some (.int (a : Nat)), some (.int t), some (.ref nl), o7, o8, o9, some (.int (i : Nat)), o11, o12, o13] ∧ Same H7 A ∧ ∀ r ∈ (partsAt ws js one i).take j, nums.getD i 0 ≤ r.2.2 + nums.getD (i + r.2.1) 0) ⟨_, _, _, rfl, Same.refl _, fun r hr => by rw [List.take_zero] at hr; cases hr⟩ (fun j σ A _ z => by
    obtain ⟨_, _, _, _, z, _⟩ := z
    exact sqL_same (same_show.trans z) hql) ?_ (fun σ A z => by
    obtain ⟨o11, o12, o13, rfl, z1, z2⟩ := z
    refine yes _ _ _ ⟨_, _, _, _, _, _, _, rfl, s17.trans z1, fun j hj => ?_⟩
    rcases Nat.lt_or_ge j i with h | h
    · exact low j h
    · obtain rfl : j = i := by omega
      rw [qlen, List.take_length] at z2
      exact List.all_eq_true.mpr fun r hr => decide_eq_true (z2 r hr))
  rintro Pz yesz j z σ B B' hj ⟨p11, p12, p13, rfl, sB, lowj⟩ ⟨e0, ez⟩
  subst e0
  rw [qlen] at hj
  obtain ⟨d, ed, hd⟩ := DpAll.at hqa ez
  rw [List.getElem?_map, List.getElem?_eq_getElem hj] at ed
  cases ed
  have hrm := List.getElem_mem hj
  have htk : (partsAt ws js one i).take (j + 1) = (partsAt ws js one i).take j ++ [(partsAt ws js one i)[j]] := List.take_succ_eq_append_getElem hj
  generalize (partsAt ws js one i)[j] = r at *
  obtain ⟨f1, f2⟩ := fit r hrm
  obtain ⟨tq, u1, u2, u3, rfl, htq, d1, d2, d3⟩ := dp_t3 hd
  cases d2
  cases d3
  refine a_t3V (sqT_same (same_show.trans sB) htq) ?_
  walk_at "rd"
  have s1B := s17.trans sB
  refine a_ixV (SqL.of (s1B _ _ anl)) (nget elen i (by omega)) ?_
  rw [show (i : Int) + ((r.2.1 : Nat) : Int) = ((i + r.2.1 : Nat) : Int) by omega]
  refine a_ixV (SqL.of (s1B _ _ anl)) (nget elen (i + r.2.1) f2) ?_
  refine ⟨_, rfl, _, rfl, ?_⟩
  rcases Decidable.em (r.2.2 + nums.getD (i + r.2.1) 0 < nums.getD i 0) with e | e
  · refine iteT' e (bad ?_ _ s1B)
    unfold lowB
    rw [List.all_eq_false]
    exact ⟨r, hrm, by rw [decide_eq_false (by omega)]; decide⟩
  · refine iteF' e (yesz _ _ _ ⟨_, _, _, rfl, sB, fun x hx => ?_⟩)
    rw [htk] at hx
    rcases List.mem_append.mp hx with h | h
    · exact lowj x h
    · rw [List.mem_singleton.mp h]
      omega
end
end Pb

/-! PbShow -/
set_option Elab.async false
set_option linter.all false
set_option maxRecDepth 100000
set_option maxHeartbeats 4000000
/-! Pb: how long a shown datum is -/
namespace Pb
open PySem PySem.Spec PyProof.Rows L2
def Sho (n : Nat) (d : PyData) : Prop := d.showable = true ∧ d.shown.length ≤ n
theorem Sho.mono {n m : Nat} {d : PyData} (h : Sho n d) (e : n ≤ m) : Sho m d := ⟨h.1, Nat.le_trans h.2 e⟩
theorem sho_int {i : Int} (h0 : -(10 ^ 10) < i) (h1 : i < 10 ^ 10) : Sho 11 (.int i) := by
  have big : i.natAbs < 2 ^ 1920 := by
    have : (10 : Nat) ^ 10 ≤ 2 ^ 1920 := by decide +kernel
    omega
  refine ⟨?_, ?_⟩
  · show decide (i.natAbs.log2 < 1920) = true
    refine decide_eq_true ?_
    by_cases z : i.natAbs = 0
    · rw [z]; decide
    · exact (Nat.log2_lt z).mpr big
  · show (Str.ofString (toString i)).length ≤ 11
    by_cases hn : i < 0
    · rw [len_text_neg hn]
      have := toString_length_le (v := 0 - i) (by omega) (k := 10) (by decide) (by omega)
      omega
    · have := toString_length_le (v := i) (by omega) (k := 10) (by decide) h1
      omega
theorem sho_none : Sho 4 .none := ⟨rfl, by decide +kernel⟩
theorem sho_bool {b : Bool} : Sho 5 (.bool b) := by cases b <;> exact ⟨rfl, by decide +kernel⟩
theorem sho_str {x : Str} (h : PyData.strOk x = true) {n : Nat} (hn : x.length ≤ n) : Sho (10 * n + 2) (.str x) := by
  refine ⟨rfl, ?_⟩
  have q : ∀ c ∈ x.cps.toList, c < 16 ^ 8 := fun c hc => by
    unfold PyData.strOk at h
    rw [← Array.all_toList, List.all_eq_true] at h
    have := of_decide_eq_true (h c hc)
    omega
  have := StrLaws.reprText_len x q
  show (reprText x).length ≤ _
  omega
theorem sho_allS {n : Nat} : ∀ {ds : List PyData}, (∀ d ∈ ds, Sho n d) → PyData.showableAll ds = true
  | [], _ => rfl
  | d :: ds, h => by
    have h1 := h d (List.mem_cons_self ..)
    have h2 := sho_allS (ds := ds) fun e he => h e (List.mem_cons_of_mem _ he)
    show (d.showable && PyData.showableAll ds) = true
    rw [h1.1, h2]; rfl
theorem textFrom_le {n : Nat} : ∀ {ds : List PyData} {k : Nat} {acc : Str}, (∀ d ∈ ds, Sho n d) → (textFrom k acc (PyData.shownAll ds)).length ≤ acc.length + ds.length * (n + 2)
  | [], _, _, _ => by show _ ≤ _ + 0 * _; rw [Nat.zero_mul]; exact Nat.le_refl _
  | d :: ds, k, acc, h => by
    have h1 := (h d (List.mem_cons_self ..)).2
    have h2 := textFrom_le (ds := ds) (k := k + 1) (acc := acc ++ (if k > 0 then ", " else "" : String) ++ d.shown) fun e he => h e (List.mem_cons_of_mem _ he)
    have e : (acc ++ (if k > 0 then ", " else "" : String) ++ d.shown).length = acc.length + (if k > 0 then 2 else 0) + d.shown.length := by
      rw [strLen_append, strLen_append]
      split <;> rfl
    have e2 : (if k > 0 then 2 else 0 : Nat) ≤ 2 := by split <;> decide
    rw [e] at h2
    show (textFrom (k + 1) (acc ++ (if k > 0 then ", " else "" : String) ++ d.shown) (PyData.shownAll ds)).length ≤ acc.length + (ds.length + 1) * (n + 2)
    rw [Nat.succ_mul]
    omega
theorem sho_list {n : Nat} {ds : List PyData} (h : ∀ d ∈ ds, Sho n d) : Sho (ds.length * (n + 2) + 2) (.list ds) := by
  refine ⟨sho_allS h, ?_⟩
  show (textFrom 0 "[" (PyData.shownAll ds) ++ ("]" : Str)).length ≤ _
  rw [strLen_append]
  have q := textFrom_le (k := 0) (acc := ("[" : Str)) h
  have e1 : (("[" : Str)).length = 1 := rfl
  have e2 : (("]" : Str)).length = 1 := rfl
  omega
theorem sum_le {n : Nat} : ∀ {ds : List PyData}, (∀ d ∈ ds, Sho n d) → ((PyData.shownAll ds).map (·.length)).sum + (PyData.shownAll ds).length * 2 ≤ ds.length * (n + 2)
  | [], _ => Nat.zero_le _
  | d :: ds, h => by
    have h1 := (h d (List.mem_cons_self ..)).2
    have h2 := sum_le (ds := ds) fun e he => h e (List.mem_cons_of_mem _ he)
    simp only [PyData.shownAll, List.map_cons, List.sum_cons, List.length_cons, Nat.succ_mul] at h2 ⊢
    omega
theorem sho_tup {n : Nat} {ds : List PyData} (h : ∀ d ∈ ds, Sho n d) : Sho (ds.length * (n + 2) + 3) (.tuple ds) := by
  refine ⟨sho_allS h, ?_⟩
  show (("(" : Str) ++ Str.join ", " (PyData.shownAll ds) ++ (if (PyData.shownAll ds).length == 1 then ",)" else ")" : String)).length ≤ _
  rw [strLen_append, strLen_append]
  have q := StrLaws.join_length_le ", " (PyData.shownAll ds)
  have q2 := sum_le h
  have e0 : ((", " : Str)).length = 2 := rfl
  have e1 : (("(" : Str)).length = 1 := rfl
  have e2 : (Str.ofString (if (PyData.shownAll ds).length == 1 then ",)" else ")" : String)).length ≤ 2 := by split <;> decide +kernel
  rw [e0] at q
  omega
section
variable {K : PySem.W.Frag} {H : Hp} {Q : VK} {a : Addr} {d : PyData}
theorem a_str {n m : Nat} (h : Dp K H (.ref a) d) (s : Sho n d) (hn : n ≤ 16000000) (p : Shp m d) (hm : m ≤ 50) (q : Q (.str d.shown) H) : rStrD K [.ref a] H Q :=
  ⟨.ref a, d, rfl, h, ⟨a, rfl⟩, s.1, PyData.hasDict_of_canLay d p.1, Nat.le_trans p.2 hm, Nat.le_trans (Nat.le_trans s.2 hn) (by rw [sizeLine_eq]; decide), q⟩
end
end Pb

/-! PbMK2 -/
set_option Elab.async false
set_option linter.all false
set_option maxRecDepth 100000
set_option maxHeartbeats 4000000
/-! Pb: methods with arguments and keyword-only ones -/
namespace Pb
open PySem PySem.Spec PyProof.Rows L2
/-- o.m(e, .., k = v, ..) -/
def tMethKA (C : Addr) (m : Str) (na n : Nat) (sp : Sp) (gV : List V → List V → List V) (E : XK) (ta : TE) (t tk : TA) : TE := fun σ H Q => ta σ H fun x H1 => ∃ a dx fs, x = .ref a ∧ H1 a = some (.ins C dx fs) ∧ fs.lookup m = none ∧
  t σ H1 fun vs H2 => tk σ H2 fun zs H3 => vs.length = na ∧ zs.length = n ∧ sp (gV (x :: vs) zs) H3 Q E
section
variable {X : Cx} {k j : Nat} {m qual : Str} {C : Addr} {sp : Sp} {ps : List Str} {st : Stmt} {kws : List (Str × V)} {apos pos : Pos} {o e : Expr} {es : List Expr} {kwe : List Keyword} {ta : TE} {t tk : TA}
theorem pe_mtKA {pl : Sem Bool} (c : KMet X.prog X.w X.K X.mg X.base k C m sp ps st qual kws) (hr : Room j X.A) (hk : k ≤ j) (hob : PE X o ta) (na : Nat) (ks : List Str) (ms : List (Str × V)) (g : {α : Type} → List α → List α → List α → List α) (hkws : kws ≠ []) (hms : ∀ q ∈ ms, q ∈ kws)
    (hrel : ∀ {vs mz zs : List V} {us mv ws : List Value}, Vals vs us → Vals mz mv → Vals zs ws → Vals (g vs mz zs) (g us mv ws))
    (h : ∀ (D : Addr) (doc pm : Value) (an : Option Addr) (cdv ct : Value) (us mv ws : List Value), us.length = na + 1 → mv.length = ms.length → ws.length = ks.length →
      KwChain D ((ms.map (·.1)).zip mv) (bindArgs (PySem.W.fnOf m qual (L2.defArgs st) (L2.defBody st) (L2.defScope st) .none (.ref D) doc pm an cdv ct) ⟨us, ks.zip ws⟩) (ps.zip (g us mv ws)))
    (ha : PA X (e :: es) t) (hkw : PK X kwe tk) (hall : (backToKw pos (keywordEach kwe X.env)).all (·.1.isSome) = true := by rfl) (hks : (backToKw pos (keywordEach kwe X.env)).filterMap (·.1) = ks := by rfl)
    (he : starEach (e :: es) X.env = (false, eval e X.env) :: starEach es X.env := by rfl)
    (hpl : ((backTo pos (starEach (e :: es) X.env)).any (·.1) || (backToKw pos (keywordEach kwe X.env)).any (·.1.isNone)) = false := by rfl)
    (ht : eval (.Call (.Attribute o m apos) (e :: es) kwe pos) X.env = (do
      let ov ← eval o X.env
      standAt apos.atName
      let (f, first) ← holding [ov] (getMethod ov m pl)
      callWith pos f first (backTo pos (starEach (e :: es) X.env)) (backToKw pos (keywordEach kwe X.env))) := by rfl) :
    PE X (.Call (.Attribute o m apos) (e :: es) kwe pos) (tMethKA C m na ks.length sp (fun vs zs => g vs (ms.map (·.2)) zs) C8.E0 ta t tk) := by
  obtain ⟨f, fd, hc, hm, F, D⟩ := c.ex
  obtain ⟨mv, hb⟩ := D.kbinds0 (ps := ps) (na + 1) ks ms g hkws hms hrel h
  refine ⟨fun pins s σ H Q I z => PySem.W.methodCall_KW (pl := pl) (thn (hob.run pins s σ H _ I z) fun u s1 ⟨x, H1, I1, rx, a, dx, fs, ex, ea, l, q⟩ => ?_) ht⟩
  subst ex
  cases (show u = Value.ref a from rx)
  refine getmeth_ok I1 ea hc hm l (PySem.W.callWith_KW (first := [.ref a]) (h₀ := X.base) I.ok.mod.kin hm.kp hall (thn (ha.run pos pins s1 σ H1 _ I1 q) fun us s2 ⟨vs, H2, I2, r, q⟩ => thn (hkw.run pos pins s2 σ H2 _ I2 q) fun ws s3 ⟨zs, H3, I3, rz, l1, l2, q2⟩ => ⟨I3.kIn, ?_⟩) hpl he)
  rw [hks]
  have r0 : Vals (V.ref a :: vs) (Value.ref a :: us) := .cons rfl r
  refine wpAny_call (codeAny_mono (F.run X.A X.stack s3 H3 ⟨.ref a :: us, ks.zip ws⟩ _ _ Q C8.E0 (hr.mono hk) I3.env0 (hb.to s3 (.ref a :: us) ws I3.kIn (by rw [List.length_cons, ← r.length, l1]) (rz.length.symm.trans l2)) (hb.rel r0 rz) q2) fun r s4 hq => ?_)
  match r, hq with
  | .error er, hq => exact C8.pass0 (E := C8.E0) pins σ H3 s3 er s4 I3 hq
  | .ok (.ret u), hq => exact I3.after hq
end
end Pb

/-! V6 -/
set_option Elab.async false
set_option linter.all false
set_option maxRecDepth 100000
set_option maxHeartbeats 4000000
namespace Pb
open PySem PySem.Spec PyProof.Rows L2
open C8 (Cal Mak Met pe_c pe_mk pe_mt pe_mt0 pe_gc fnScope_by)
/-! short words -/
local macro_rules | `(tactic| walk_at "rd") => `(tactic| try simp only [tVar, tC, tAdd, tSub, t2I, tIsN, tNotN, tB, tAnd, tOr, tNot, tAndV, tOrV, tNotV, tIf, tSeq, tPar, tPar3, tNext, tBreak, tCont, tDrop, tRet, tRetN, tIfS, gName, gNil, gCons, gTup, gSub, tAsg, tAug, ipI, iList, iTup, iRng1, iRng2, iStr, iEnum, iZip,
  tOp, tUn, rI, rI0, rU, tTest, tChain, tFld, sFld, sFldAug, L2.rAdd, L2.rSub, tNil, tCons, tTup, tLst, tCall, tMeth, tMake, tCB, tNoPart, tPart, tSl, tBM0, tBM, tDGet, tDGet1, tDGet2, tDIn, tDNotIn, sDPut, tDNewK, rEq, rNe, scal_ii, scal_ss, scal_bb, scal_nn, scal_ni, scal_in, scal_ns, scal_sn, scal_is, scal_si, List.take_succ_cons, List.take_zero, List.drop_succ_cons, List.drop_zero, upd_same, upd_upd, and_assoc, tKGet, gStar, tDisp, tPairs, tYes,
  L2.start, List.map_cons, List.map_nil, List.length_cons, List.length_nil, List.cons_append, List.nil_append, List.append_nil, List.replicate, Nat.sub_self, Nat.add_sub_cancel, Nat.reduceAdd, Nat.reduceSub, List.set_cons_zero, List.set_cons_succ, List.getElem?_cons_zero, List.getElem?_cons_succ,
  Option.some.injEq, V.int.injEq, V.bl.injEq, V.str.injEq, V.ref.injEq, exists_eq_left', exists_eq_left, exists_eq', exists_eq, true_and, and_true, if_true, if_false, Bool.false_eq_true, List.cons.injEq, Bool.not_true, Bool.not_false, cxK, cxP, cxW, ite_true, ite_false, wipe, reduceCtorEq, and_self, decide_true, decide_false, exists_and_left, exists_const, decide_eq_true_eq])
local macro_rules | `(tactic| walk_at "len") => `(tactic| (intro vs H Q E h; repeat (first | (obtain ⟨e, _⟩ := h; subst e; rfl) | (obtain ⟨_, h⟩ := h))))
local macro_rules | `(tactic| walk_at "wd") => `(tactic| simp (config := {decide := true}) only [V.str.injEq, scal_ss, true_and, if_true, if_false])

/-! covers by hand (k04) -/
def cntsD (ps : List (Option Nat)) : PyData := .list (ps.map countD)
def numsD (ns : List Int) : PyData := .list (ns.map PyData.int)
def sp__law_hand_right (K : PySem.W.Frag) : Sp := fun vs H Q _ => ∃ ms p v u ws js one parts nums, vs = [v, u, .int one, .ref p] ∧ IsCov K H p parts nums ∧ Tk H ms ∧ Dp K (hide H ms) v (wordsD ws) ∧ Dp K (hide H ms) u (joinsD js) ∧ CovOk ws js one ∧ parts.length ≤ 100 ∧ nums.length ≤ 100 ∧ (∀ k, some k ∈ parts → k ≤ 9) ∧ ∀ H', Same H H' → Q (.bl true) H'
/-- counts that may stand in a cover -/
structure CntOk (r : List (Option Nat)) : Prop where
  len : r.length ≤ 300
  few : ∀ k, some k ∈ r → k ≤ 9
theorem DpAll.cnts {K : PySem.W.Frag} {H : Hp} : ∀ ps : List (Option Nat), DpAll K H (ps.map countV) (ps.map countD)
  | [] => .nil
  | c :: ps => .cons (dp_count c) (DpAll.cnts ps)
theorem DpAll.cnts_inv {K : PySem.W.Frag} {H : Hp} : ∀ {vs : List V} {ps : List (Option Nat)}, DpAll K H vs (ps.map countD) → vs = ps.map countV
  | _, [], h => by cases h; rfl
  | _, c :: ps, h => by
    cases h with
    | cons h t => rw [countV_dp h, DpAll.cnts_inv t]; rfl
theorem cnts_shaped (ps : List (Option Nat)) : SeqAt.shaped (cntsD ps) = true := shaped_of (n := 1) (shp_list fun d hd => by
  obtain ⟨c, _, rfl⟩ := List.mem_map.mp hd
  cases c
  · exact shp_none
  · exact shp_int) (by decide)
theorem bool_show (b : Bool) : Sho 50 (.list [.bool b]) ∧ Shp 2 (.list [.bool b]) := by
  cases b <;> refine ⟨⟨by decide +kernel, by decide +kernel⟩, ⟨by decide +kernel, by decide +kernel⟩⟩
theorem cutL_mem {α : Type} {xs : List α} {lo hi : Option Int} {x : α} (h : x ∈ cutL xs lo hi) : x ∈ xs := List.mem_of_mem_drop (List.mem_of_mem_take h)
theorem cutL_len {α : Type} {xs : List α} {lo hi : Option Int} : (cutL xs lo hi).length ≤ xs.length := by
  unfold cutL
  rw [List.length_take, List.length_drop]
  omega
theorem atI_m2 {α : Type} {xs : List α} {v : α} (z : 2 ≤ xs.length) (e : xs[xs.length - 2]? = some v) : atI xs (-2) = some v := by
  unfold atI ixN
  rw [if_neg (by omega), if_pos (by omega), show (-2 + (xs.length : Int)).toNat = xs.length - 2 by omega]
  exact e
section
variable {P : Program} {w : World} {K : PySem.W.Frag} {mg : Str → Option Value} {base : Heap}
theorem ok_hand (T : Tx w K mg) (M_Cover : Mak P w K mg base 1 "Cover" (He.ga K "Cover") (sp_Cover___init__ K) []) (F_Cover_shows : KMet P w K mg base 2 (He.ga K "Cover") "shows" (sp_Cover_shows K) ["self", "words", "joins", "one"] s_Cover_shows "Cover.shows" [("one", .int 3)]) (F__law_least : Cal P w K mg base 2 "_law_least" (sp__law_least K) []) (F__law_due : GCal P w K mg base 2 "_law_due" (sp__law_due K)) : GCal P w K mg base 3 "_law_hand_right" (sp__law_hand_right K) := by
  refine gcal_of T.D__law_hand_right T.g__law_hand_right sc__law_hand_right (fun _ _ _ _ _ _ us hl => match us, hl with | [_, _, _, _], _ => rfl) (by walk_at "len") fun cdv A outer s H vs Q E hs hr h => ?_
  refine ⟨_, (pss_cons (ps_set (i := 4) sc__law_hand_right.nd rfl (by first | exact Or.inl rfl | exact Or.inr rfl) (pe_lst (pa_cons (pe_fldK (K := K) (pv 3) rfl) (pa_cons (pe_slice (r := rSlL K) sl_list (pe_fldK (K := K) (pv 3) rfl) (po_some pe_int) po_none) (pa_cons (pe_op (r := rCatS K) op_catS (pe_fldK (K := K) (pv 3) rfl) (pe_lst (pa_cons pe_non pa_nil))) (pa_cons (pe_op op_rep (pe_lst (pa_cons pe_non pa_nil)) (pe_callB (r := rLenQ K) call_lenQ (by rfl) T.b_len (by decide +kernel) (pa_cons (pv 0) pa_nil))) pa_nil))))))
    (pss_cons (ps_set (i := 4) sc__law_hand_right.nd rfl (by first | exact Or.inl rfl | exact Or.inr rfl) (pe_op (r := rCatS K) op_catS (pv 4) (pe_lst (pa_cons (pe_revL (pe_fldK (K := K) (pv 3) rfl)) (pa_cons (pe_lst pa_nil) (pa_cons (pe_op (r := rCatS K) op_catS (pe_lst (pa_cons pe_int pa_nil)) (pe_fldK (K := K) (pv 3) rfl)) pa_nil))))))
    (pss_cons (ps_set (i := 5) sc__law_hand_right.nd rfl (by first | exact Or.inl rfl | exact Or.inr rfl) (pe_c F__law_least hr (by decide) (by rfl) (pa_cons (pv 0) (pa_cons (pv 1) (pa_cons (pv 2) pa_nil)))))
    (pss_cons (ps_set (i := 6) sc__law_hand_right.nd rfl (by first | exact Or.inl rfl | exact Or.inr rfl) (pe_lst (pa_cons (pe_fldK (K := K) (pv 3) rfl) (pa_cons (pv 5) (pa_cons (pe_op op_rep (pe_lst (pa_cons pe_int pa_nil)) (pe_op op_add (pe_callB (r := rLenQ K) call_lenQ (by rfl) T.b_len (by decide +kernel) (pa_cons (pv 0) pa_nil)) pe_int)) (pa_cons (pe_slice (r := rSlL K) sl_list (pe_fldK (K := K) (pv 3) rfl) (po_some pe_int) po_none) (pa_cons (pe_revL (pv 5)) pa_nil)))))))
    (pss_cons (ps_expr (pe_bm PySem.F.plainAttrs_list PySem.F.slot_list_append PySem.F.type_list_append mt_append (pv 6) (pa_cons (pe_lc rfl sc__law_hand_right.nd (pi_listK (K := K) (pv 5)) (blkOk_by (own := [("_law_number_here", 7)]) (N := ["_law_words", "_law_joins", "_law_price", "_law_found", "_law_rows", "_law_least_here", "_law_numbers", "_law_number_here", "_law_at", "_law_parts_here", "_law_row", "_law_handed", "_law_other", "_law_late"]) (sc := L2.defScope s__law_hand_right) (by decide +kernel)) (fun _ _ _ _ _ => (pg_m (pg_name (i := 7) sc__law_hand_right.nd rfl (by first | exact Or.inl rfl | exact Or.inr rfl)))) (fun _ _ _ _ _ => pts_nilM) (fun _ _ _ _ _ => (pe_m (pe_op op_add (pv 7) pe_int)))) pa_nil)))
    (pss_cons (ps_if (pt_cmpR op_gt (pe_callB (r := rLenQ K) call_lenQ (by rfl) T.b_len (by decide +kernel) (pa_cons (pv 0) pa_nil)) pe_int (nomark _)) (pss_one (ps_expr (pe_bm PySem.F.plainAttrs_list PySem.F.slot_list_append PySem.F.type_list_append mt_append (pv 6) (pa_cons (pe_op (r := rCatS K) op_catS (pe_slice (r := rSlL K) sl_list (pv 5) po_none (po_some (pe_un un_neg pe_int))) (pe_lst (pa_cons (pe_op op_add (pe_ix (r := rIx K) ix_seq (pv 5) (pe_un un_neg pe_int) (fun _ _ => rfl)) pe_int) (pa_cons pe_int pa_nil)))) pa_nil)))) pss_nil)
    (pss_cons (ps_expr (pe_bm PySem.F.plainAttrs_list PySem.F.slot_list_append PySem.F.type_list_append mt_append (pv 6) (pa_cons (pe_lc rfl sc__law_hand_right.nd (pi_range1 (by rfl) T.b_range (pa_cons (pe_op op_add (pe_callB (r := rLenQ K) call_lenQ (by rfl) T.b_len (by decide +kernel) (pa_cons (pv 0) pa_nil)) pe_int) pa_nil)) (blkOk_by (own := [("_law_at", 8)]) (N := ["_law_words", "_law_joins", "_law_price", "_law_found", "_law_rows", "_law_least_here", "_law_numbers", "_law_number_here", "_law_at", "_law_parts_here", "_law_row", "_law_handed", "_law_other", "_law_late"]) (sc := L2.defScope s__law_hand_right) (by decide +kernel)) (fun _ _ _ _ _ => (pg_m (pg_name (i := 8) sc__law_hand_right.nd rfl (by first | exact Or.inl rfl | exact Or.inr rfl)))) (fun _ _ _ _ _ => pts_nilM) (fun _ _ _ _ _ => (pe_m (pe_op op_mul (pv 2) (pe_op op_sub (pe_callB (r := rLenQ K) call_lenQ (by rfl) T.b_len (by decide +kernel) (pa_cons (pv 0) pa_nil)) (pv 8)))))) pa_nil)))
    (pss_cons (ps_for PassesOwn.never rfl (pi_listK (K := K) (pv 4)) (pg_name (i := 9) sc__law_hand_right.nd rfl (by first | exact Or.inl rfl | exact Or.inr rfl)) (pss_one (ps_for PassesOwn.never rfl (pi_listK (K := K) (pv 6)) (pg_name (i := 10) sc__law_hand_right.nd rfl (by first | exact Or.inl rfl | exact Or.inr rfl)) (pss_cons (ps_par (i := 11) (j := 12) rfl sc__law_hand_right.nd rfl rfl (by decide) rfl rfl (pa_cons (pe_callTy (r := rListOf K) call_listOf (by rfl) T.b_list (by decide +kernel) (pa_cons (pv 9) pa_nil)) (pa_cons (pe_callTy (r := rListOf K) call_listOf (by rfl) T.b_list (by decide +kernel) (pa_cons (pv 10) pa_nil)) pa_nil)) rfl)
    (pss_cons (ps_set (i := 13) sc__law_hand_right.nd rfl (by first | exact Or.inl rfl | exact Or.inr rfl) (pe_mk M_Cover hr (by decide) (by rfl) (pa_cons (pv 11) (pa_cons (pv 12) pa_nil))))
    (pss_cons (ps_expr (pe_bm PySem.F.plainAttrs_list PySem.F.slot_list_append PySem.F.type_list_append mt_append (pv 11) (pa_cons pe_int pa_nil)))
    (pss_cons (ps_expr (pe_bm PySem.F.plainAttrs_list PySem.F.slot_list_append PySem.F.type_list_append mt_append (pv 12) (pa_cons pe_int pa_nil)))
    (pss_cons (ps_if (PW.pt (pw_or (pt_cmpR (r := rNeD K) (op_neD hr.units) (pe_fldK (K := K) (pv 13) rfl) (pv 9) (nomark _)) (pw_or1 (pt_cmpR (r := rNeD K) (op_neD hr.units) (pe_fldK (K := K) (pv 13) rfl) (pv 10) (nomark _))))) (pss_one (ps_ret pe_bl)) pss_nil)
    (pss_one (ps_if (pt_cmpR op_ne (pe_callTy (r := rStrD K) (call_strD hs hr) (by rfl) T.b_str (by decide +kernel) (pa_cons (pe_lst (pa_cons (pe_mtKA F_Cover_shows hr (by decide) (pv 13) 2 ["one"] [] (fun us mv ws => (us ++ ws)) (fun z => by cases z) (fun q hq => by simp at hq) (fun r1 r2 r3 => (r1.append r3)) (fun _ _ _ _ _ _ us mv ws l1 l2 l3 => match us, mv, ws, l1, l2, l3 with | [_, _, _], [], [_], _, _, _ => (by (show _ = _); rfl)) (pa_cons (pv 0) (pa_cons (pv 1) pa_nil)) (pk_cons (pv 2) pk_nil)) pa_nil)) pa_nil)) (pe_callTy (r := rStrD K) (call_strD hs hr) (by rfl) T.b_str (by decide +kernel) (pa_cons (pe_lst (pa_cons (pe_cG F__law_due hs hr (by decide) (by rfl) (pa_cons (pv 0) (pa_cons (pv 1) (pa_cons (pv 2) (pa_cons (pv 13) pa_nil))))) pa_nil)) pa_nil)) (nomark _)) (pss_one (ps_ret pe_bl)) pss_nil))))))))))
    (pss_one (ps_ret pe_bl)))))))))), ?_⟩
  obtain ⟨ms, p, v, u, ws, js, one, parts, nums, rfl, ⟨dx, pl, nl, ap, apl, anl⟩, tk, hv, hu, ok, lp, ln, lk, k⟩ := h
  have big : ∀ n : Nat, n ≤ 1000000 → n ≤ sizeLine := fun n h => by rw [sizeLine_eq]; omega
  have hv0 := Dp.mono same_show hv
  have hw := ok.words.hi
  have hlen : ∀ {A : Hp} {R : VK}, Same H A → R (.int (ws.length : Nat)) A → rLenQ K [v] A R := fun {A R} s q => a_lenL (Dp.mono s hv0) (by rw [List.length_map]; exact q)
  have z0 : ∀ {A : Hp} {x : V} {d : PyData}, Dp K A x d → Dp K (hide A []) x d := fun h => by rw [hide_nil]; exact h
  have z1 : ∀ {A : Hp} {x : V} {d : PyData}, Dp K (hide A []) x d → Dp K A x d := fun h => by rw [hide_nil] at h; exact h
  have fldP : ∀ {A : Hp}, Same H A → ∃ dx fs, A p = some (.ins (He.ga K "Cover") dx fs) ∧ fs = coverF pl nl := fun s => ⟨dx, _, s _ _ ap, rfl⟩
  have dP : ∀ {A : Hp}, Same H A → Dp K A (.ref pl) (cntsD parts) := fun s => .lst (SqL.of (s _ _ apl)) (DpAll.cnts parts)
  have dN : ∀ {A : Hp}, Same H A → Dp K A (.ref nl) (numsD nums) := fun s => .lst (SqL.of (s _ _ anl)) (DpAll.ints nums)
  refine seq_mid (fun σ A => ∃ rl : V, ∃ R : List (List (Option Nat)), σ = [some v, some u, some (.int one), some (.ref p), some rl, none, none, none, none, none, none, none, none, none] ∧ Same H A ∧ Dp K A rl (.list (R.map cntsD)) ∧ R.length ≤ 20 ∧ ∀ r ∈ R, CntOk r) (fun Kx yes => ?_) ?_
  · walk_at "rd"
    refine ⟨_, _, _, ap, T.c_Cover, T.n_Cover_parts, _, rfl, _, _, _, ap, T.c_Cover, T.n_Cover_parts, _, rfl, ?_⟩
    refine a_slD Tk.nil (z0 (dP (Same.refl _))) fun A1 p1 s1 n1 y1 => ?_
    rw [cutL_map] at y1
    refine ⟨_, _, _, s1 _ _ ap, T.c_Cover, T.n_Cover_parts, _, rfl, big _ (by decide), fun p2 np2 => ?_⟩
    have s2 := same_new (o := HO.lst [V.non]) np2
    have y2 : Dp K (upd A1 p2 (HO.lst [V.non])) (.ref p2) (cntsD [none]) := .lst (SqL.of upd_same) (.cons .non .nil)
    generalize upd A1 p2 (HO.lst [V.non]) = A2 at *
    refine a_catD Tk.nil (z0 (dP (s1.trans s2))) (z0 y2) (by rw [List.length_map]; show _ + 1 ≤ _; omega) fun A3 p3 s3 n3 y3 => ⟨big _ (by decide), fun p4 np4 => ?_⟩
    have s4 := same_new (o := HO.lst [V.non]) np4
    have e4 : upd A3 p4 (HO.lst [V.non]) p4 = some (.lst [.non]) := upd_same
    generalize upd A3 p4 (HO.lst [V.non]) = A4 at *
    have s14 := s1.trans (s2.trans (s3.trans s4))
    refine hlen s14 ?_
    refine ⟨p4, _, [V.non], rfl, rfl, e4, by omega, by omega, by rw [sizeLine_eq]; show 1 * _ ≤ 16777216; omega, fun p5 np5 => ⟨big _ (by decide), fun p6 np6 => ?_⟩⟩
    rw [Int.toNat_natCast, flat_one] at np6 ⊢
    have s5 := same_new (o := HO.lst (List.replicate ws.length V.non)) np5
    have y5 : Dp K (upd A4 p5 (HO.lst (List.replicate ws.length V.non))) (.ref p5) (cntsD (List.replicate ws.length none)) := .lst (SqL.of upd_same) (by
      have := DpAll.cnts (K := K) (H := upd A4 p5 (HO.lst (List.replicate ws.length V.non))) (List.replicate ws.length none)
      rw [List.map_replicate] at this
      exact this)
    generalize upd A4 p5 (HO.lst (List.replicate ws.length V.non)) = A5 at *
    have s6 := same_new (o := HO.lst [V.ref pl, V.ref p1, V.ref p3, V.ref p5]) np6
    have y3' : Dp K A3 (.ref p3) (cntsD (parts ++ [none])) := by
      have := z1 y3
      rw [← List.map_append] at this
      exact this
    refine yes _ _ ⟨_, [parts, cutL parts (some 1) none, parts ++ [none], List.replicate ws.length none], rfl, s14.trans (s5.trans s6), ?_, by show 4 ≤ 20; decide, ?_⟩
    · exact .lst (SqL.of upd_same) (.cons (dP (s14.trans (s5.trans s6))) (.cons (Dp.mono (s2.trans (s3.trans (s4.trans (s5.trans s6)))) (z1 y1)) (.cons (Dp.mono (s4.trans (s5.trans s6)) y3') (.cons (Dp.mono s6 y5) .nil))))
    · intro r hr
      simp only [List.mem_cons, List.not_mem_nil, or_false] at hr
      rcases hr with rfl | rfl | rfl | rfl
      · exact ⟨by omega, lk⟩
      · exact ⟨by have := cutL_len (xs := parts) (lo := some 1) (hi := none); omega, fun k hk => lk k (cutL_mem hk)⟩
      · refine ⟨by rw [List.length_append]; show _ + 1 ≤ _; omega, fun k hk => ?_⟩
        rcases List.mem_append.mp hk with h | h
        · exact lk k h
        · cases List.mem_singleton.mp h
      · exact ⟨by rw [List.length_replicate]; omega, fun k hk => by cases (List.mem_replicate.mp hk).2⟩
  rintro σ A ⟨rl, R, rfl, s1, hR, lenR, okR⟩
  refine seq_mid (fun σ A => ∃ rl : V, ∃ R : List (List (Option Nat)), σ = [some v, some u, some (.int one), some (.ref p), some rl, none, none, none, none, none, none, none, none, none] ∧ Same H A ∧ Dp K A rl (.list (R.map cntsD)) ∧ R.length ≤ 40 ∧ ∀ r ∈ R, CntOk r) (fun Kx yes => ?_) ?_
  · walk_at "rd"
    unfold tRevL
    walk_at "rd"
    refine ⟨_, _, _, s1 _ _ ap, T.c_Cover, T.n_Cover_parts, _, rfl, pl, rfl, _, SqL.of (s1 _ _ apl), fun p1 np1 => ⟨big _ (by decide), fun p2 np2 => ⟨big _ (by decide), fun p3 np3 => ?_⟩⟩⟩
    have t1 := same_new (o := HO.lst (parts.map countV).reverse) np1
    have t2 := same_new (o := HO.lst []) np2
    have t3 := same_new (o := HO.lst [V.int 0]) np3
    have x1 : Dp K (upd A p1 (HO.lst (parts.map countV).reverse)) (.ref p1) (cntsD parts.reverse) := .lst (SqL.of upd_same) (by
      have := DpAll.cnts (K := K) (H := upd A p1 (HO.lst (parts.map countV).reverse)) parts.reverse
      rw [List.map_reverse] at this
      exact this)
    have x2 : Dp K (upd (upd A p1 (HO.lst (parts.map countV).reverse)) p2 (HO.lst [])) (.ref p2) (cntsD []) := .lst (SqL.of upd_same) .nil
    have x3 : Dp K (upd (upd (upd A p1 (HO.lst (parts.map countV).reverse)) p2 (HO.lst [])) p3 (HO.lst [V.int 0])) (.ref p3) (cntsD [some 0]) := .lst (SqL.of upd_same) (.cons (.int 0) .nil)
    replace x1 := Dp.mono (t2.trans t3) x1
    replace x2 := Dp.mono t3 x2
    have s2 := s1.trans (t1.trans (t2.trans t3))
    have hR2 := Dp.mono (t1.trans (t2.trans t3)) hR
    generalize upd (upd (upd A p1 (HO.lst (parts.map countV).reverse)) p2 (HO.lst [])) p3 (HO.lst [V.int 0]) = A3 at *
    refine ⟨_, _, _, s2 _ _ ap, T.c_Cover, T.n_Cover_parts, _, rfl, ?_⟩
    refine a_catD Tk.nil (z0 x3) (z0 (dP s2)) (by rw [List.length_map, List.length_map]; show 1 + _ ≤ _; omega) fun A4 p4 s4 n4 y4 => ⟨big _ (by decide), fun p5 np5 => ?_⟩
    have t5 := same_new (o := HO.lst [V.ref p1, V.ref p2, V.ref p4]) np5
    have y4' : Dp K A4 (.ref p4) (cntsD (some 0 :: parts)) := z1 y4
    have x5 : Dp K (upd A4 p5 (HO.lst [V.ref p1, V.ref p2, V.ref p4])) (.ref p5) (.list ([parts.reverse, [], some 0 :: parts].map cntsD)) := .lst (SqL.of upd_same) (.cons (Dp.mono (s4.trans t5) x1) (.cons (Dp.mono (s4.trans t5) x2) (.cons (Dp.mono t5 y4') .nil)))
    replace hR2 := Dp.mono (s4.trans t5) hR2
    have s5 := s2.trans (s4.trans t5)
    generalize upd A4 p5 (HO.lst [V.ref p1, V.ref p2, V.ref p4]) = A5 at *
    refine a_catD Tk.nil (z0 hR2) (z0 x5) (by rw [List.length_map]; show _ + 3 ≤ _; omega) fun A6 p6 s6 n6 y6 => ?_
    refine yes _ _ ⟨_, R ++ [parts.reverse, [], some 0 :: parts], rfl, s5.trans s6, ?_, ?_, fun r hr => ?_⟩
    · rw [List.map_append]
      exact z1 y6
    · rw [List.length_append]
      show _ + 3 ≤ 40
      omega
    · rcases List.mem_append.mp hr with h | h
      · exact okR r h
      · simp only [List.mem_cons, List.not_mem_nil, or_false] at h
        rcases h with rfl | rfl | rfl
        · exact ⟨by rw [List.length_reverse]; omega, fun k hk => lk k (List.mem_reverse.mp hk)⟩
        · exact ⟨by decide, fun k hk => nomatch hk⟩
        · refine ⟨by rw [List.length_cons]; omega, fun k hk => ?_⟩
          rcases List.mem_cons.mp hk with z | z
          · cases z; decide
          · exact lk k z
  clear hR okR lenR s1 R rl A
  rintro σ A ⟨rl, R, rfl, s1, hR, lenR, okR⟩
  have nlen : (cvNums ws js one).length = ws.length + 1 := by unfold cvNums; rw [cv_len1]
  refine seq_mid (fun σ A => ∃ ll, σ = [some v, some u, some (.int one), some (.ref p), some rl, some (.ref ll), none, none, none, none, none, none, none, none] ∧ Same H A ∧ A ll = some (.lst ((cvNums ws js one).map V.int)) ∧ Dp K A rl (.list (R.map cntsD))) (fun Kx yes => ?_) ?_
  · walk_at "rd"
    refine ⟨ms, v, u, ws, js, one, rfl, tk.same s1, Dp.mono (Same.hide s1 _) hv, Dp.mono (Same.hide s1 _) hu, ok, fun A1 f s2 nf ef => ?_⟩
    exact yes _ _ ⟨f, rfl, s1.trans s2, ef, Dp.mono s2 hR⟩
  clear hR s1 A
  rintro σ A ⟨ll, rfl, s1, ell, hR⟩
  generalize cvNums ws js one = least at *
  have dL : ∀ {B : Hp}, Same A B → Dp K B (.ref ll) (numsD least) := fun s => .lst (SqL.of (s _ _ ell)) (DpAll.ints least)
  refine seq_mid (fun σ B => ∃ N ys, ∃ L : List (List Int), σ = [some v, some u, some (.int one), some (.ref p), some rl, some (.ref ll), some (.ref N), none, none, none, none, none, none, none] ∧ Same A B ∧ A N = none ∧ B N = some (.lst ys) ∧ DpAll K (hide B [N]) ys (L.map numsD) ∧ L.length ≤ 5 ∧ ∀ l ∈ L, l.length ≤ 300) (fun Kx yes => ?_) ?_
  · walk_at "rd"
    refine ⟨_, _, _, s1 _ _ ap, T.c_Cover, T.n_Cover_numbers, _, rfl, big _ (by decide), fun p1 np1 => ?_⟩
    have t1 := same_new (o := HO.lst [V.int 0]) np1
    have e1 : upd A p1 (HO.lst [V.int 0]) p1 = some (.lst [.int 0]) := upd_same
    generalize upd A p1 (HO.lst [V.int 0]) = A1 at *
    refine hlen (s1.trans t1) ⟨_, rfl, ?_⟩
    refine ⟨p1, _, [V.int 0], rfl, rfl, e1, by omega, by omega, by rw [sizeLine_eq]; show 1 * _ ≤ 16777216; omega, fun p2 np2 => ?_⟩
    rw [show ((ws.length : Nat) : Int) + 1 = ((ws.length + 1 : Nat) : Int) by omega, Int.toNat_natCast, flat_one]
    have t2 := same_new (o := HO.lst (List.replicate (ws.length + 1) (V.int 0))) np2
    have y2 : Dp K (upd A1 p2 (HO.lst (List.replicate (ws.length + 1) (V.int 0)))) (.ref p2) (numsD (List.replicate (ws.length + 1) 0)) := .lst (SqL.of upd_same) (by
      have := DpAll.ints (K := K) (H := upd A1 p2 (HO.lst (List.replicate (ws.length + 1) (V.int 0)))) (List.replicate (ws.length + 1) 0)
      rw [List.map_replicate] at this
      exact this)
    generalize upd A1 p2 (HO.lst (List.replicate (ws.length + 1) (V.int 0))) = A2 at *
    have t12 := t1.trans t2
    refine ⟨_, _, _, (s1.trans t12) _ _ ap, T.c_Cover, T.n_Cover_numbers, _, rfl, ?_⟩
    refine a_slD Tk.nil (z0 (dN (s1.trans t12))) fun A3 p3 t3 n3 y3 => ?_
    rw [cutL_map] at y3
    unfold tRevL
    walk_at "rd"
    have t13 := t12.trans t3
    refine ⟨_, SqL.of (t13 _ _ ell), fun p4 np4 => ⟨big _ (by decide), fun N nN => ?_⟩⟩
    have t4 := same_new (o := HO.lst (least.map V.int).reverse) np4
    have y4 : Dp K (upd A3 p4 (HO.lst (least.map V.int).reverse)) (.ref p4) (numsD least.reverse) := .lst (SqL.of upd_same) (by
      have := DpAll.ints (K := K) (H := upd A3 p4 (HO.lst (least.map V.int).reverse)) least.reverse
      rw [List.map_reverse] at this
      exact this)
    generalize upd A3 p4 (HO.lst (least.map V.int).reverse) = A4 at *
    have t14 := t13.trans t4
    refine yes _ _ ⟨N, _, [nums, least, List.replicate (ws.length + 1) 0, cutL nums (some 1) none, least.reverse], rfl, t14.trans (same_new nN), t14.free nN, upd_same, ?_, by show 5 ≤ 5; decide, ?_⟩
    · rw [hide_new nN]
      exact .cons (dN (s1.trans t14)) (.cons (dL t14) (.cons (Dp.mono (t3.trans t4) y2) (.cons (Dp.mono t4 (z1 y3)) (.cons y4 .nil))))
    · intro l hl
      simp only [List.mem_cons, List.not_mem_nil, or_false] at hl
      rcases hl with rfl | rfl | rfl | rfl | rfl
      · omega
      · omega
      · rw [List.length_replicate]; omega
      · have := cutL_len (xs := nums) (lo := some 1) (hi := none); omega
      · rw [List.length_reverse]; omega
  rintro σ B ⟨N, ys, L, rfl, s2, nN, eN, hN, lenL, okL⟩
  have app : ∀ {B C : Hp} {ys : List V} {L : List (List Int)} {x : V} {l : List Int} {R : VK}, Same A B → B N = some (.lst ys) → DpAll K (hide B [N]) ys (L.map numsD) → Same B C → Dp K (hide C [N]) x (numsD l) → L.length ≤ 20 → (Same A (upd C N (.lst (ys ++ [x]))) → upd C N (.lst (ys ++ [x])) N = some (.lst (ys ++ [x])) → DpAll K (hide (upd C N (.lst (ys ++ [x]))) [N]) (ys ++ [x]) ((L ++ [l]).map numsD) → R .non (upd C N (.lst (ys ++ [x])))) →
      rAppend (.ref N) [x] C R := fun {B C ys L x l R} sA eB dB sC dx hl q => by
    have eC := sC _ _ eB
    have el := DpAll.length dB
    rw [List.length_map] at el
    refine ⟨N, ys, x, rfl, rfl, eC, by rw [sizeLine_eq]; omega, q (fun b o e => ?_) upd_same ?_⟩
    · rw [upd_ne fun z => by rw [z, nN] at e; cases e]
      exact sC _ _ (sA _ _ e)
    · rw [hide_upd (by simp), List.map_append]
      exact DpAll.append (DpAll.mono (Same.hide sC _) dB) (DpAll.one dx)
  refine seq_mid (fun σ B => ∃ ys, ∃ L : List (List Int), ∃ o7, σ = [some v, some u, some (.int one), some (.ref p), some rl, some (.ref ll), some (.ref N), o7, none, none, none, none, none, none] ∧ Same A B ∧ B N = some (.lst ys) ∧ DpAll K (hide B [N]) ys (L.map numsD) ∧ L.length ≤ 6 ∧ ∀ l ∈ L, l.length ≤ 300) (fun Kx yes => ?_) ?_
  · walk_at "rd"
    refine ⟨.inl ⟨rfl, _, SqL.of eN⟩, a_lc ?_⟩
    walk_at "rd"
    refine ⟨⟨_, SqL.of (s2 _ _ ell)⟩, fun D nD => ?_⟩
    have nDN : D ∉ [N] := fun z => by rw [List.mem_singleton.mp z, eN] at nD; cases nD
    refine lc_data (K := K) (ds := least.map PyData.int) (ms := []) walk_list nD Tk.nil (by rw [List.length_map, sizeLine_eq]; omega) (DpAll.ints _) (fun H8 s8 => SqL.of (s8 _ _ (s2 _ _ ell))) (fun _ => true) (fun d => match d with
      | .int n => .int (n + 1)
      | _ => .none) (fun y d H8 hd8 s8 hD8 hy => ?_) (fun H8 ys2 s8 e8 hys => ?_)
    · obtain ⟨m, hm, rfl⟩ := List.mem_map.mp hd8
      cases hy
      walk_at "rd"
      exact ⟨fun z => z.elim, fun _ => ⟨Same.refl _, .int _⟩⟩
    · rw [List.filter_eq_self.mpr fun _ _ => rfl] at hys
      have e2 : ((least.map PyData.int).map fun d => match d with
        | .int n => .int (n + 1)
        | _ => PyData.none) = (least.map (· + 1)).map PyData.int := by
        rw [List.map_map, List.map_map]
        rfl
      rw [e2] at hys
      have e3 := DpAll.ints_inv hys
      subst e3
      refine app s2 eN hN s8 (x := .ref D) (l := least.map (· + 1)) (.lst (.inl (.inl ((hide_at nDN).trans e8))) (DpAll.ints _)) (by omega) fun q1 q2 q3 => yes _ _ ⟨_, _, _, rfl, q1, q2, q3, by rw [List.length_append]; show _ + 1 ≤ 6; omega, fun l hl => ?_⟩
      rcases List.mem_append.mp hl with h | h
      · exact okL l h
      · rw [List.mem_singleton.mp h, List.length_map]; omega
  clear okL lenL hN eN s2 L ys B
  rintro σ B ⟨ys, L, o7, rfl, s2, eN, hN, lenL, okL⟩
  refine seq_mid (fun σ B => ∃ ys, ∃ L : List (List Int), ∃ o7, σ = [some v, some u, some (.int one), some (.ref p), some rl, some (.ref ll), some (.ref N), o7, none, none, none, none, none, none] ∧ Same A B ∧ B N = some (.lst ys) ∧ DpAll K (hide B [N]) ys (L.map numsD) ∧ L.length ≤ 7 ∧ ∀ l ∈ L, l.length ≤ 300) (fun Kx yes => ?_) ?_
  · walk_at "rd"
    refine hlen (s1.trans s2) ⟨_, rfl, ?_⟩
    rcases Decidable.em ((1 : Int) < ws.length) with c1 | c1
    rotate_left
    · exact iteF' c1 (yes _ _ ⟨_, _, _, rfl, s2, eN, hN, by omega, okL⟩)
    refine iteT' c1 ⟨.inl ⟨rfl, _, SqL.of eN⟩, ?_⟩
    refine a_slD Tk.nil (z0 (dL s2)) fun C p1 t1 n1 y1 => ?_
    rw [cutL_map] at y1
    have h2 : least.length - 2 < least.length := by omega
    refine a_ixV (SqL.of ((s2.trans t1) _ _ ell)) (atI_m2 (by rw [List.length_map]; omega) (v := .int least[least.length - 2]) (by rw [List.length_map, List.getElem?_map, List.getElem?_eq_getElem h2]; rfl)) ⟨_, rfl, big _ (by decide), fun p2 np2 => ?_⟩
    generalize least[least.length - 2] = m
    have t2 := same_new (o := HO.lst [V.int (m + 1), V.int 0]) np2
    have y2 : Dp K (upd C p2 (HO.lst [V.int (m + 1), V.int 0])) (.ref p2) (numsD [m + 1, 0]) := .lst (SqL.of upd_same) (.cons (.int _) (.cons (.int _) .nil))
    generalize upd C p2 (HO.lst [V.int (m + 1), V.int 0]) = C2 at *
    have y1' : Dp K C2 (.ref p1) (.list ((cutL least none (some (-2))).map PyData.int)) := Dp.mono t2 (z1 y1)
    have cl := cutL_len (xs := least) (lo := none) (hi := some (-2))
    obtain ⟨q1, x1, eq1, hq1, hx1⟩ := dp_list y1'
    cases eq1
    obtain ⟨q2, x2, eq2, hq2, hx2⟩ := dp_list y2
    cases eq2
    have f1 := DpAll.ints_inv hx1
    have f2 := DpAll.ints_inv hx2
    subst f1 f2
    refine ⟨p1, p2, _, _, rfl, rfl, hq1, hq2, by rw [sizeLine_eq, List.length_map]; show _ + 2 ≤ 16777216; omega, fun p3 np3 => ?_⟩
    have t3 := same_new (o := HO.lst ((cutL least none (some (-2))).map V.int ++ [m + 1, 0].map V.int)) np3
    have e3 : upd C2 p3 (HO.lst ((cutL least none (some (-2))).map V.int ++ [m + 1, 0].map V.int)) p3 = some (.lst ((cutL least none (some (-2)) ++ [m + 1, 0]).map V.int)) := by rw [upd_same, List.map_append]
    generalize upd C2 p3 (HO.lst ((cutL least none (some (-2))).map V.int ++ [m + 1, 0].map V.int)) = C3 at *
    have t13 := t1.trans (t2.trans t3)
    have n3N : p3 ∉ [N] := fun z => by rw [List.mem_singleton.mp z, (t1.trans t2) _ _ eN] at np3; cases np3
    refine app s2 eN hN t13 (x := .ref p3) (l := cutL least none (some (-2)) ++ [m + 1, 0]) (.lst (.inl (.inl ((hide_at n3N).trans e3))) (DpAll.ints _)) (by omega) fun r1 r2 r3 => yes _ _ ⟨_, _, _, rfl, r1, r2, r3, by rw [List.length_append]; show _ + 1 ≤ 7; omega, fun l hl => ?_⟩
    rcases List.mem_append.mp hl with h | h
    · exact okL l h
    · rw [List.mem_singleton.mp h, List.length_append]
      show _ + 2 ≤ 300
      omega
  clear okL lenL hN eN s2 L ys B
  rintro σ B ⟨ys, L, o7, rfl, s2, eN, hN, lenL, okL⟩
  refine seq_mid (fun σ B => ∃ ys, ∃ L : List (List Int), ∃ o7 o8, σ = [some v, some u, some (.int one), some (.ref p), some rl, some (.ref ll), some (.ref N), o7, o8, none, none, none, none, none] ∧ Same A B ∧ B N = some (.lst ys) ∧ DpAll K (hide B [N]) ys (L.map numsD) ∧ L.length ≤ 8 ∧ ∀ l ∈ L, l.length ≤ 300) (fun Kx yes => ?_) ?_
  · walk_at "rd"
    refine ⟨.inl ⟨rfl, _, SqL.of eN⟩, a_lc ?_⟩
    walk_at "rd"
    refine hlen (s1.trans s2) ⟨_, rfl, by omega, by omega, fun D nD => ?_⟩
    have nDN : D ∉ [N] := fun z => by rw [List.mem_singleton.mp z, eN] at nD; cases nD
    rw [show ((ws.length : Nat) : Int) + 1 = ((ws.length + 1 : Nat) : Int) by omega, Int.toNat_natCast]
    refine lc_pure (K := K) (ms := []) (n := ws.length + 1) walk_range nD Tk.nil (by rw [sizeLine_eq]; omega) (fun _ _ => trivial) (fun _ => true) (fun i => PyData.int (one * ((ws.length : Nat) - (0 + (i : Nat) : Int)))) (fun i x C C' hi sC hD ⟨e0, ey⟩ => ?_) (fun C ys2 s8 e8 hys => ?_)
    · subst e0
      obtain rfl : x = V.int (0 + (i : Nat)) := ey
      refine g_name ⟨rfl, ?_⟩
      walk_at "rd"
      refine ⟨fun z => z.elim, fun _ => hlen (s1.trans (s2.trans sC)) ⟨_, rfl, ?_⟩⟩
      exact ⟨.inl ⟨by have := ok.one; omega, by have := ok.one; omega⟩, Same.refl _, .int _⟩
    · rw [List.filter_eq_self.mpr fun _ _ => rfl] at hys
      have e2 : (List.range (ws.length + 1)).map (fun i => PyData.int (one * ((ws.length : Nat) - (0 + (i : Nat) : Int)))) = ((List.range (ws.length + 1)).map fun i : Nat => one * (((ws.length : Nat) : Int) - (0 + (i : Nat) : Int))).map PyData.int := by
        rw [List.map_map]
        rfl
      rw [e2] at hys
      have e3 := DpAll.ints_inv hys
      subst e3
      refine app s2 eN hN s8 (x := .ref D) (.lst (.inl (.inl ((hide_at nDN).trans e8))) (DpAll.ints _)) (by omega) fun q1 q2 q3 => yes _ _ ⟨_, _, _, _, rfl, q1, q2, q3, by rw [List.length_append]; show _ + 1 ≤ 8; omega, fun l hl => ?_⟩
      rcases List.mem_append.mp hl with h | h
      · exact okL l h
      · rw [List.mem_singleton.mp h, List.length_map, List.length_range]; omega
  clear okL lenL hN eN s2 L ys B
  rintro σ B ⟨ys, L, o7, o8, rfl, s2, eN, hN, lenL, okL⟩
  have hL : Dp K B (.ref N) (.list (L.map numsD)) := .lst (SqL.of eN) (DpAll.mono same_show hN)
  have hRB := Dp.mono s2 hR
  have sB := s1.trans s2
  clear hN eN hR app
  obtain ⟨ra, rx, rfl, hra, hrx⟩ := dp_list hRB
  obtain ⟨Na, nx, eNa, hNa, hnx⟩ := dp_list hL
  cases eNa
  have rlen := DpAll.length hrx
  have nxlen := DpAll.length hnx
  rw [List.length_map] at rlen nxlen
  refine a_for ?_
  walk_at "rd"
  refine ⟨⟨_, hra⟩, ?_⟩
  refine for_go2 walk_list (fun i σ C => ∃ o9 o10 o11 o12 o13, σ = [some v, some u, some (.int one), some (.ref p), some (.ref ra), some (.ref ll), some (.ref N), o7, o8, o9, o10, o11, o12, o13] ∧ Same B C) ⟨_, _, _, _, _, rfl, Same.refl _⟩ (fun i σ C _ z => by
    obtain ⟨_, _, _, _, _, _, z⟩ := z
    exact sqL_same z hra) ?_ (fun σ C z => by
    obtain ⟨_, _, _, _, _, rfl, z⟩ := z
    walk_at "rd"
    exact k _ (sB.trans z))
  rintro Pw yes i y σ C C' hi ⟨o9, o10, o11, o12, o13, rfl, sC⟩ ⟨e0, ey⟩
  subst e0
  obtain ⟨d, ed, hd⟩ := DpAll.at hrx ey
  rw [rlen] at hi
  rw [List.getElem?_map, List.getElem?_eq_getElem hi] at ed
  cases ed
  have okr := okR _ (List.getElem_mem hi)
  generalize R[i] = r at *
  refine g_name ?_
  dsimp only
  refine a_for ?_
  walk_at "rd"
  refine ⟨⟨_, sqL_same sC hNa⟩, ?_⟩
  refine for_go2 (walk_list (xs := nx)) (fun j σ C => ∃ o10 o11 o12 o13, σ = [some v, some u, some (.int one), some (.ref p), some (.ref ra), some (.ref ll), some (.ref N), o7, o8, some y, o10, o11, o12, o13] ∧ Same B C) ⟨_, _, _, _, rfl, sC⟩ (fun j σ C _ z => by
    obtain ⟨_, _, _, _, _, z⟩ := z
    exact sqL_same z hNa) ?_ (fun σ C z => by
    obtain ⟨_, _, _, _, rfl, z⟩ := z
    exact yes _ _ _ ⟨_, _, _, _, _, rfl, z⟩)
  clear sC C'
  rintro Pz yesz j z σ C C' hj ⟨o10, o11, o12, o13, rfl, sC⟩ ⟨e0, ez⟩
  subst e0
  obtain ⟨d, ed, hd2⟩ := DpAll.at hnx ez
  rw [nxlen] at hj
  rw [List.getElem?_map, List.getElem?_eq_getElem hj] at ed
  cases ed
  have okl := okL _ (List.getElem_mem hj)
  generalize L[j] = l at *
  obtain ⟨ya, yx, rfl, hya, hyx⟩ := dp_list hd
  obtain ⟨za, zx, rfl, hza, hzx⟩ := dp_list hd2
  have ez1 := DpAll.ints_inv hzx
  subst ez1
  refine g_name ?_
  dsimp only
  refine seq_mid (fun σ D => ∃ h1 h2, σ = [some v, some u, some (.int one), some (.ref p), some (.ref ra), some (.ref ll), some (.ref N), o7, o8, some (.ref ya), some (.ref za), some (.ref h1), some (.ref h2), o13] ∧ Same C' D ∧ C' h1 = none ∧ C' h2 = none ∧ h1 ≠ h2 ∧ D h1 = some (.lst yx) ∧ D h2 = some (.lst (l.map V.int))) (fun Kx yes2 => ?_) ?_
  · walk_at "rd"
    refine ⟨ya, yx, rfl, .inl (sqL_same sC hya), fun h1 n1 => ?_⟩
    have t1 := same_new (o := HO.lst yx) n1
    refine ⟨za, _, rfl, .inl (sqL_same (sC.trans t1) hza), fun h2 n2 => ?_⟩
    have ne : h1 ≠ h2 := fun z => by rw [← z, upd_same] at n2; cases n2
    exact yes2 _ _ ⟨h1, h2, rfl, t1.trans (same_new n2), n1, (upd_ne (Ne.symm ne)).symm.trans n2, ne, (upd_ne ne).trans upd_same, upd_same⟩
  rintro σ D ⟨h1, h2, rfl, s4, n1, n2, ne, e1, e2⟩
  have eyx : yx = r.map countV := DpAll.cnts_inv hyx
  subst eyx
  have llen := DpAll.length hyx
  have okr1 := okr.len
  refine seq_mid (fun σ D => ∃ c dc p3 n3, σ = [some v, some u, some (.int one), some (.ref p), some (.ref ra), some (.ref ll), some (.ref N), o7, o8, some (.ref ya), some (.ref za), some (.ref h1), some (.ref h2), some (.ref c)] ∧ Same C' D ∧ D c = some (.ins (He.ga K "Cover") dc (coverF p3 n3)) ∧ D p3 = some (.lst (r.map countV)) ∧ D n3 = some (.lst (l.map V.int)) ∧ D h1 = some (.lst (r.map countV)) ∧ D h2 = some (.lst (l.map V.int)) ∧ c ∉ [h1, h2] ∧ p3 ∉ [h1, h2] ∧ n3 ∉ [h1, h2]) (fun Kx yes2 => ?_) ?_
  · walk_at "rd"
    refine fun c dc nc ndc nec => ⟨c, dc, D, h1, h2, _, _, rfl, ⟨rfl, nc, ndc, nec⟩, SqL.of e1, SqL.of e2, fun D2 p3 n3 s5 m1 m2 m3 a1 a2 a3 => ⟨rfl, ?_⟩⟩
    have off : ∀ {z : Addr}, D z = none → z ∉ [h1, h2] := fun {z} hz q => by
      simp only [List.mem_cons, List.not_mem_nil, or_false] at q
      rcases q with q | q
      · rw [q, e1] at hz; cases hz
      · rw [q, e2] at hz; cases hz
    exact yes2 _ _ ⟨c, dc, p3, n3, rfl, s4.trans s5, a1, a2, a3, s5 _ _ e1, s5 _ _ e2, off nc, off m1, off m2⟩
  clear e1 e2 s4 D
  rintro σ D ⟨c, dc, p3, n3, rfl, s4, a1, a2, a3, e1, e2, o1, o2, o3⟩
  refine seq_mid (fun σ D => σ = [some v, some u, some (.int one), some (.ref p), some (.ref ra), some (.ref ll), some (.ref N), o7, o8, some (.ref ya), some (.ref za), some (.ref h1), some (.ref h2), some (.ref c)] ∧ Same C' D ∧ D c = some (.ins (He.ga K "Cover") dc (coverF p3 n3)) ∧ D p3 = some (.lst (r.map countV)) ∧ D n3 = some (.lst (l.map V.int)) ∧ D h2 = some (.lst (l.map V.int))) (fun Kx yes2 => ?_) ?_
  · walk_at "rd"
    have x1 : ∀ {z : Addr}, z ∉ [h1, h2] → z ≠ h1 := fun h q => h (by rw [q]; simp)
    refine ⟨.inl ⟨rfl, _, SqL.of e1⟩, h1, _, _, rfl, rfl, e1, by rw [sizeLine_eq, List.length_map]; omega, yes2 _ _ ⟨rfl, fun b o e => ?_, (upd_ne (x1 o1)).trans a1, (upd_ne (x1 o2)).trans a2, (upd_ne (x1 o3)).trans a3, (upd_ne (Ne.symm ne)).trans e2⟩⟩
    rw [upd_ne fun z => by rw [z, n1] at e; cases e]
    exact s4 _ _ e
  clear e1 e2 s4 a1 a2 a3 D
  rintro σ D ⟨rfl, s4, a1, a2, a3, e2⟩
  refine seq_mid (fun σ D => σ = [some v, some u, some (.int one), some (.ref p), some (.ref ra), some (.ref ll), some (.ref N), o7, o8, some (.ref ya), some (.ref za), some (.ref h1), some (.ref h2), some (.ref c)] ∧ Same C' D ∧ IsCov K D c r l) (fun Kx yes2 => ?_) ?_
  · walk_at "rd"
    have x1 : ∀ {z : Addr}, z ∉ [h1, h2] → z ≠ h2 := fun h q => h (by rw [q]; simp)
    refine ⟨.inl ⟨rfl, _, SqL.of e2⟩, h2, _, _, rfl, rfl, e2, by rw [sizeLine_eq, List.length_map]; omega, yes2 _ _ ⟨rfl, fun b o e => ?_, ⟨dc, p3, n3, (upd_ne (x1 o1)).trans a1, (upd_ne (x1 o2)).trans a2, (upd_ne (x1 o3)).trans a3⟩⟩⟩
    rw [upd_ne fun z => by rw [z, n2] at e; cases e]
    exact s4 _ _ e
  clear e2 s4 a1 a2 a3 D
  rintro σ D ⟨rfl, s4, ⟨dc, p3, n3, a1, a2, a3⟩⟩
  have sD := sC.trans s4
  refine seq_mid (fun σ D => σ = [some v, some u, some (.int one), some (.ref p), some (.ref ra), some (.ref ll), some (.ref N), o7, o8, some (.ref ya), some (.ref za), some (.ref h1), some (.ref h2), some (.ref c)] ∧ Same B D ∧ IsCov K D c r l) (fun Kx yes2 => ?_) ?_
  · walk_at "rd"
    refine ⟨_, _, _, a1, T.c_Cover, T.n_Cover_parts, _, rfl, ?_⟩
    refine a_neSelf (d := cntsD r) (.lst (SqL.of a2) (DpAll.cnts r)) (Dp.mono sD hd) (cnts_shaped r) ⟨_, rfl, ?_⟩
    rw [if_neg (by decide)]
    refine ⟨_, _, _, a1, T.c_Cover, T.n_Cover_numbers, _, rfl, ?_⟩
    refine a_neSelf (d := numsD l) (.lst (SqL.of a3) (DpAll.ints l)) (Dp.mono sD hd2) (shaped_ints l) ⟨_, rfl, ?_⟩
    rw [if_neg (by decide)]
    exact yes2 _ _ ⟨rfl, sD, ⟨dc, p3, n3, a1, a2, a3⟩⟩
  clear a1 a2 a3 sD s4 D
  rintro σ D ⟨rfl, sD, cov⟩
  walk_at "rd"
  unfold tMethKA
  walk_at "rd"
  obtain ⟨dc, p3, n3, a1, a2, a3⟩ := id cov
  have sH := sB.trans sD
  refine ⟨_, _, a1, rfl, ms, c, v, u, ws, js, one, r, l, rfl, cov, tk.same sH, Dp.mono (Same.hide sH _) hv, Dp.mono (Same.hide sH _) hu, ok, by omega, by omega, fun D2 s5 => ⟨big _ (by decide), fun q1 nq1 => ?_⟩⟩
  have t1 := same_new (o := HO.lst [V.bl (dueB ws js one r l)]) nq1
  have bs := bool_show (dueB ws js one r l)
  refine a_str (d := .list [.bool (dueB ws js one r l)]) (.lst (SqL.of upd_same) (.cons (.bl _) .nil)) bs.1 (by decide) bs.2 (by decide) ?_
  have s6 := s5.trans t1
  generalize upd D2 q1 (HO.lst [V.bl (dueB ws js one r l)]) = D3 at *
  refine ⟨ms, c, v, u, ws, js, one, r, l, rfl, ⟨dc, p3, n3, s6 _ _ a1, s6 _ _ a2, s6 _ _ a3⟩, tk.same (sH.trans s6), Dp.mono (Same.hide (sH.trans s6) _) hv, Dp.mono (Same.hide (sH.trans s6) _) hu, ok, by omega, by omega, okr.few, fun D4 s7 => ⟨big _ (by decide), fun q2 nq2 => ?_⟩⟩
  have t2 := same_new (o := HO.lst [V.bl (dueB ws js one r l)]) nq2
  refine a_str (d := .list [.bool (dueB ws js one r l)]) (.lst (SqL.of upd_same) (.cons (.bl _) .nil)) bs.1 (by decide) bs.2 (by decide) ⟨rfl, ?_⟩
  rw [decide_eq_true rfl, if_neg (by decide)]
  exact yesz _ _ _ ⟨_, _, _, _, rfl, sD.trans (s6.trans (s7.trans t2))⟩
end
end Pb

/-! V7 -/
set_option Elab.async false
set_option linter.all false
set_option maxRecDepth 100000
set_option maxHeartbeats 4000000
namespace Pb
open PySem PySem.Spec PyProof.Rows L2
open C8 (Cal Mak Met pe_c pe_mk pe_mt pe_mt0 pe_gc fnScope_by)
/-! short words -/
local macro_rules | `(tactic| walk_at "rd") => `(tactic| try simp only [tVar, tC, tAdd, tSub, t2I, tIsN, tNotN, tB, tAnd, tOr, tNot, tAndV, tOrV, tNotV, tIf, tSeq, tPar, tPar3, tNext, tBreak, tCont, tDrop, tRet, tRetN, tIfS, gName, gNil, gCons, gTup, gSub, tAsg, tAug, ipI, iList, iTup, iRng1, iRng2, iStr, iEnum, iZip,
  tOp, tUn, rI, rI0, rU, tTest, tChain, tFld, sFld, sFldAug, L2.rAdd, L2.rSub, tNil, tCons, tTup, tLst, tCall, tMeth, tMake, tCB, tNoPart, tPart, tSl, tBM0, tBM, tDGet, tDGet1, tDGet2, tDIn, tDNotIn, sDPut, tDNewK, rEq, rNe, scal_ii, scal_ss, scal_bb, scal_nn, scal_ni, scal_in, scal_ns, scal_sn, scal_is, scal_si, List.take_succ_cons, List.take_zero, List.drop_succ_cons, List.drop_zero, upd_same, upd_upd, and_assoc, tKGet, gStar, tDisp, tPairs, tYes,
  L2.start, List.map_cons, List.map_nil, List.length_cons, List.length_nil, List.cons_append, List.nil_append, List.append_nil, List.replicate, Nat.sub_self, Nat.add_sub_cancel, Nat.reduceAdd, Nat.reduceSub, List.set_cons_zero, List.set_cons_succ, List.getElem?_cons_zero, List.getElem?_cons_succ,
  Option.some.injEq, V.int.injEq, V.bl.injEq, V.str.injEq, V.ref.injEq, exists_eq_left', exists_eq_left, exists_eq', exists_eq, true_and, and_true, if_true, if_false, Bool.false_eq_true, List.cons.injEq, Bool.not_true, Bool.not_false, cxK, cxP, cxW, ite_true, ite_false, wipe, reduceCtorEq, and_self, decide_true, decide_false, exists_and_left, exists_const, decide_eq_true_eq])
local macro_rules | `(tactic| walk_at "len") => `(tactic| (intro vs H Q E h; repeat (first | (obtain ⟨e, _⟩ := h; subst e; rfl) | (obtain ⟨_, h⟩ := h))))
local macro_rules | `(tactic| walk_at "wd") => `(tactic| simp (config := {decide := true}) only [V.str.injEq, scal_ss, true_and, if_true, if_false])

/-! the law's own look at a cover told (k04) -/
section
variable {ws : List Str} {js : List Join} {one : Int}
theorem num_range (ok : CovOk ws js one) : ∀ (k a : Nat), a + k = ws.length → 0 ≤ (cvNums ws js one).getD a 0 ∧ (cvNums ws js one).getD a 0 ≤ 9 * k
  | 0, a, h => by
    have : a = ws.length := by omega
    subst this
    rw [num_end]
    exact ⟨by decide, by decide⟩
  | k + 1, a, h => by
    have ha : a < ws.length := by omega
    obtain ⟨low, p, hp, e, _, hfit⟩ := num_low (one := one) ok.joins ha
    have fit := parts_fit (one := one) ha (fun j hj => by have := (ok.joins j hj).row.lo; omega)
    have h1 := num_range ok k (a + 1) (by omega)
    have m0 : (none, 1, one) ∈ partsAt ws js one a := by
      unfold partsAt
      rw [if_pos ha]
      simp
    have l0 := low _ m0
    have c1 := ok.one
    refine ⟨?_, by
      have : (cvNums ws js one).getD a 0 ≤ one + (cvNums ws js one).getD (a + 1) 0 := l0
      omega⟩
    have hc : 0 ≤ p.2.2 := by
      have : (p.1, p.2.1, p.2.2) ∈ partsAt ws js one a := hp
      unfold partsAt at this
      rcases List.mem_append.mp this with z | z
      · rw [if_pos ha] at z
        have := List.mem_singleton.mp z
        have e2 : p.2.2 = one := congrArg (fun q : Part => q.2.2) this
        omega
      · obtain ⟨k2, j, _, e2, _, e4⟩ := joins_all z
        have := (ok.joins j (List.mem_of_getElem? e2)).cost
        omega
    have hfit2 := (fit p hp).1
    have h2 := num_range ok (ws.length - (a + p.2.1)) (a + p.2.1) (by omega)
    omega
termination_by k => k
theorem walk_mem {best : List (Option Nat × Nat)} : ∀ {f a : Nat} {c : Option Nat}, c ∈ cvWalk best f a → ∃ i : Nat, ∃ p : Option Nat × Nat, best[i]? = some p ∧ p.1 = c
  | 0, _, _, h => nomatch h
  | f + 1, a, c, h => by
    rw [cvWalk] at h
    cases e : best[a]? with
    | none => rw [e] at h; cases h
    | some p =>
      rw [e] at h
      rcases List.mem_cons.mp h with z | z
      · exact ⟨a, p, e, z.symm⟩
      · exact walk_mem z
theorem walk_len {best : List (Option Nat × Nat)} : ∀ {f a : Nat}, (cvWalk best f a).length ≤ f
  | 0, _ => Nat.le_refl _
  | f + 1, a => by
    rw [cvWalk]
    cases best[a]? with
    | none => exact Nat.zero_le _
    | some p =>
      have := walk_len (best := best) (f := f) (a := a + p.2)
      show (cvWalk best f (a + p.2)).length + 1 ≤ f + 1
      omega
theorem parts_few (ok : CovOk ws js one) : ∀ k, some k ∈ cvParts ws js one → k ≤ 9 := fun k hk => by
  obtain ⟨i, p, e, ec⟩ := walk_mem hk
  have hi := (List.getElem?_eq_some_iff.mp e).1
  unfold cvBest at hi
  rw [cv_len2] at hi
  obtain ⟨_, q, hq, _, e2, _⟩ := num_low (one := one) ok.joins hi
  rw [e] at e2
  cases e2
  replace ec : q.1 = some k := ec
  have : (q.1, q.2.1, q.2.2) ∈ partsAt ws js one i := hq
  unfold partsAt at this
  rcases List.mem_append.mp this with z | z
  · rw [if_pos hi] at z
    have := congrArg (fun q : Part => q.1) (List.mem_singleton.mp z)
    replace this : q.1 = none := this
    rw [ec] at this
    cases this
  · obtain ⟨k2, j, e1, e3, _⟩ := joins_all z
    rw [ec] at e1
    cases e1
    have := (List.getElem?_eq_some_iff.mp e3).1
    have := ok.few
    omega
end
theorem joins_shaped {js : List Join} (h : ∀ j ∈ js, JoinOk j) : Shp 3 (joinsD js) := shp_list (n := 2) fun d hd => by
  obtain ⟨j, hj, rfl⟩ := List.mem_map.mp hd
  refine shp_tup (n := 1) fun d hd => ?_
  simp only [List.mem_cons, List.not_mem_nil, or_false] at hd
  rcases hd with rfl | rfl
  · refine shp_tup (n := 0) fun d hd => ?_
    obtain ⟨x, hx, rfl⟩ := List.mem_map.mp hd
    exact shp_str (words_ok ((h j hj).row.all x hx))
  · exact shp_int
theorem words_shp {ws : List Str} (h : ∀ x ∈ ws, x ∈ c_WORDS) : Shp 3 (wordsD ws) := (shp_list (n := 0) fun d hd => by
  obtain ⟨x, hx, rfl⟩ := List.mem_map.mp hd
  exact shp_str (words_ok (h x hx))).mono (by decide)
theorem pair_shaped {ws : List Str} {js : List Join} {one : Int} (ok : CovOk ws js one) : SeqAt.shaped (.tuple [wordsD ws, joinsD js]) = true := shaped_of (n := 4) (shp_tup (n := 3) fun d hd => by
  simp only [List.mem_cons, List.not_mem_nil, or_false] at hd
  rcases hd with rfl | rfl
  · exact words_shp ok.words.all
  · exact joins_shaped ok.joins) (by decide)
theorem int_show {m : Int} (h0 : 0 ≤ m) (h1 : m ≤ 400) : Sho 50 (.list [.int m]) ∧ Shp 2 (.list [.int m]) := by
  refine ⟨?_, (shp_list (n := 0) fun d hd => by rw [List.mem_singleton.mp hd]; exact shp_int).mono (by decide)⟩
  have := sho_list (n := 11) (ds := [.int m]) fun d hd => by rw [List.mem_singleton.mp hd]; exact sho_int (by omega) (by omega)
  exact this.mono (by show 1 * (11 + 2) + 2 ≤ 50; decide)
abbrev Lot : Type := List Str × List Join × Int
def lotD (o : Lot) : PyData := .tuple [wordsD o.1, joinsD o.2.1, .int o.2.2]
def sp__law_right (K : PySem.W.Frag) : Sp := fun vs H Q _ => ∃ v u ov ws js one, ∃ others : List Lot, vs = [v, u, .int one, ov] ∧ Dp K (hide H [covT K]) v (wordsD ws) ∧ Dp K (hide H [covT K]) u (joinsD js) ∧ Dp K (hide H [covT K]) ov (.list (others.map lotD)) ∧ CovOk ws js one ∧ (∀ o ∈ others, CovOk o.1 o.2.1 o.2.2) ∧ LamX.TabS H (covT K) covL ∧ ∀ H', Sx [covT K] H H' → LamX.TabS H' (covT K) covL → Q (.bl true) H'
section
variable {P : Program} {w : World} {K : PySem.W.Frag} {mg : Str → Option Value} {base : Heap}
theorem ok_right (T : Tx w K mg) (F_covered : KDef P w K mg base 4 "covered" (sp_covered K) ["words", "joins", "one"] s_covered [("one", .int 3)]) (F_Cover_shows : KMet P w K mg base 2 (He.ga K "Cover") "shows" (sp_Cover_shows K) ["self", "words", "joins", "one"] s_Cover_shows "Cover.shows" [("one", .int 3)]) (F__law_least : Cal P w K mg base 2 "_law_least" (sp__law_least K) []) (F__law_due : GCal P w K mg base 2 "_law_due" (sp__law_due K)) (F__law_hand_right : GCal P w K mg base 3 "_law_hand_right" (sp__law_hand_right K)) : GCal P w K mg base 5 "_law_right" (sp__law_right K) := by
  refine gcal_of T.D__law_right T.g__law_right sc__law_right (fun _ _ _ _ _ _ us hl => match us, hl with | [_, _, _, _], _ => rfl) (by walk_at "len") fun cdv A outer s H vs Q E hs hr h => ?_
  refine ⟨_, (pss_cons (ps_par (i := 4) (j := 5) rfl sc__law_right.nd rfl rfl (by decide) rfl rfl (pa_cons (pe_callTy (r := rListOf K) call_listOf (by rfl) T.b_list (by decide +kernel) (pa_cons (pv 0) pa_nil)) (pa_cons (pe_callTy (r := rListOf K) call_listOf (by rfl) T.b_list (by decide +kernel) (pa_cons (pv 1) pa_nil)) pa_nil)) rfl)
    (pss_cons (ps_set (i := 6) sc__law_right.nd rfl (by first | exact Or.inl rfl | exact Or.inr rfl) (pe_callKD F_covered hr (by decide) (by rfl) 2 ["one"] [] (fun us mv ws => (us ++ ws)) (fun z => by cases z) (fun q hq => by simp at hq) (fun r1 r2 r3 => (r1.append r3)) (fun _ _ _ _ _ _ us mv ws l1 l2 l3 => match us, mv, ws, l1, l2, l3 with | [_, _], [], [_], _, _, _ => (by (show _ = _); rfl)) (pa_cons (pv 4) (pa_cons (pv 5) pa_nil)) (pk_cons (pv 2) pk_nil)))
    (pss_cons (ps_if (PW.pt (pw_or (pt_cmpR (r := rNeD K) (op_neD hr.units) (pe_tup (pa_cons (pv 4) (pa_cons (pv 5) pa_nil))) (pe_tup (pa_cons (pv 0) (pa_cons (pv 1) pa_nil))) (nomark _)) (pw_or (pt_not (pt_val (pe_callB (r := rIsi K) call_isi (by rfl) T.b_isinstance (by decide +kernel) (pa_cons (pv 6) (pa_cons (pe_gc (v := .ref (He.ga K "Answer")) (by rfl) ⟨_, T.g_Answer, rfl⟩) pa_nil))))) (pw_or1 (pt_not (pt_val (pe_callB (r := rIsi K) call_isi (by rfl) T.b_isinstance (by decide +kernel) (pa_cons (pv 6) (pa_cons (pe_gc (v := .ref (He.ga K "Cover")) (by rfl) ⟨_, T.g_Cover, rfl⟩) pa_nil))))))))) (pss_one (ps_ret pe_bl)) pss_nil)
    (pss_cons (ps_if (PW.pt (pw_or (pt_not (pt_val (pe_cG F__law_due hs hr (by decide) (by rfl) (pa_cons (pv 0) (pa_cons (pv 1) (pa_cons (pv 2) (pa_cons (pv 6) pa_nil))))))) (pw_or1 (pt_cmpR op_ne (pe_callTy (r := rStrD K) (call_strD hs hr) (by rfl) T.b_str (by decide +kernel) (pa_cons (pe_lst (pa_cons (pe_ix (r := rIx K) ix_seq (pe_fldK (K := K) (pv 6) rfl) pe_int (fun _ _ => rfl)) pa_nil)) pa_nil)) (pe_callTy (r := rStrD K) (call_strD hs hr) (by rfl) T.b_str (by decide +kernel) (pa_cons (pe_lst (pa_cons (pe_ix (r := rIx K) ix_seq (pe_c F__law_least hr (by decide) (by rfl) (pa_cons (pv 0) (pa_cons (pv 1) (pa_cons (pv 2) pa_nil)))) pe_int (fun _ _ => rfl)) pa_nil)) pa_nil)) (nomark _))))) (pss_one (ps_ret pe_bl)) pss_nil)
    (pss_cons (ps_if (PW.pt (pw_or (pt_cmpR op_notT (pe_mtKA F_Cover_shows hr (by decide) (pv 6) 2 ["one"] [] (fun us mv ws => (us ++ ws)) (fun z => by cases z) (fun q hq => by simp at hq) (fun r1 r2 r3 => (r1.append r3)) (fun _ _ _ _ _ _ us mv ws l1 l2 l3 => match us, mv, ws, l1, l2, l3 with | [_, _, _], [], [_], _, _, _ => (by (show _ = _); rfl)) (pa_cons (pv 0) (pa_cons (pv 1) pa_nil)) (pk_cons (pv 2) pk_nil)) pe_bl (nomark _)) (pw_or1 (pt_not (pt_val (pe_cG F__law_hand_right hs hr (by decide) (by rfl) (pa_cons (pv 0) (pa_cons (pv 1) (pa_cons (pv 2) (pa_cons (pv 6) pa_nil)))))))))) (pss_one (ps_ret pe_bl)) pss_nil)
    (pss_cons (ps_for PassesOwn.never rfl (pi_listK (K := K) (pv 3)) (pg_name (i := 7) sc__law_right.nd rfl (by first | exact Or.inl rfl | exact Or.inr rfl)) (pss_one (ps_if (pt_cmpR op_ne (pe_callTy (r := rStrD K) (call_strD hs hr) (by rfl) T.b_str (by decide +kernel) (pa_cons (pe_lst (pa_cons (pe_mtKA F_Cover_shows hr (by decide) (pv 6) 2 ["one"] [] (fun us mv ws => (us ++ ws)) (fun z => by cases z) (fun q hq => by simp at hq) (fun r1 r2 r3 => (r1.append r3)) (fun _ _ _ _ _ _ us mv ws l1 l2 l3 => match us, mv, ws, l1, l2, l3 with | [_, _, _], [], [_], _, _, _ => (by (show _ = _); rfl)) (pa_cons (pe_ix (r := rIx K) ix_seq (pv 7) pe_int (fun _ _ => rfl)) (pa_cons (pe_ix (r := rIx K) ix_seq (pv 7) pe_int (fun _ _ => rfl)) pa_nil)) (pk_cons (pe_ix (r := rIx K) ix_seq (pv 7) pe_int (fun _ _ => rfl)) pk_nil)) pa_nil)) pa_nil)) (pe_callTy (r := rStrD K) (call_strD hs hr) (by rfl) T.b_str (by decide +kernel) (pa_cons (pe_lst (pa_cons (pe_cG F__law_due hs hr (by decide) (by rfl) (pa_cons (pe_ix (r := rIx K) ix_seq (pv 7) pe_int (fun _ _ => rfl)) (pa_cons (pe_ix (r := rIx K) ix_seq (pv 7) pe_int (fun _ _ => rfl)) (pa_cons (pe_ix (r := rIx K) ix_seq (pv 7) pe_int (fun _ _ => rfl)) (pa_cons (pv 6) pa_nil))))) pa_nil)) pa_nil)) (nomark _)) (pss_one (ps_ret pe_bl)) pss_nil)))
    (pss_cons (ps_if (PW.pt (pw_and (pt_cmpR op_eq (pv 2) pe_int (nomark _)) (pw_and1 (pt_cmpR op_ne (pe_ix (r := rIx K) ix_seq (pe_fldK (K := K) (pe_callKD F_covered hr (by decide) (by rfl) 2 [] [("one", .int 3)] (fun us mv ws => (us ++ mv)) (fun z => by cases z) (fun q hq => by simp at hq ⊢; simp [hq]) (fun r1 r2 r3 => (r1.append r2)) (fun _ _ _ _ _ _ us mv ws l1 l2 l3 => match us, mv, ws, l1, l2, l3 with | [_, _], [_], [], _, _, _ => (by (refine ⟨_, _, _, _, _, _, rfl, rfl, ?_⟩); (show _ = _); rfl)) (pa_cons (pv 0) (pa_cons (pv 1) pa_nil)) pk_nil) rfl) pe_int (fun _ _ => rfl)) (pe_ix (r := rIx K) ix_seq (pe_fldK (K := K) (pv 6) rfl) pe_int (fun _ _ => rfl)) (nomark _))))) (pss_one (ps_ret pe_bl)) pss_nil)
    (pss_one (ps_ret (pe_or (pe_cmpR op_ne (pv 2) pe_int (nomark _)) (pe_one (pe_cmpR op_isT (pe_mtKA F_Cover_shows hr (by decide) (pe_callKD F_covered hr (by decide) (by rfl) 2 [] [("one", .int 3)] (fun us mv ws => (us ++ mv)) (fun z => by cases z) (fun q hq => by simp at hq ⊢; simp [hq]) (fun r1 r2 r3 => (r1.append r2)) (fun _ _ _ _ _ _ us mv ws l1 l2 l3 => match us, mv, ws, l1, l2, l3 with | [_, _], [_], [], _, _, _ => (by (refine ⟨_, _, _, _, _, _, rfl, rfl, ?_⟩); (show _ = _); rfl)) (pa_cons (pv 0) (pa_cons (pv 1) pa_nil)) pk_nil) 2 [] [("one", .int 3)] (fun us mv ws => (us ++ mv)) (fun z => by cases z) (fun q hq => by simp at hq ⊢; simp [hq]) (fun r1 r2 r3 => (r1.append r2)) (fun _ _ _ _ _ _ us mv ws l1 l2 l3 => match us, mv, ws, l1, l2, l3 with | [_, _, _], [_], [], _, _, _ => (by (refine ⟨_, _, _, _, _, _, rfl, rfl, ?_⟩); (show _ = _); rfl)) (pa_cons (pv 0) (pa_cons (pv 1) pa_nil)) pk_nil) pe_bl (nomark _))))))))))))), ?_⟩
  obtain ⟨v, u, ov, ws, js, one, others, rfl, hv, hu, ho, ok, oko, tab, k⟩ := h
  have big : ∀ n : Nat, n ≤ 1000000 → n ≤ sizeLine := fun n h => by rw [sizeLine_eq]; omega
  have tkT : ∀ {A : Hp}, LamX.TabS A (covT K) covL → Tk A [covT K] := fun t => by
    obtain ⟨_, e, _⟩ := t
    exact Tk.cons e Tk.nil
  have hsub : ∀ {A B : Hp}, Sx [covT K] A B → Same (hide A [covT K]) (hide B [covT K]) := fun s => Sx.hide s fun _ h => h
  obtain ⟨wa, wx, rfl, hwl, hwa⟩ := dp_list hv
  obtain ⟨ja, jx, rfl, hjl, hja⟩ := dp_list hu
  refine seq_mid (fun σ A => ∃ h1 h2, σ = [some (.ref wa), some (.ref ja), some (.int one), some ov, some (.ref h1), some (.ref h2), none, none] ∧ Same H A ∧ Dp K (hide A [covT K]) (.ref h1) (wordsD ws) ∧ Dp K (hide A [covT K]) (.ref h2) (joinsD js)) (fun Kx yes => ?_) ?_
  · walk_at "rd"
    refine ⟨wa, wx, rfl, .inl (sqL_same same_show hwl), fun h1 n1 => ?_⟩
    have t1 := same_new (o := HO.lst wx) n1
    have y1 := a_newL (K := K) (tkT tab) n1 hwa
    have tab1 := tab.ext t1
    have hja1 := DpAll.mono (Same.hide t1 [covT K]) hja
    generalize upd H h1 (HO.lst wx) = A1 at *
    refine ⟨ja, jx, rfl, .inl (sqL_same (same_show.trans t1) hjl), fun h2 n2 => ?_⟩
    have t2 := same_new (o := HO.lst jx) n2
    exact yes _ _ ⟨h1, h2, rfl, t1.trans t2, Dp.mono (Same.hide t2 _) y1, a_newL (K := K) (tkT tab1) n2 hja1⟩
  rintro σ A ⟨h1, h2, rfl, s1, d1, d2⟩
  have tabA := tab.ext s1
  have dueT : dueB ws js one (cvParts ws js one) (cvNums ws js one) = true := due_cover ok.joins
  have nr := num_range ok ws.length 0 (by omega)
  have hw := ok.words.hi
  have pfew := parts_few ok
  have plen : (cvParts ws js one).length ≤ 40 := Nat.le_trans walk_len hw
  have nlen : (cvNums ws js one).length = ws.length + 1 := by unfold cvNums; rw [cv_len1]
  refine seq_mid (fun σ B => ∃ q, σ = [some (.ref wa), some (.ref ja), some (.int one), some ov, some (.ref h1), some (.ref h2), some (.ref q), none] ∧ Sx [covT K] A B ∧ LamX.TabS B (covT K) covL ∧ IsCov K B q (cvParts ws js one) (cvNums ws js one)) (fun Kx yes => ?_) ?_
  · walk_at "rd"
    unfold L2.tCallN
    walk_at "rd"
    exact ⟨.ref h1, .ref h2, ws, js, one, rfl, d1, d2, ok, tabA, fun B q dx pl nl sx tabB nq aq npl nnl nn apl anl => yes _ _ ⟨q, rfl, sx, tabB, dx, pl, nl, aq, apl, anl⟩⟩
  rintro σ B ⟨q, rfl, sx, tabB, cov⟩
  have sHB : Sx [covT K] H B := (Sx.of s1).trans sx
  have hvB : Dp K (hide B [covT K]) (.ref wa) (wordsD ws) := Dp.mono (hsub sHB) (.lst hwl hwa)
  have huB : Dp K (hide B [covT K]) (.ref ja) (joinsD js) := Dp.mono (hsub sHB) (.lst hjl hja)
  have hoB := Dp.mono (hsub sHB) ho
  have d1B := Dp.mono (hsub sx) d1
  have d2B := Dp.mono (hsub sx) d2
  generalize hP : cvParts ws js one = parts at *
  generalize hN : cvNums ws js one = nums at *
  have cm : ∀ {C : Hp}, Same B C → IsCov K C q parts nums := fun s => by
    obtain ⟨dx, pl, nl, a, b, c⟩ := cov
    exact ⟨dx, pl, nl, s _ _ a, s _ _ b, s _ _ c⟩
  refine seq_mid (fun σ C => σ = [some (.ref wa), some (.ref ja), some (.int one), some ov, some (.ref h1), some (.ref h2), some (.ref q), none] ∧ Same B C) (fun Kx yes => ?_) ?_
  · walk_at "rd"
    refine ⟨big _ (by decide), fun p1 np1 => ⟨big _ (by decide), fun p2 np2 => ?_⟩⟩
    have t1 := same_new (o := HO.tup [V.ref h1, V.ref h2]) np1
    have t2 := same_new (o := HO.tup [V.ref wa, V.ref ja]) np2
    have e1 := t2 _ _ (show upd B p1 (HO.tup [V.ref h1, V.ref h2]) p1 = some (.tup [.ref h1, .ref h2]) from upd_same)
    have e2 : upd (upd B p1 (HO.tup [V.ref h1, V.ref h2])) p2 (HO.tup [V.ref wa, V.ref ja]) p2 = some (.tup [.ref wa, .ref ja]) := upd_same
    have t12 := t1.trans t2
    generalize upd (upd B p1 (HO.tup [V.ref h1, V.ref h2])) p2 (HO.tup [V.ref wa, V.ref ja]) = C at *
    have up : ∀ {x : V} {d : PyData}, Dp K (hide B [covT K]) x d → Dp K C x d := fun h => Dp.mono (same_show.trans t12) h
    refine a_neSelf (d := .tuple [wordsD ws, joinsD js]) (.tup (SqT.of e1) (.cons (up d1B) (.cons (up d2B) .nil))) (.tup (SqT.of e2) (.cons (up hvB) (.cons (up huB) .nil))) (pair_shaped ok) ⟨_, rfl, ?_⟩
    rw [if_neg (by decide)]
    obtain ⟨dx, pl, nl, a, _, _⟩ := cm t12
    refine a_isO a T.c_Cover T.i_Cover T.q_Cover_Answer ⟨_, rfl, ?_⟩
    rw [if_neg (by decide)]
    refine a_isO a T.c_Cover T.i_Cover T.q_Cover_Cover ⟨_, rfl, ?_⟩
    rw [if_neg (by decide)]
    exact yes _ _ ⟨rfl, t12⟩
  rintro σ C ⟨rfl, s3⟩
  refine seq_mid (fun σ C => σ = [some (.ref wa), some (.ref ja), some (.int one), some ov, some (.ref h1), some (.ref h2), some (.ref q), none] ∧ Same B C) (fun Kx yes => ?_) ?_
  · walk_at "rd"
    refine ⟨[covT K], q, _, _, ws, js, one, parts, nums, rfl, cm s3, tkT (tabB.ext s3), Dp.mono (Same.hide s3 _) hvB, Dp.mono (Same.hide s3 _) huB, ok, by omega, by omega, pfew, fun D s4 => ⟨_, rfl, ?_⟩⟩
    rw [dueT, if_neg (by decide)]
    obtain ⟨dx, pl, nl, a1, a2, a3⟩ := cm (s3.trans s4)
    have n0 : atI (nums.map V.int) 0 = some (.int (nums.getD 0 0)) := atI_natc (i := 0) (by rw [List.getElem?_map, List.getElem?_eq_getElem (by omega), List.getD_eq_getElem?_getD, List.getElem?_eq_getElem (by omega)]; rfl)
    have sh := int_show nr.1 (by omega : nums.getD 0 0 ≤ 400)
    refine ⟨_, _, _, a1, T.c_Cover, T.n_Cover_numbers, _, rfl, a_ixV (SqL.of a3) n0 ⟨big _ (by decide), fun p1 np1 => ?_⟩⟩
    refine a_str (d := .list [.int (nums.getD 0 0)]) (.lst (SqL.of upd_same) (.cons (.int _) .nil)) sh.1 (by decide) sh.2 (by decide) ?_
    have t1 := same_new (o := HO.lst [V.int (nums.getD 0 0)]) np1
    generalize upd D p1 (HO.lst [V.int (nums.getD 0 0)]) = D1 at *
    have s5 := s3.trans (s4.trans t1)
    refine ⟨[covT K], _, _, ws, js, one, rfl, tkT (tabB.ext s5), Dp.mono (Same.hide s5 _) hvB, Dp.mono (Same.hide s5 _) huB, ok, fun D2 f s6 nf ef => ?_⟩
    rw [hN] at ef
    refine a_ixV (SqL.of ef) n0 ⟨big _ (by decide), fun p2 np2 => ?_⟩
    have t2 := same_new (o := HO.lst [V.int (nums.getD 0 0)]) np2
    refine a_str (d := .list [.int (nums.getD 0 0)]) (.lst (SqL.of upd_same) (.cons (.int _) .nil)) sh.1 (by decide) sh.2 (by decide) ⟨rfl, ?_⟩
    rw [decide_eq_true rfl, if_neg (by decide)]
    exact yes _ _ ⟨rfl, s5.trans (s6.trans t2)⟩
  clear s3 C
  rintro σ C ⟨rfl, s3⟩
  refine seq_mid (fun σ C => σ = [some (.ref wa), some (.ref ja), some (.int one), some ov, some (.ref h1), some (.ref h2), some (.ref q), none] ∧ Same B C) (fun Kx yes => ?_) ?_
  · walk_at "rd"
    unfold tMethKA
    walk_at "rd"
    obtain ⟨dx, pl, nl, a1, a2, a3⟩ := cm s3
    refine ⟨_, _, a1, rfl, [covT K], q, _, _, ws, js, one, parts, nums, rfl, cm s3, tkT (tabB.ext s3), Dp.mono (Same.hide s3 _) hvB, Dp.mono (Same.hide s3 _) huB, ok, by omega, by omega, fun D s4 => ⟨_, rfl, rfl, ?_⟩⟩
    have s34 := s3.trans s4
    refine ⟨_, rfl, ?_⟩
    rw [dueT, if_neg (by decide)]
    refine ⟨[covT K], q, _, _, ws, js, one, parts, nums, rfl, cm s34, tkT (tabB.ext s34), Dp.mono (Same.hide s34 _) hvB, Dp.mono (Same.hide s34 _) huB, ok, by omega, by omega, pfew, fun D2 s5 => ⟨_, rfl, ?_⟩⟩
    rw [if_neg (by decide)]
    exact yes _ _ ⟨rfl, s34.trans s5⟩
  clear s3 C
  rintro σ C ⟨rfl, s3⟩
  obtain ⟨oa, ox, rfl, hol, hoa⟩ := dp_list hoB
  have olen := DpAll.length hoa
  rw [List.length_map] at olen
  refine seq_mid (fun σ C => ∃ o7, σ = [some (.ref wa), some (.ref ja), some (.int one), some (.ref oa), some (.ref h1), some (.ref h2), some (.ref q), o7] ∧ Same B C) (fun Kx yes => ?_) ?_
  · refine a_for ?_
    walk_at "rd"
    refine ⟨⟨ox, sqL_same (same_show.trans s3) hol⟩, ?_⟩
    refine for_go2 walk_list (fun i σ C => ∃ o7, σ = [some (.ref wa), some (.ref ja), some (.int one), some (.ref oa), some (.ref h1), some (.ref h2), some (.ref q), o7] ∧ Same B C) ⟨_, rfl, s3⟩ (fun i σ C _ z => by
      obtain ⟨_, _, z⟩ := z
      exact sqL_same (same_show.trans z) hol) ?_ (fun σ C z => by
      obtain ⟨_, rfl, z⟩ := z
      exact yes _ _ ⟨_, rfl, z⟩)
    clear s3 C
    rintro Pw yes1 i y σ C C' hi ⟨o7, rfl, s3⟩ ⟨e0, ey⟩
    subst e0
    obtain ⟨d, ed, hd⟩ := DpAll.at hoa ey
    rw [olen] at hi
    rw [List.getElem?_map, List.getElem?_eq_getElem hi] at ed
    cases ed
    have okx := oko _ (List.getElem_mem hi)
    generalize others[i] = lot at *
    obtain ⟨tq, u1, u2, u3, rfl, htq, f1, f2, f3⟩ := dp_t3 hd
    cases f3
    refine g_name ?_
    walk_at "rd"
    unfold tMethKA
    walk_at "rd"
    obtain ⟨dx, pl, nl, a1, a2, a3⟩ := id (cm s3)
    have it : ∀ {D : Hp} {j : Int} {x : V} {R : VK}, Same B D → atI [u1, u2, V.int lot.2.2] j = some x → R x D → rIx K (.ref tq) (.int j) D R := fun s e r => a_ixTV (sqT_same (same_show.trans s) htq) e r
    refine ⟨_, _, a1, rfl, it s3 atI_0 (it s3 atI_1 (it s3 atI_2 ?_))⟩
    refine ⟨[covT K], q, u1, u2, lot.1, lot.2.1, lot.2.2, parts, nums, rfl, cm s3, tkT (tabB.ext s3), Dp.mono (Same.hide s3 _) f1, Dp.mono (Same.hide s3 _) f2, okx, by omega, by omega, fun D s4 => ⟨big _ (by decide), fun p1 np1 => ?_⟩⟩
    have bs := bool_show (dueB lot.1 lot.2.1 lot.2.2 parts nums)
    have t1 := same_new (o := HO.lst [V.bl (dueB lot.1 lot.2.1 lot.2.2 parts nums)]) np1
    refine a_str (d := .list [.bool (dueB lot.1 lot.2.1 lot.2.2 parts nums)]) (.lst (SqL.of upd_same) (.cons (.bl _) .nil)) bs.1 (by decide) bs.2 (by decide) ?_
    generalize upd D p1 (HO.lst [V.bl (dueB lot.1 lot.2.1 lot.2.2 parts nums)]) = D1 at *
    have s5 := s3.trans (s4.trans t1)
    refine it s5 atI_0 (it s5 atI_1 (it s5 atI_2 ?_))
    refine ⟨[covT K], q, u1, u2, lot.1, lot.2.1, lot.2.2, parts, nums, rfl, cm s5, tkT (tabB.ext s5), Dp.mono (Same.hide s5 _) f1, Dp.mono (Same.hide s5 _) f2, okx, by omega, by omega, pfew, fun D2 s6 => ⟨big _ (by decide), fun p2 np2 => ?_⟩⟩
    have t2 := same_new (o := HO.lst [V.bl (dueB lot.1 lot.2.1 lot.2.2 parts nums)]) np2
    refine a_str (d := .list [.bool (dueB lot.1 lot.2.1 lot.2.2 parts nums)]) (.lst (SqL.of upd_same) (.cons (.bl _) .nil)) bs.1 (by decide) bs.2 (by decide) ⟨rfl, ?_⟩
    rw [decide_eq_true rfl, if_neg (by decide)]
    exact yes1 _ _ _ ⟨_, rfl, s5.trans (s6.trans t2)⟩
  clear s3 C
  rintro σ C ⟨o7, rfl, s3⟩
  have n0 : atI (nums.map V.int) 0 = some (.int (nums.getD 0 0)) := atI_natc (i := 0) (by rw [List.getElem?_map, List.getElem?_eq_getElem (by omega), List.getD_eq_getElem?_getD, List.getElem?_eq_getElem (by omega)]; rfl)
  refine seq_mid (fun σ C => σ = [some (.ref wa), some (.ref ja), some (.int one), some (.ref oa), some (.ref h1), some (.ref h2), some (.ref q), o7] ∧ Sx [covT K] B C ∧ LamX.TabS C (covT K) covL) (fun Kx yes => ?_) ?_
  · walk_at "rd"
    unfold L2.tCallN
    walk_at "rd"
    rcases Decidable.em (one = 3) with e3 | e3
    · subst e3
      refine iteT' rfl ⟨.ref wa, .ref ja, ws, js, 3, rfl, Dp.mono (Same.hide s3 _) hvB, Dp.mono (Same.hide s3 _) huB, ok, tabB.ext s3, fun D q2 dx2 pl2 nl2 sx2 tab2 nq2 aq2 npl2 nnl2 nn2 apl2 anl2 => ?_⟩
      rw [hN] at anl2
      obtain ⟨dx, pl, nl, a1, a2, a3⟩ := id (cm s3)
      obtain ⟨tps, atC, _⟩ := id (tabB.ext s3)
      have off : ∀ {b : Addr} {o : HO}, C b = some o → (∀ ps, o ≠ .tbl ps) → D b = some o := fun {b o} e n => sx2 _ _ (fun z => by
        rw [List.mem_singleton.mp z, atC] at e
        exact n _ (Option.some.inj e).symm) e
      refine ⟨q2, rfl, _, _, _, aq2, T.c_Cover, T.n_Cover_numbers, _, rfl, a_ixV (SqL.of anl2) n0 ?_⟩
      refine ⟨_, _, _, off a1 (fun _ z => nomatch z), T.c_Cover, T.n_Cover_numbers, _, rfl, a_ixV (SqL.of (off a3 fun _ z => nomatch z)) n0 ⟨rfl, ?_⟩⟩
      rw [decide_eq_true rfl, if_neg (by decide)]
      exact yes _ _ ⟨rfl, (Sx.of s3).trans sx2, tab2⟩
    · exact iteF' e3 (yes _ _ ⟨rfl, Sx.of s3, tabB.ext s3⟩)
  clear s3 C
  rintro σ C ⟨rfl, sC, tabC⟩
  walk_at "rd"
  rcases Decidable.em (one = 3) with e3 | e3
  · subst e3
    refine iteF' (by decide) ?_
    unfold tMethKA L2.tCallN
    walk_at "rd"
    refine ⟨.ref wa, .ref ja, ws, js, 3, rfl, Dp.mono (hsub sC) hvB, Dp.mono (hsub sC) huB, ok, tabC, fun D q2 dx2 pl2 nl2 sx2 tab2 nq2 aq2 _ _ _ apl2 anl2 => ?_⟩
    rw [hP] at apl2
    rw [hN] at anl2
    refine ⟨q2, rfl, _, _, aq2, rfl, [covT K], q2, _, _, ws, js, 3, parts, nums, rfl, ⟨dx2, pl2, nl2, aq2, apl2, anl2⟩, tkT tab2, Dp.mono (hsub (sC.trans sx2)) hvB, Dp.mono (hsub (sC.trans sx2)) huB, ok, by omega, by omega, fun F s5 => ⟨_, rfl, rfl, ?_⟩⟩
    rw [dueT]
    exact k _ (sHB.trans (sC.trans (sx2.trans (Sx.of s5)))) (tab2.ext s5)
  · exact iteT' (by simpa using e3) (k _ (sHB.trans sC) tabC)
end
end Pb

/-! V8 -/
set_option Elab.async false
set_option linter.all false
set_option maxRecDepth 100000
set_option maxHeartbeats 4000000
namespace Pb
open PySem PySem.Spec PyProof.Rows L2
open C8 (Cal Mak Met pe_c pe_mk pe_mt pe_mt0 pe_gc fnScope_by)
/-! short words -/
local macro_rules | `(tactic| walk_at "rd") => `(tactic| try simp only [tVar, tC, tAdd, tSub, t2I, tIsN, tNotN, tB, tAnd, tOr, tNot, tAndV, tOrV, tNotV, tIf, tSeq, tPar, tPar3, tNext, tBreak, tCont, tDrop, tRet, tRetN, tIfS, gName, gNil, gCons, gTup, gSub, tAsg, tAug, ipI, iList, iTup, iRng1, iRng2, iStr, iEnum, iZip,
  tOp, tUn, rI, rI0, rU, tTest, tChain, tFld, sFld, sFldAug, L2.rAdd, L2.rSub, tNil, tCons, tTup, tLst, tCall, tMeth, tMake, tCB, tNoPart, tPart, tSl, tBM0, tBM, tDGet, tDGet1, tDGet2, tDIn, tDNotIn, sDPut, tDNewK, rEq, rNe, scal_ii, scal_ss, scal_bb, scal_nn, scal_ni, scal_in, scal_ns, scal_sn, scal_is, scal_si, List.take_succ_cons, List.take_zero, List.drop_succ_cons, List.drop_zero, upd_same, upd_upd, and_assoc, tKGet, gStar, tDisp, tPairs, tYes,
  L2.start, List.map_cons, List.map_nil, List.length_cons, List.length_nil, List.cons_append, List.nil_append, List.append_nil, List.replicate, Nat.sub_self, Nat.add_sub_cancel, Nat.reduceAdd, Nat.reduceSub, List.set_cons_zero, List.set_cons_succ, List.getElem?_cons_zero, List.getElem?_cons_succ,
  Option.some.injEq, V.int.injEq, V.bl.injEq, V.str.injEq, V.ref.injEq, exists_eq_left', exists_eq_left, exists_eq', exists_eq, true_and, and_true, if_true, if_false, Bool.false_eq_true, List.cons.injEq, Bool.not_true, Bool.not_false, cxK, cxP, cxW, ite_true, ite_false, wipe, reduceCtorEq, and_self, decide_true, decide_false, exists_and_left, exists_const, decide_eq_true_eq])
local macro_rules | `(tactic| walk_at "len") => `(tactic| (intro vs H Q E h; repeat (first | (obtain ⟨e, _⟩ := h; subst e; rfl) | (obtain ⟨_, h⟩ := h))))
local macro_rules | `(tactic| walk_at "wd") => `(tactic| simp (config := {decide := true}) only [V.str.injEq, scal_ss, true_and, if_true, if_false])

/-! drawn words and joins (k04) -/
def sp__law_drawn (K : PySem.W.Frag) : Sp := fun vs H Q _ => ∃ (ms : List Addr) (st sc : Addr) (by_ : Int) (ns : List Int), vs = [.ref st] ∧ st ∈ ms ∧ Tk H ms ∧ StI K H H st sc by_ ns ∧ ∀ H' t, ∀ lot : Lot, StI K H H' st sc by_ ns → H t = none → Dp K (hide H' ms) (.ref t) (lotD lot) → CovOk lot.1 lot.2.1 lot.2.2 → Q (.ref t) H'
theorem Tk.sx {H H' : Hp} {xs ms : List Addr} (tk : Tk H ms) (s : Sx xs H H') (h : ∀ x ∈ xs, H' x ≠ none) : Tk H' ms := fun m hm z => by
  by_cases e : m ∈ xs
  · exact h m e z
  · cases q : H m with
    | none => exact tk m hm q
    | some o => rw [s m o e q] at z; cases z
theorem tup_shaped {xs : List Str} (h : ∀ x ∈ xs, x ∈ c_WORDS) : SeqAt.shaped (.tuple (xs.map PyData.str)) = true := shaped_of (n := 1) (shp_tup (n := 0) fun d hd => by
  obtain ⟨x, hx, rfl⟩ := List.mem_map.mp hd
  exact shp_str (words_ok (h x hx))) (by decide)
theorem atI_nat' {α : Type} {xs : List α} {i : Int} (h0 : 0 ≤ i) (h1 : i < xs.length) : ∃ x, atI xs i = some x ∧ x ∈ xs := by
  obtain ⟨k, rfl⟩ : ∃ k : Nat, i = (k : Int) := ⟨i.toNat, by omega⟩
  have hk : k < xs.length := by omega
  exact ⟨xs[k], atI_natc (List.getElem?_eq_getElem hk), List.getElem_mem hk⟩
section
variable {P : Program} {w : World} {K : PySem.W.Frag} {mg : Str → Option Value} {base : Heap}
theorem ok_drawn (T : Tx w K mg) (F__law_next : Cal P w K mg base 3 "_law_next" (sp__law_next K) []) : Cal P w K mg base 4 "_law_drawn" (sp__law_drawn K) [] := by
  refine cal_of T.D__law_drawn T.g__law_drawn sc__law_drawn (fun _ _ _ _ _ _ us hl => match us, hl with | [_], _ => rfl) (by walk_at "len") fun cdv A outer s H vs Q E hr h => ?_
  refine ⟨_, (pss_cons (ps_set (i := 1) sc__law_drawn.nd rfl (by first | exact Or.inl rfl | exact Or.inr rfl) (pe_lst (pa_cons pe_str (pa_cons pe_str (pa_cons pe_str (pa_cons pe_str (pa_cons pe_str (pa_cons pe_str (pa_cons pe_str (pa_cons pe_str (pa_cons pe_str (pa_cons pe_str (pa_cons pe_str pa_nil)))))))))))))
    (pss_cons (ps_set (i := 2) sc__law_drawn.nd rfl (by first | exact Or.inl rfl | exact Or.inr rfl) (pe_slice (r := rSlL K) sl_list (pe_slice (r := rSlL K) sl_list (pv 1) (po_some (pe_c F__law_next hr (by decide) (by rfl) (pa_cons (pv 0) (pa_cons pe_int pa_nil)))) po_none) po_none (po_some (pe_ix (r := rIx K) ix_seq (pe_tup (pa_cons pe_int (pa_cons pe_int (pa_cons pe_int pa_nil)))) (pe_c F__law_next hr (by decide) (by rfl) (pa_cons (pv 0) (pa_cons pe_int pa_nil))) (fun _ _ => rfl)))))
    (pss_cons (ps_par (i := 3) (j := 4) rfl sc__law_drawn.nd rfl rfl (by decide) rfl rfl (pa_cons (pe_lc rfl sc__law_drawn.nd (pi_range1 (by rfl) T.b_range (pa_cons (pe_c F__law_next hr (by decide) (by rfl) (pa_cons (pv 0) (pa_cons pe_int pa_nil))) pa_nil)) (blkOk_by (own := [("_law_turn", 5)]) (N := ["_law_state", "_law_names", "_law_few", "_law_words", "_law_joins", "_law_turn", "_law_row", "_law_k", "_law_join"]) (sc := L2.defScope s__law_drawn) (by decide +kernel)) (fun _ _ _ _ _ => (pg_m (pg_name (i := 5) sc__law_drawn.nd rfl (by first | exact Or.inl rfl | exact Or.inr rfl)))) (fun _ _ _ _ _ => pts_nilM) (fun _ _ _ _ _ => (pe_m (pe_ix (r := rIx K) ix_seq (pv 2) (pe_c F__law_next hr (by decide) (by rfl) (pa_cons (pv 0) (pa_cons (pe_callB (r := rLenQ K) call_lenQ (by rfl) T.b_len (by decide +kernel) (pa_cons (pv 2) pa_nil)) pa_nil))) (fun _ _ => rfl))))) (pa_cons (pe_lst pa_nil) pa_nil)) rfl)
    (pss_cons (ps_for PassesOwn.never rfl (pi_range1 (by rfl) T.b_range (pa_cons (pe_c F__law_next hr (by decide) (by rfl) (pa_cons (pv 0) (pa_cons pe_int pa_nil))) pa_nil)) (pg_name (i := 5) sc__law_drawn.nd rfl (by first | exact Or.inl rfl | exact Or.inr rfl)) (pss_cons (ps_set (i := 6) sc__law_drawn.nd rfl (by first | exact Or.inl rfl | exact Or.inr rfl) (pe_callTy (r := rTupOf K) call_tupOf (by rfl) T.b_tuple (by decide +kernel) (pa_cons (pe_lc rfl sc__law_drawn.nd (pi_range1 (by rfl) T.b_range (pa_cons (pe_op op_add pe_int (pe_c F__law_next hr (by decide) (by rfl) (pa_cons (pv 0) (pa_cons pe_int pa_nil)))) pa_nil)) (blkOk_by (own := [("_law_k", 7)]) (N := ["_law_state", "_law_names", "_law_few", "_law_words", "_law_joins", "_law_turn", "_law_row", "_law_k", "_law_join"]) (sc := L2.defScope s__law_drawn) (by decide +kernel)) (fun _ _ _ _ _ => (pg_m (pg_name (i := 7) sc__law_drawn.nd rfl (by first | exact Or.inl rfl | exact Or.inr rfl)))) (fun _ _ _ _ _ => pts_nilM) (fun _ _ _ _ _ => (pe_m (pe_ix (r := rIx K) ix_seq (pv 2) (pe_c F__law_next hr (by decide) (by rfl) (pa_cons (pv 0) (pa_cons (pe_callB (r := rLenQ K) call_lenQ (by rfl) T.b_len (by decide +kernel) (pa_cons (pv 2) pa_nil)) pa_nil))) (fun _ _ => rfl))))) pa_nil)))
    (pss_one (ps_if (pt_cmpR (r := rInL K true) (op_notInL (u65 hr)) (pv 6) (pe_lc rfl sc__law_drawn.nd (pi_listK (K := K) (pv 4)) (blkOk_by (own := [("_law_join", 8)]) (N := ["_law_state", "_law_names", "_law_few", "_law_words", "_law_joins", "_law_turn", "_law_row", "_law_k", "_law_join"]) (sc := L2.defScope s__law_drawn) (by decide +kernel)) (fun _ _ _ _ _ => (pg_m (pg_name (i := 8) sc__law_drawn.nd rfl (by first | exact Or.inl rfl | exact Or.inr rfl)))) (fun _ _ _ _ _ => pts_nilM) (fun _ _ _ _ _ => (pe_m (pe_ix (r := rIx K) ix_seq (pv 8) pe_int (fun _ _ => rfl))))) (by rfl)) (pss_one (ps_expr (pe_bm PySem.F.plainAttrs_list PySem.F.slot_list_append PySem.F.type_list_append mt_append (pv 4) (pa_cons (pe_tup (pa_cons (pv 6) (pa_cons (pe_op op_add pe_int (pe_c F__law_next hr (by decide) (by rfl) (pa_cons (pv 0) (pa_cons pe_int pa_nil)))) pa_nil))) pa_nil)))) pss_nil))))
    (pss_one (ps_ret (pe_tup (pa_cons (pv 3) (pa_cons (pv 4) (pa_cons (pe_op op_add pe_int (pe_c F__law_next hr (by decide) (by rfl) (pa_cons (pv 0) (pa_cons pe_int pa_nil)))) pa_nil)))))))))), ?_⟩
  obtain ⟨ms, st, sc, by_, ns, rfl, hst, tk, i0, k⟩ := h
  have big : ∀ n : Nat, n ≤ 1000000 → n ≤ sizeLine := fun n h => by rw [sizeLine_eq]; omega
  have sub : ∀ a ∈ [st], a ∈ ms := fun a ha => by rw [List.mem_singleton.mp ha]; exact hst
  have hid : ∀ {A B : Hp}, StI K A B st sc by_ ns → Same (hide A ms) (hide B ms) := fun j => j.s0.hide sub
  have tkj : ∀ {A : Hp}, StI K H A st sc by_ ns → Tk A ms := fun i => tk.sx i.s0 fun x hx => by
    obtain ⟨k0, _, e⟩ := i.now
    rw [List.mem_singleton.mp hx, e]
    exact fun z => nomatch z
  refine seq_mid (fun σ A => ∃ N, σ = [some (.ref st), some (.ref N), none, none, none, none, none, none, none] ∧ StI K H A st sc by_ ns ∧ Dp K (hide A ms) (.ref N) (wordsD c_WORDS)) (fun Kx yes => ?_) ?_
  · walk_at "rd"
    refine ⟨big _ (by decide), fun N nN => yes _ _ ⟨N, rfl, i0.grow (same_new nN), ?_⟩⟩
    exact a_newL (K := K) (ds := c_WORDS.map PyData.str) tk nN (DpAll.strs c_WORDS)
  rintro σ A ⟨N, rfl, i1, dN⟩
  refine seq_mid (fun σ B => ∃ F, ∃ fs : List Str, σ = [some (.ref st), some (.ref N), some (.ref F), none, none, none, none, none, none] ∧ StI K H B st sc by_ ns ∧ Dp K (hide B ms) (.ref F) (wordsD fs) ∧ 2 ≤ fs.length ∧ fs.length ≤ 11 ∧ ∀ x ∈ fs, x ∈ c_WORDS) (fun Kx yes => ?_) ?_
  · walk_at "rd"
    refine a_next i1.here (by decide) fun B1 v1 j1 sx1 v10 v11 => ⟨_, rfl, ?_⟩
    have k1 := i1.over j1
    refine a_slD (tkj k1) (Dp.mono (hid j1) dN) fun B2 p1 t1 n1 y1 => ⟨big _ (by decide), fun p2 np2 => ?_⟩
    rw [cutL_map] at y1
    have t2 := same_new (o := HO.tup [V.int 2, V.int 3, V.int 11]) np2
    have e2 : upd B2 p2 (HO.tup [V.int 2, V.int 3, V.int 11]) p2 = some (.tup [.int 2, .int 3, .int 11]) := upd_same
    have k2 := k1.grow (t1.trans t2)
    have y2 := Dp.mono (Same.hide t2 ms) y1
    generalize upd B2 p2 (HO.tup [V.int 2, V.int 3, V.int 11]) = B3 at *
    refine a_next k2.here (by decide) fun B4 v2 j2 sx2 v20 v21 => ?_
    have np : p2 ∉ [st] := fun z => by
      obtain ⟨k0, _, ek⟩ := k2.now
      rw [List.mem_singleton.mp z, ek] at e2
      cases e2
    obtain ⟨x, ex, hx⟩ := atI_nat' (xs := [V.int 2, V.int 3, V.int 11]) v20 (by exact v21)
    obtain ⟨m, rfl, m2, m11⟩ : ∃ m : Nat, x = V.int (m : Nat) ∧ 2 ≤ m ∧ m ≤ 11 := by
      simp only [List.mem_cons, List.not_mem_nil, or_false] at hx
      rcases hx with rfl | rfl | rfl
      · exact ⟨2, rfl, by decide, by decide⟩
      · exact ⟨3, rfl, by decide, by decide⟩
      · exact ⟨11, rfl, by decide, by decide⟩
    refine a_ixTV (SqT.of (sx2 _ _ np e2)) ex ⟨_, rfl, ?_⟩
    have k3 := k2.over j2
    refine a_slD (tkj k3) (Dp.mono (hid j2) y2) fun B5 p3 t3 n3 y3 => ?_
    obtain ⟨q, rfl⟩ : ∃ q : Nat, v1 = (q : Int) := ⟨v1.toNat, by omega⟩
    rw [cutL_map, cutL_from, cutL_to] at y3
    have cl : (c_WORDS.drop q).length = 11 - q := by rw [List.length_drop]; rfl
    refine yes _ _ ⟨p3, (c_WORDS.drop q).take m, rfl, k3.grow t3, y3, by rw [List.length_take]; omega, by rw [List.length_take]; omega, fun x hx => List.mem_of_mem_drop (List.mem_of_mem_take hx)⟩
  clear dN i1 A
  rintro σ A ⟨F, fs, rfl, i1, dF, f2, f11, fw⟩
  have tkA := tkj i1
  have hlenF : ∀ {B : Hp} {R : VK}, StI K A B st sc by_ ns → R (.int (fs.length : Nat)) B → rLenQ K [.ref F] B R := fun {B R} j q => a_lenL (Dp.mono ((hid j).trans same_show) dF) (by rw [List.length_map]; exact q)
  have pickF : ∀ {B : Hp} {v : Int} {R : VK}, StI K A B st sc by_ ns → 0 ≤ v → v < (fs.length : Nat) → (∀ x, x ∈ fs → R (.str x) B) → rIx K (.ref F) (.int v) B R := fun {B v R} j v0 v1 q => by
    obtain ⟨x, ex, hx⟩ := atI_nat' (xs := fs.map PyData.str) v0 (by rw [List.length_map]; exact v1)
    obtain ⟨y, hy, rfl⟩ := List.mem_map.mp hx
    refine a_ixD (Dp.mono (hid j) dF) ex fun v dv => ?_
    cases dv
    exact q y hy
  refine seq_mid (fun σ B => ∃ W J ws, σ = [some (.ref st), some (.ref N), some (.ref F), some (.ref W), some (.ref J), none, none, none, none] ∧ StI K A B st sc by_ ns ∧ B W = some (.lst (ws.map V.str)) ∧ A W = none ∧ W ≠ J ∧ WordsOk 0 40 ws ∧ A J = none ∧ B J = some (.lst [])) (fun Kx yes => ?_) ?_
  · walk_at "rd"
    refine a_lc ?_
    walk_at "rd"
    refine a_next i1.here (by decide) fun B1 v1 j1 sx1 v10 v11 => ⟨_, rfl, by omega, by omega, fun D nD => ?_⟩
    have nD0 : A D = none := j1.fresh nD
    refine lc_inv walk_range (fun i B => StI K A B st sc by_ ns ∧ ∃ ws : List Str, B D = some (.lst (ws.map V.str)) ∧ (∀ x ∈ ws, x ∈ fs) ∧ ws.length = i) ⟨j1.own nD0, [], upd_same, (fun _ h => nomatch h), rfl⟩ (fun _ _ _ _ => trivial) ?_ ?_
    · rintro Pw yes1 i x B2 B3 hi ⟨j2, ws, e2, hw, hl⟩ ⟨e0, ex⟩
      subst e0 ex
      walk_at "rd"
      refine hlenF j2 (a_next j2 (by omega) fun B5 v5 j5 sx5 v50 v51 => pickF j5 v50 v51 fun x hx => ?_)
      refine ⟨_, sx5 _ _ (j2.off nD0) e2, by rw [List.length_map, sizeLine_eq]; omega, yes1 _ _ ⟨j5.own nD0, ws ++ [x], by rw [upd_same, List.map_append]; rfl, fun z hz => ?_, by rw [List.length_append, List.length_singleton, hl]⟩⟩
      rcases List.mem_append.mp hz with h | h
      · exact hw z h
      · rw [List.mem_singleton.mp h]; exact hx
    · rintro B2 ⟨j2, ws, e2, hw, hl⟩
      refine ⟨big _ (by decide), fun J nJ => ?_⟩
      have t := same_new (o := HO.lst []) nJ
      refine yes _ _ ⟨D, J, ws, rfl, j2.grow t, t _ _ e2, nD0, (fun z => by rw [← z, e2] at nJ; cases nJ), ⟨Nat.zero_le _, by omega, fun x hx => fw x (hw x hx)⟩, j2.fresh nJ, upd_same⟩
  rintro σ B ⟨W, J, ws, rfl, j1, eW, nW, nWJ, okW, nJ, eJ⟩
  have offS : ∀ {z : Addr}, A z = none → z ∉ [st] := fun h => i1.here.off h
  have offM : ∀ {z : Addr}, A z = none → z ∉ ms := fun h z => tkA _ z h
  refine seq_mid (fun σ C => ∃ ys, ∃ js : List Join, ∃ o5 o6 o7 o8, σ = [some (.ref st), some (.ref N), some (.ref F), some (.ref W), some (.ref J), o5, o6, o7, o8] ∧ StI K A C st sc by_ ns ∧ C W = some (.lst (ws.map V.str)) ∧ C J = some (.lst ys) ∧ DpAll K (hide C (J :: ms)) ys (js.map joinD) ∧ js.length ≤ 6 ∧ (∀ j ∈ js, JoinOk j) ∧ (js.map (·.1)).Nodup) (fun Kx yes => ?_) ?_
  · refine a_for ?_
    walk_at "rd"
    refine a_next j1 (by decide) fun B1 v1 j2 sx1 v10 v11 => ⟨_, rfl, by omega, by omega, ?_⟩
    refine for_go2 walk_range (fun i σ C => ∃ ys, ∃ js : List Join, ∃ o5 o6 o7 o8, σ = [some (.ref st), some (.ref N), some (.ref F), some (.ref W), some (.ref J), o5, o6, o7, o8] ∧ StI K A C st sc by_ ns ∧ C W = some (.lst (ws.map V.str)) ∧ C J = some (.lst ys) ∧ DpAll K (hide C (J :: ms)) ys (js.map joinD) ∧ js.length ≤ i ∧ (∀ j ∈ js, JoinOk j) ∧ (js.map (·.1)).Nodup) ⟨[], [], _, _, _, _, rfl, j2, sx1 _ _ (offS nW) eW, sx1 _ _ (offS nJ) eJ, .nil, Nat.zero_le _, (fun _ h => nomatch h), .nil⟩ (fun _ _ _ _ _ => trivial) ?_ (fun σ C z => by
      obtain ⟨ys, js, o5, o6, o7, o8, rfl, q1, q2, q3, q4, q5, q6, q7⟩ := z
      exact yes _ _ ⟨ys, js, _, _, _, _, rfl, q1, q2, q3, q4, by omega, q6, q7⟩)
    rintro Pw yes1 i y σ C C' hi ⟨ys, js, o5, o6, o7, o8, rfl, jC, eWC, eJC, dJ, lJ, okJ, ndJ⟩ ⟨e0, ey⟩
    subst e0
    have hi7 : i < 7 := by omega
    refine g_name ?_
    dsimp only
    have jh := jC.here
    have offC : ∀ {z : Addr} {o : HO} {D : Hp}, A z = none → C' z = some o → StI K C' D st sc by_ ns → D z = some o := fun h e j => j.s0 _ _ (offS h) e
    have hidJ : ∀ {D : Hp}, StI K C' D st sc by_ ns → Same (hide C' (J :: ms)) (hide D (J :: ms)) := fun j => j.s0.hide fun a h => .tail _ (sub a h)
    refine seq_mid (fun σ D => ∃ t, ∃ rs : List Str, ∃ o7, σ = [some (.ref st), some (.ref N), some (.ref F), some (.ref W), some (.ref J), some y, some (.ref t), o7, o8] ∧ StI K C' D st sc by_ ns ∧ D t = some (.tup (rs.map V.str)) ∧ C' t = none ∧ (∀ x ∈ rs, x ∈ fs) ∧ 2 ≤ rs.length ∧ rs.length ≤ 4) (fun Kx2 yes2 => ?_) ?_
    · walk_at "rd"
      refine a_lc ?_
      walk_at "rd"
      refine a_next jh (by decide) fun D1 v2 k1 sx2 v20 v21 => ⟨_, rfl, by omega, by omega, fun D nD => ?_⟩
      have nD0 : C' D = none := k1.fresh nD
      refine lc_inv walk_range (fun i B => StI K C' B st sc by_ ns ∧ ∃ rs : List Str, B D = some (.lst (rs.map V.str)) ∧ (∀ x ∈ rs, x ∈ fs) ∧ rs.length = i) ⟨k1.own nD0, [], upd_same, (fun _ h => nomatch h), rfl⟩ (fun _ _ _ _ => trivial) ?_ ?_
      · rintro Pz yesz i x B2 B3 hi ⟨k2, rs, e2, hw, hl⟩ ⟨e0, ex⟩
        subst e0 ex
        walk_at "rd"
        refine hlenF (jC.over k2) (a_next k2 (by omega) fun B5 v5 k5 sx5 v50 v51 => pickF (jC.over k5) v50 v51 fun x hx => ?_)
        refine ⟨_, sx5 _ _ (k2.off nD0) e2, by rw [List.length_map, sizeLine_eq]; omega, yesz _ _ ⟨k5.own nD0, rs ++ [x], by rw [upd_same, List.map_append]; rfl, fun z hz => ?_, by rw [List.length_append, List.length_singleton, hl]⟩⟩
        rcases List.mem_append.mp hz with h | h
        · exact hw z h
        · rw [List.mem_singleton.mp h]; exact hx
      · rintro B2 ⟨k2, rs, e2, hw, hl⟩
        refine ⟨D, _, rfl, .inl ⟨SqL.of e2, fun t nt => ?_⟩⟩
        exact yes2 _ _ ⟨t, rs, _, rfl, k2.grow (same_new nt), upd_same, k2.fresh nt, hw, by omega, by omega⟩
    rintro σ D ⟨t, rs, o7', rfl, kD, et, nt, hrs, r2, r4⟩
    walk_at "rd"
    refine a_lc ?_
    walk_at "rd"
    have eJD := offC nJ eJC kD
    have eWD := offC nW eWC kD
    have tkD : Tk D (J :: ms) := Tk.cons eJD (tkA.sx (jC.over kD).s0 fun x hx => by
      obtain ⟨k0, _, e⟩ := kD.now
      rw [List.mem_singleton.mp hx, e]
      exact fun z => nomatch z)
    refine ⟨⟨_, SqL.of eJD⟩, fun E nE => ?_⟩
    refine lc_data (K := K) (ds := js.map joinD) (ms := J :: ms) walk_list nE tkD (by rw [List.length_map, sizeLine_eq]; omega) (DpAll.mono (hidJ kD) dJ) (fun H8 s8 => SqL.of (s8 _ _ eJD)) (fun _ => true) (fun d => match d with
      | .tuple (x :: _) => x
      | _ => .none) (fun y d H8 hd8 s8 hD8 hy => ?_) (fun H8 zs s8 e8 hzs => ?_)
    · obtain ⟨r, hr, rfl⟩ := List.mem_map.mp hd8
      walk_at "rd"
      exact ⟨fun z => z.elim, fun _ => a_ixTh hy atI_0 fun u hu => ⟨Same.refl _, hu⟩⟩
    rw [List.filter_eq_self.mpr fun _ _ => rfl] at hzs
    have e2 : ((js.map joinD).map fun d => match d with
      | .tuple (x :: _) => x
      | _ => PyData.none) = js.map fun j => PyData.tuple (j.1.map .str) := by
      rw [List.map_map]
      rfl
    rw [e2] at hzs
    have eJ8 := s8 _ _ eJD
    have k8 := kD.grow s8
    have rowsh : SeqAt.shaped (.tuple (rs.map PyData.str)) = true := tup_shaped fun x hx => fw x (hrs x hx)
    have lsh : SeqAt.shaped (.list (js.map fun j => PyData.tuple (j.1.map .str))) = true := shaped_of (n := 2) (shp_list (n := 1) fun d hd => by
      obtain ⟨j, hj, rfl⟩ := List.mem_map.mp hd
      exact shp_tup (n := 0) fun d hd => by
        obtain ⟨x, hx, rfl⟩ := List.mem_map.mp hd
        exact shp_str (words_ok ((okJ j hj).row.all x hx))) (by decide)
    have eany : ((js.map fun j => PyData.tuple (j.1.map .str)).any fun z => PyData.eqv z (.tuple (rs.map .str))) = decide (rs ∈ js.map (·.1)) := by
      rw [List.any_map]
      rcases Decidable.em (rs ∈ js.map (·.1)) with h | h
      · rw [decide_eq_true h]
        obtain ⟨j, hj, e⟩ := List.mem_map.mp h
        refine List.any_eq_true.mpr ⟨j, hj, ?_⟩
        show PyData.eqv (.tuple (j.1.map .str)) (.tuple (rs.map .str)) = true
        rw [eqv_strs, decide_eq_true e]
      · rw [decide_eq_false h]
        refine List.any_eq_false.mpr fun j hj => ?_
        show ¬ PyData.eqv (.tuple (j.1.map .str)) (.tuple (rs.map .str)) = true
        rw [eqv_strs, decide_eq_false fun e => h (List.mem_map.mpr ⟨j, hj, e⟩)]
        decide
    refine ⟨.tuple (rs.map .str), js.map fun j => PyData.tuple (j.1.map .str), .tup (SqT.of (s8 _ _ et)) (DpAll.strs rs), .lst (SqL.of e8) (DpAll.mono same_show hzs), rowsh, lsh, _, rfl, ?_⟩
    rw [if_pos rfl, eany]
    rcases Decidable.em (rs ∈ js.map (·.1)) with h | h
    · rw [decide_eq_true h]
      exact iteF' (by decide) (yes1 _ _ _ ⟨ys, js, _, _, _, _, rfl, jC.over k8, s8 _ _ eWD, eJ8, DpAll.mono (hidJ k8) dJ, by omega, okJ, ndJ⟩)
    rw [decide_eq_false h]
    refine iteT' (by decide) ⟨.inl ⟨rfl, _, SqL.of eJ8⟩, ?_⟩
    refine a_next k8 (by decide) fun G v3 k9 sx3 v30 v31 => ⟨_, rfl, big _ (by decide), fun q nq => ?_⟩
    have eJG := offC nJ eJC k9
    have eWG := offC nW eWC k9
    have etG : G t = some (.tup (rs.map V.str)) := sx3 _ _ (fun z => by
      obtain ⟨k0, _, e⟩ := k8.now
      rw [List.mem_singleton.mp z] at et
      have := s8 _ _ et
      rw [e] at this
      cases this) (s8 _ _ et)
    have tq := same_new (o := HO.tup [V.ref t, V.int (1 + v3)]) nq
    have kq := k9.grow tq
    have ylen := DpAll.length dJ
    rw [List.length_map] at ylen
    refine ⟨J, ys, .ref q, rfl, rfl, tq _ _ eJG, by rw [sizeLine_eq]; omega, ?_⟩
    have ntm : t ∉ J :: ms := fun z => by
      rcases List.mem_cons.mp z with z | z
      · rw [z, eJC] at nt; cases nt
      · exact (tkA.sx jC.s0 fun x hx => by
          obtain ⟨k0, _, e⟩ := jh.now
          rw [List.mem_singleton.mp hx, e]
          exact fun z => nomatch z) t z nt
    have nqm : q ∉ J :: ms := fun z => by
      rcases List.mem_cons.mp z with z | z
      · rw [z, eJG] at nq; cases nq
      · exact (tkA.sx (jC.over k9).s0 fun x hx => by
          obtain ⟨k0, _, e⟩ := k9.now
          rw [List.mem_singleton.mp hx, e]
          exact fun z => nomatch z) q z nq
    have dq : Dp K (hide (upd G q (.tup [V.ref t, V.int (1 + v3)])) (J :: ms)) (.ref q) (joinD (rs, 1 + v3)) := .tup (.inl (.inl ((hide_at nqm).trans upd_same))) (.cons (.tup (.inl (.inl ((hide_at ntm).trans (tq _ _ etG)))) (DpAll.strs rs)) (.cons (.int _) .nil))
    refine yes1 _ _ _ ⟨ys ++ [.ref q], js ++ [(rs, 1 + v3)], _, _, _, _, rfl, (jC.over kq).own nJ, (upd_ne nWJ).trans (tq _ _ eWG), upd_same, ?_, ?_, ?_, ?_⟩
    · rw [hide_upd (by simp), List.map_append]
      exact DpAll.append (DpAll.mono (hidJ kq) dJ) (DpAll.one dq)
    · rw [List.length_append]; show _ + 1 ≤ i + 1; omega
    · intro j hj
      rcases List.mem_append.mp hj with z | z
      · exact okJ j z
      · rw [List.mem_singleton.mp z]
        exact ⟨⟨r2, r4, fun x hx => fw x (hrs x hx)⟩, by constructor <;> (show _ ≤ _; omega)⟩
    · rw [List.map_append, List.nodup_append]
      refine ⟨ndJ, by simp, fun x hx y hy => ?_⟩
      rw [List.map_singleton, List.mem_singleton] at hy
      rintro rfl
      rw [hy] at hx
      exact h hx
  rintro σ C ⟨ys, js, o5, o6, o7, o8, rfl, jC, eWC, eJC, dJ, lJ, okJ, ndJ⟩
  walk_at "rd"
  refine a_next jC (by decide) fun G v3 jG sx3 v30 v31 => ⟨_, rfl, big _ (by decide), fun t nt => ?_⟩
  have iG := i1.over jG
  have tkG := tkj iG
  have dW : Dp K (hide G ms) (.ref W) (wordsD ws) := .lst (.inl (.inl ((hide_at (offM nW)).trans (sx3 _ _ (offS nW) eWC)))) (DpAll.strs ws)
  have dJ2 : Dp K (hide G ms) (.ref J) (joinsD js) := .lst (.inl (.inl ((hide_at (offM nJ)).trans (sx3 _ _ (offS nJ) eJC)))) (DpAll.mono (fun b o e => by
    obtain ⟨e1, e2⟩ := hide_of e
    have nb : b ∉ ms := fun z => e2 (.tail _ z)
    rw [hide_at nb]
    exact sx3 _ _ (fun z => nb (sub b z)) e1) dJ)
  exact k _ t (ws, js, 1 + v3) (iG.grow (same_new nt)) (iG.fresh nt) (a_newT (K := K) tkG nt (.cons dW (.cons dJ2 (.cons (.int _) .nil)))) ⟨okW, lJ, ndJ, okJ, by show (1 : Int) ≤ 1 + v3; omega, by show 1 + v3 ≤ 9; omega⟩
end
end Pb

/-! V9 -/
set_option Elab.async false
set_option linter.all false
set_option maxRecDepth 100000
set_option maxHeartbeats 4000000
namespace Pb
open PySem PySem.Spec PyProof.Rows L2
open C8 (Cal Mak Met pe_c pe_mk pe_mt pe_mt0 pe_gc fnScope_by)
/-! short words -/
local macro_rules | `(tactic| walk_at "rd") => `(tactic| try simp only [tVar, tC, tAdd, tSub, t2I, tIsN, tNotN, tB, tAnd, tOr, tNot, tAndV, tOrV, tNotV, tIf, tSeq, tPar, tPar3, tNext, tBreak, tCont, tDrop, tRet, tRetN, tIfS, gName, gNil, gCons, gTup, gSub, tAsg, tAug, ipI, iList, iTup, iRng1, iRng2, iStr, iEnum, iZip,
  tOp, tUn, rI, rI0, rU, tTest, tChain, tFld, sFld, sFldAug, L2.rAdd, L2.rSub, tNil, tCons, tTup, tLst, tCall, tMeth, tMake, tCB, tNoPart, tPart, tSl, tBM0, tBM, tDGet, tDGet1, tDGet2, tDIn, tDNotIn, sDPut, tDNewK, rEq, rNe, scal_ii, scal_ss, scal_bb, scal_nn, scal_ni, scal_in, scal_ns, scal_sn, scal_is, scal_si, List.take_succ_cons, List.take_zero, List.drop_succ_cons, List.drop_zero, upd_same, upd_upd, and_assoc, tKGet, gStar, tDisp, tPairs, tYes,
  L2.start, List.map_cons, List.map_nil, List.length_cons, List.length_nil, List.cons_append, List.nil_append, List.append_nil, List.replicate, Nat.sub_self, Nat.add_sub_cancel, Nat.reduceAdd, Nat.reduceSub, List.set_cons_zero, List.set_cons_succ, List.getElem?_cons_zero, List.getElem?_cons_succ,
  Option.some.injEq, V.int.injEq, V.bl.injEq, V.str.injEq, V.ref.injEq, exists_eq_left', exists_eq_left, exists_eq', exists_eq, true_and, and_true, if_true, if_false, Bool.false_eq_true, List.cons.injEq, Bool.not_true, Bool.not_false, cxK, cxP, cxW, ite_true, ite_false, wipe, reduceCtorEq, and_self, decide_true, decide_false, exists_and_left, exists_const, decide_eq_true_eq])
local macro_rules | `(tactic| walk_at "len") => `(tactic| (intro vs H Q E h; repeat (first | (obtain ⟨e, _⟩ := h; subst e; rfl) | (obtain ⟨_, h⟩ := h))))
local macro_rules | `(tactic| walk_at "wd") => `(tactic| simp (config := {decide := true}) only [V.str.injEq, scal_ss, true_and, if_true, if_false])

/-! the law (k04) -/
theorem rd_awayT {H : Hp} {a b : Addr} {ps : Array Value} {u : HO} (e : H a = some (.tbl ps)) (h : Rd H b u) (n : ∀ ps, u ≠ .tbl ps) : Rd (hide H [a]) b u := by
  have ne : b ≠ a := fun z => by
    subst z
    rcases h with h | ⟨o, h⟩
    · rw [e] at h; exact n _ (Option.some.inj h).symm
    · rw [e] at h; cases h
  have nm : b ∉ [a] := fun z => ne (List.mem_singleton.mp z)
  rcases h with h | ⟨o, h⟩
  · exact .inl (by rw [hide_at nm]; exact h)
  · exact .inr ⟨o, by rw [hide_at nm]; exact h⟩
theorem SqL.awayT {K : PySem.W.Frag} {H : Hp} {a b : Addr} {xs : List V} {ps : Array Value} (e : H a = some (.tbl ps)) (h : SqL K H b xs) : SqL K (hide H [a]) b xs := h.elim (fun h => .inl (rd_awayT e h (fun _ z => nomatch z))) .inr
theorem CovOk.near {ws : List Str} {js : List Join} {one : Int} (ok : CovOk ws js one) : CovOk ws (js.drop 1) one :=
  ⟨ok.words, by have := ok.few; rw [List.length_drop]; omega, by rw [List.map_drop]; exact List.Nodup.sublist (List.drop_sublist _ _) ok.unlike, fun j hj => ok.joins j (List.mem_of_mem_drop hj), ok.one⟩
theorem CovOk.less {ws : List Str} {js : List Join} {one : Int} (ok : CovOk ws js one) : CovOk (ws.drop 1) js one :=
  ⟨⟨Nat.zero_le _, by have := ok.words.hi; rw [List.length_drop]; omega, fun x hx => ok.words.all x (List.mem_of_mem_drop hx)⟩, ok.few, ok.unlike, ok.joins, ok.one⟩
theorem CovOk.three {ws : List Str} {js : List Join} {one : Int} (ok : CovOk ws js one) : CovOk ws js 3 := ⟨ok.words, ok.few, ok.unlike, ok.joins, by decide⟩
def lastW : List Str := ["put", "plus", "tell", "put", "plus"]
def lastJ : List Join := [(["put", "plus"], 4), (["plus", "tell", "put"], 2), (["put", "plus", "tell"], 9)]
theorem last_ok : CovOk lastW lastJ 3 := ⟨⟨by decide, by decide, by decide⟩, by decide, by decide, fun j hj => by
  simp only [lastJ, List.mem_cons, List.not_mem_nil, or_false] at hj
  rcases hj with rfl | rfl | rfl
  all_goals refine ⟨⟨by decide, by decide, ?_⟩, by decide, by decide⟩
  all_goals decide, by decide⟩
theorem none_ok : CovOk [] [] 3 := ⟨⟨by decide, by decide, fun _ h => nomatch h⟩, by decide, by decide, (fun _ h => nomatch h), by decide⟩
theorem last_parts : cvParts lastW lastJ 3 = [none, some 1, none] := by decide +kernel
theorem last_num : (cvNums lastW lastJ 3)[0]? = some 8 := by decide +kernel
theorem none_parts : cvParts [] [] 3 = [] := rfl
def sp_law (K : PySem.W.Frag) : Sp := fun vs H Q _ => ∃ a, ∃ ns : List Int, vs = [.ref a] ∧ SqL K H a (ns.map V.int) ∧ ns.length ≤ 63 ∧ H (covT K) = some (.tbl #[]) ∧ ∀ H', Q (.bl true) H'
section
variable {P : Program} {w : World} {K : PySem.W.Frag} {mg : Str → Option Value} {base : Heap}
theorem ok_law {fd : FuncData} (F_law : FunD K "law" "law" (L2.defArgs s_law) (L2.defBody s_law) (L2.defScope s_law) [] [] (He.ga K "law") fd) (T : Tx w K mg) (F__law_drawn : Cal P w K mg base 4 "_law_drawn" (sp__law_drawn K) []) (F__law_right : GCal P w K mg base 5 "_law_right" (sp__law_right K)) (F_covered : KDef P w K mg base 4 "covered" (sp_covered K) ["words", "joins", "one"] s_covered [("one", .int 3)]) : GFn P w K mg base 6 (He.ga K "law") fd ["_law_script"] (sp_law K) := by
  refine gfn_ofN F_law sc_law (by walk_at "len") fun cdv A outer s H vs Q E hs hr h => ?_
  refine ⟨_, (pss_cons (ps_for PassesOwn.never rfl (pi_range3 (by rfl) T.b_range (pa_cons pe_int (pa_cons (pe_callB (call_max2' rfl) (by rfl) T.b_max (by decide +kernel) (pa_cons pe_int (pa_cons (pe_callB (call_min2' rfl) (by rfl) T.b_min (by decide +kernel) (pa_cons pe_int (pa_cons (pe_callB (r := rLenQ K) call_lenQ (by rfl) T.b_len (by decide +kernel) (pa_cons (pv 0) pa_nil)) pa_nil))) pa_nil))) (pa_cons pe_int pa_nil)))) (pg_name (i := 1) sc_law.nd rfl (by first | exact Or.inl rfl | exact Or.inr rfl)) (pss_cons (ps_set (i := 2) sc_law.nd rfl (by first | exact Or.inl rfl | exact Or.inr rfl) (pe_lst (pa_cons (pv 0) (pa_cons (pv 1) (pa_cons pe_int pa_nil)))))
    (pss_cons (ps_setLc (i := 3) rfl sc_law.nd rfl rfl (sw_true rfl rfl rfl (by decide +kernel)) (pi_range1 (by rfl) T.b_range (pa_cons pe_int pa_nil)) (blkOk_by (own := [("_law_turn", 4)]) (N := ["_law_script", "_law_by", "_law_state", "_law_lots", "_law_turn", "_law_at", "_law_lot", "_law_near", "_law_joins", "_law_found"]) (sc := L2.defScope s_law) (by decide +kernel)) (fun _ _ _ _ _ => (pg_m (pg_name (i := 4) sc_law.nd rfl (by first | exact Or.inl rfl | exact Or.inr rfl)))) (fun _ _ _ _ _ => pts_nilM) (fun _ _ _ _ _ => (pe_m (pe_c F__law_drawn hr (by decide) (by rfl) (pa_cons (pv 2) pa_nil)))))
    (pss_one (ps_for PassesOwn.never rfl (pi_enum (by rfl) T.b_enumerate (pa_cons (pv 3) pa_nil)) (pg_tupK (K := K) (n := 2) rfl (pgs_cons (pg_name (i := 5) sc_law.nd rfl (by first | exact Or.inl rfl | exact Or.inr rfl)) (pgs_cons (pg_name (i := 6) sc_law.nd rfl (by first | exact Or.inl rfl | exact Or.inr rfl)) pgs_nil))) (pss_cons (ps_set (i := 7) sc_law.nd rfl (by first | exact Or.inl rfl | exact Or.inr rfl) (pe_tup (pa_cons (pe_ix (r := rIx K) ix_seq (pv 6) pe_int (fun _ _ => rfl)) (pa_cons (pe_slice (r := rSlL K) sl_list (pe_ix (r := rIx K) ix_seq (pv 6) pe_int (fun _ _ => rfl)) (po_some pe_int) po_none) (pa_cons (pe_ix (r := rIx K) ix_seq (pv 6) pe_int (fun _ _ => rfl)) pa_nil)))))
    (pss_cons (ps_if (pt_not (pt_val (pe_cG F__law_right hs hr (by decide) (by rfl) (pa_cons (pe_ix (r := rIx K) ix_seq (pv 6) pe_int (fun _ _ => rfl)) (pa_cons (pe_ix (r := rIx K) ix_seq (pv 6) pe_int (fun _ _ => rfl)) (pa_cons (pe_ix (r := rIx K) ix_seq (pv 6) pe_int (fun _ _ => rfl)) (pa_cons (pe_lst (pa_cons (pe_ix (r := rIx K) ix_seq (pv 3) (pe_op op_sub (pv 5) pe_int) (fun _ _ => rfl)) (pa_cons (pv 7) (pa_cons (pe_tup (pa_cons (pe_slice (r := rSlL K) sl_list (pe_ix (r := rIx K) ix_seq (pv 6) pe_int (fun _ _ => rfl)) (po_some pe_int) po_none) (pa_cons (pe_ix (r := rIx K) ix_seq (pv 6) pe_int (fun _ _ => rfl)) (pa_cons (pe_ix (r := rIx K) ix_seq (pv 6) pe_int (fun _ _ => rfl)) pa_nil)))) pa_nil)))) pa_nil))))))) (pss_one (ps_ret pe_bl)) pss_nil)
    (pss_one (ps_if (pt_not (pt_val (pe_cG F__law_right hs hr (by decide) (by rfl) (pa_cons (pe_ix (r := rIx K) ix_seq (pv 6) pe_int (fun _ _ => rfl)) (pa_cons (pe_ix (r := rIx K) ix_seq (pv 6) pe_int (fun _ _ => rfl)) (pa_cons pe_int (pa_cons (pl_lst (K := K) (pls_cons (pl_var (pv 6)) pls_nil)) pa_nil))))))) (pss_one (ps_ret pe_bl)) pss_nil)))))))))
    (pss_cons (ps_set (i := 8) sc_law.nd rfl (by first | exact Or.inl rfl | exact Or.inr rfl) (pl_lst (K := K) (pls_cons (pl_tup (pls_cons (pl_tup (pls_cons pl_str (pls_cons pl_str pls_nil))) (pls_cons pl_int pls_nil))) (pls_cons (pl_tup (pls_cons (pl_tup (pls_cons pl_str (pls_cons pl_str (pls_cons pl_str pls_nil)))) (pls_cons pl_int pls_nil))) (pls_cons (pl_tup (pls_cons (pl_tup (pls_cons pl_str (pls_cons pl_str (pls_cons pl_str pls_nil)))) (pls_cons pl_int pls_nil))) pls_nil)))))
    (pss_cons (ps_set (i := 9) sc_law.nd rfl (by first | exact Or.inl rfl | exact Or.inr rfl) (pe_callKD F_covered hr (by decide) (by rfl) 2 [] [("one", .int 3)] (fun us mv ws => (us ++ mv)) (fun z => by cases z) (fun q hq => by simp at hq ⊢; simp [hq]) (fun r1 r2 r3 => (r1.append r2)) (fun _ _ _ _ _ _ us mv ws l1 l2 l3 => match us, mv, ws, l1, l2, l3 with | [_, _], [_], [], _, _, _ => (by (refine ⟨_, _, _, _, _, _, rfl, rfl, ?_⟩); (show _ = _); rfl)) (pa_cons (pl_lst (K := K) (pls_cons pl_str (pls_cons pl_str (pls_cons pl_str (pls_cons pl_str (pls_cons pl_str pls_nil)))))) (pa_cons (pv 8) pa_nil)) pk_nil))
    (pss_one (ps_ret (pe_and (pe_cmpR (r := rEqD K) (op_eqD hr.units) (pe_fldK (K := K) (pv 9) rfl) (pl_lst (K := K) (pls_cons pl_non (pls_cons pl_int (pls_cons pl_non pls_nil)))) (nomark _)) (pe_and (pe_cmpR op_eq (pe_ix (r := rIx K) ix_seq (pe_fldK (K := K) (pv 9) rfl) pe_int (fun _ _ => rfl)) pe_int (nomark _)) (pe_one (pe_cmpR (r := rEqD K) (op_eqD hr.units) (pe_fldK (K := K) (pe_callKD F_covered hr (by decide) (by rfl) 2 [] [("one", .int 3)] (fun us mv ws => (us ++ mv)) (fun z => by cases z) (fun q hq => by simp at hq ⊢; simp [hq]) (fun r1 r2 r3 => (r1.append r2)) (fun _ _ _ _ _ _ us mv ws l1 l2 l3 => match us, mv, ws, l1, l2, l3 with | [_, _], [_], [], _, _, _ => (by (refine ⟨_, _, _, _, _, _, rfl, rfl, ?_⟩); (show _ = _); rfl)) (pa_cons (pl_lst (K := K) pls_nil) (pa_cons (pl_lst (K := K) pls_nil) pa_nil)) pk_nil) rfl) (pl_lst (K := K) pls_nil) (nomark _)))))))))), ?_⟩
  obtain ⟨sc, ns, rfl, hsc0, hns, hT, q⟩ := h
  have big : ∀ n : Nat, n ≤ 1000000 → n ≤ sizeLine := fun n h => by rw [sizeLine_eq]; omega
  have hsub : ∀ {A B : Hp}, Sx [covT K] A B → Same (hide A [covT K]) (hide B [covT K]) := fun s => Sx.hide s fun _ h => h
  have tkT : ∀ {A : Hp}, LamX.TabS A (covT K) covL → Tk A [covT K] := fun t => by
    obtain ⟨_, e, _⟩ := t
    exact Tk.cons e Tk.nil
  refine seq_mid (fun σ A => ∃ o1 o2 o3 o4 o5 o6 o7 o8 o9, σ = [some (.ref sc), o1, o2, o3, o4, o5, o6, o7, o8, o9] ∧ LamX.TabS A (covT K) covL) (fun Kx yes0 => ?_) ?_
  · refine a_for ?_
    unfold L2.iRng3
    walk_at "rd"
    refine ⟨sc, _, rfl, .inl hsc0, _, _, rfl, _, _, rfl, _, rfl, _, ⟨by decide, by decide, ?_, (Int.toNat_of_nonneg ?_).symm⟩, ?_⟩
    · rw [List.length_map]
      have q : ∀ k : _root_.Fin 70, Builtin.Range.small 0 (max 1 (min 36 (k.val : Int))) 12 = true := by decide +kernel
      exact q ⟨ns.length, by omega⟩
    · rw [List.length_map]
      have q : ∀ k : _root_.Fin 70, 0 ≤ Builtin.Range.rangeSize 0 (max 1 (min 36 (k.val : Int))) 12 := by decide +kernel
      exact q ⟨ns.length, by omega⟩
    refine for_go2 walk_rangeC (fun i σ H1 => ∃ o1 o2 o3 o4 o5 o6 o7 o8 o9, σ = [some (.ref sc), o1, o2, o3, o4, o5, o6, o7, o8, o9] ∧ SqL K (hide H1 [covT K]) sc (ns.map V.int) ∧ LamX.TabS H1 (covT K) covL) ⟨_, _, _, _, _, _, _, _, _, rfl, SqL.awayT hT hsc0, LamX.TabS.nil hT⟩ (fun _ _ _ _ _ => trivial) ?_ (fun σ A z => by
      obtain ⟨_, _, _, _, _, _, _, _, _, rfl, _, z⟩ := z
      exact yes0 _ _ ⟨_, _, _, _, _, _, _, _, _, rfl, z⟩)
    rintro Pw yes i y σ H1 H2 hi ⟨o1, o2, o3, o4, o5, o6, o7, o8, o9, rfl, hsc, tab2⟩ ⟨e0, ey⟩
    subst e0 ey
    refine g_name ?_
    dsimp only
    have hby : 0 ≤ (0 + (i : Nat) * 12 : Int) := by omega
    generalize (0 + (i : Nat) * 12 : Int) = by_ at *
    obtain ⟨tps, atT, _⟩ := id tab2
    refine seq_mid (fun σ A => ∃ st, σ = [some (.ref sc), some (.int by_), some (.ref st), o3, o4, o5, o6, o7, o8, o9] ∧ H2 st = none ∧ Same H2 A ∧ StI K A A st sc by_ ns) (fun Kx yes1 => ?_) ?_
    · walk_at "rd"
      refine ⟨big _ (by decide), fun st nst => ?_⟩
      have t3 := same_new (o := HO.lst [.ref sc, .int by_, .int 0]) nst
      exact yes1 _ _ ⟨st, rfl, nst, t3, ⟨Sx.refl, ⟨0, by decide, upd_same⟩, sqL_same (same_show.trans t3) hsc, hby, ⟨0, by decide, upd_same⟩⟩⟩
    rintro σ H3 ⟨st, rfl, nst, s3, i0⟩
    have up : ∀ {B : Hp}, StI K H3 B st sc by_ ns → Same H2 B := fun j b o e => j.s0 b o (fun z => by rw [List.mem_singleton.mp z, nst] at e; cases e) (s3 _ _ e)
    refine seq_mid (fun σ B => ∃ D, ∃ lots : List Lot, ∃ o4, σ = [some (.ref sc), some (.int by_), some (.ref st), some (.ref D), o4, o5, o6, o7, o8, o9] ∧ Same H2 B ∧ Dp K (hide B [covT K]) (.ref D) (.list (lots.map lotD)) ∧ lots.length = 3 ∧ ∀ l ∈ lots, CovOk l.1 l.2.1 l.2.2) (fun Kx yes1 => ?_) ?_
    · walk_at "rd"
      refine a_lc ?_
      walk_at "rd"
      refine ⟨by decide, by decide, fun D nD => ?_⟩
      have nDt : D ≠ covT K := fun z => by rw [z, s3 _ _ atT] at nD; cases nD
      refine lc_inv walk_range (fun i B => StI K H3 B st sc by_ ns ∧ ∃ ys, ∃ lots : List Lot, B D = some (.lst ys) ∧ DpAll K (hide B [D, st, covT K]) ys (lots.map lotD) ∧ lots.length = i ∧ ∀ l ∈ lots, CovOk l.1 l.2.1 l.2.2) ⟨i0.own nD, [], [], upd_same, .nil, rfl, fun _ h => nomatch h⟩ (fun _ _ _ _ => trivial) ?_ ?_
      · rintro Pz yesz j x B B' hj ⟨jB, ys, lots, eD, dl, ll, okl⟩ ⟨e0, ex⟩
        subst e0 ex
        walk_at "rd"
        have jh := jB.here
        have tk : Tk B' [D, st, covT K] := by
          obtain ⟨k0, _, e⟩ := jB.now
          exact Tk.cons eD (Tk.cons e (Tk.cons (up jB _ _ atT) Tk.nil))
        refine ⟨[D, st, covT K], st, sc, by_, ns, rfl, by simp, tk, jh, fun C t lot jC nt dt okt => ?_⟩
        have ylen := DpAll.length dl
        rw [List.length_map] at ylen
        refine ⟨ys, jC.s0 _ _ (jB.off nD) eD, by rw [sizeLine_eq]; omega, yesz _ _ ⟨(jB.over jC).own nD, ys ++ [.ref t], lots ++ [lot], upd_same, ?_, by rw [List.length_append, List.length_singleton, ll], fun l hl => ?_⟩⟩
        · rw [hide_upd (by simp), List.map_append]
          exact DpAll.append (DpAll.mono (jC.s0.hide fun a ha => by rw [List.mem_singleton.mp ha]; simp) dl) (DpAll.one dt)
        · rcases List.mem_append.mp hl with h | h
          · exact okl l h
          · rw [List.mem_singleton.mp h]; exact okt
      · rintro B ⟨jB, ys, lots, eD, dl, ll, okl⟩
        refine yes1 _ _ ⟨D, lots, _, rfl, up jB, .lst (.inl (.inl ((hide_at (by simpa using nDt)).trans eD))) (DpAll.mono (fun b o e => ?_) dl), ll, okl⟩
        obtain ⟨e1, e2⟩ := hide_of e
        rw [hide_at fun z => e2 (.tail _ (.tail _ z))]
        exact e1
    rintro σ B ⟨D, lots, o4', rfl, sB, dD, l3, okl⟩
    have tabB := tab2.ext sB
    have hscB := sqL_same (Same.hide sB [covT K]) hsc
    obtain ⟨Da, dx, eD, hDl, hDx⟩ := dp_list dD
    cases eD
    have dlen := DpAll.length hDx
    rw [List.length_map] at dlen
    refine a_for ?_
    walk_at "rd"
    refine ⟨_, sqL_same same_show hDl, ?_⟩
    refine for_go2 (walk_enum (xs := dx)) (fun j σ C => ∃ o4 o5 o6 o7, σ = [some (.ref sc), some (.int by_), some (.ref st), some (.ref D), o4, o5, o6, o7, o8, o9] ∧ Sx [covT K] B C ∧ LamX.TabS C (covT K) covL) ⟨_, _, _, _, rfl, Sx.refl, tabB⟩ (fun j σ C _ z => by
      obtain ⟨_, _, _, _, _, z, _⟩ := z
      exact sqL_same ((hsub z).trans same_show) hDl) ?_ (fun σ C z => by
      obtain ⟨_, _, _, _, rfl, z1, z2⟩ := z
      exact yes _ _ _ ⟨_, _, _, _, _, _, _, _, _, rfl, sqL_same (hsub z1) hscB, z2⟩)
    rintro Pz yesz j z σ C C' hj ⟨p4, p5, p6, p7, rfl, sC, tabC⟩ yy
    obtain ⟨p3, y1, y2, rfl, hp3, rfl, ey1, ey2⟩ := yy
    cases ey1
    replace ey2 : dx[j]? = some y2 := ey2
    obtain ⟨d, ed, hd⟩ := DpAll.at hDx ey2
    rw [dlen] at hj
    rw [List.getElem?_map, List.getElem?_eq_getElem hj] at ed
    cases ed
    have okm := okl _ (List.getElem_mem hj)
    generalize lots[j] = lot at *
    have hlast : ∃ l' ∈ lots, atI (lots.map lotD) (((j : Nat) : Int) - 1) = some (lotD l') := by
      rcases Nat.eq_zero_or_pos j with h | h
      · subst h
        have h2 : 2 < lots.length := by omega
        refine ⟨_, List.getElem_mem h2, atI_m1 (by rw [List.length_map]; omega) ?_⟩
        rw [List.length_map, show lots.length - 1 = 2 by omega, List.getElem?_map, List.getElem?_eq_getElem h2]
        rfl
      · have h2 : j - 1 < lots.length := by omega
        refine ⟨_, List.getElem_mem h2, ?_⟩
        rw [show ((j : Nat) : Int) - 1 = ((j - 1 : Nat) : Int) by omega]
        exact atI_natc (by rw [List.getElem?_map, List.getElem?_eq_getElem h2]; rfl)
    obtain ⟨l', hl', elast⟩ := hlast
    refine a_t2V (.inl (.inl upd_same)) ?_
    have t0 := same_new (o := HO.tup [V.int (j : Nat), y2]) hp3
    have tabX := tabC.ext t0
    have sX := sC.trans (Sx.of t0)
    generalize upd C p3 (HO.tup [V.int (j : Nat), y2]) = X at *
    obtain ⟨tq, u1, u2, u3, rfl, htq, f1, f2, f3⟩ := dp_t3 hd
    cases f3
    have it : ∀ {Y : Hp} {i : Int} {x : V} {R : VK}, Sx [covT K] B Y → atI [u1, u2, V.int lot.2.2] i = some x → R x Y → rIx K (.ref tq) (.int i) Y R := fun s e r => a_ixTV (sqT_same ((hsub s).trans same_show) htq) e r
    clear t0 sC tabC hp3 C
    refine seq_mid (fun σ Y => ∃ nr, σ = [some (.ref sc), some (.int by_), some (.ref st), some (.ref D), p4, some (.int (j : Nat)), some (.ref tq), some nr, o8, o9] ∧ Same X Y ∧ Dp K (hide Y [covT K]) nr (lotD (lot.1, lot.2.1.drop 1, lot.2.2))) (fun Kx2 yes2 => ?_) ?_
    · walk_at "rd"
      refine it sX atI_0 (it sX atI_1 ?_)
      refine a_slD (tkT tabX) (Dp.mono (hsub sX) f2) fun Y p1 t1 n1 y1 => ?_
      rw [cutL_map, show (some (1 : Int)) = some ((1 : Nat) : Int) from rfl, cutL_from] at y1
      refine it (sX.trans (Sx.of t1)) atI_2 ⟨big _ (by decide), fun q1 nq => yes2 _ _ ⟨_, rfl, t1.trans (same_new nq), ?_⟩⟩
      exact a_newT (K := K) (tkT (tabX.ext t1)) nq (.cons (Dp.mono ((hsub sX).trans (Same.hide t1 _)) f1) (.cons y1 (.cons (.int _) .nil)))
    rintro σ Y ⟨nr, rfl, sXY, dnr⟩
    have sY := sX.trans (Sx.of sXY)
    have tabY := tabX.ext sXY
    refine seq_mid (fun σ Z => σ = [some (.ref sc), some (.int by_), some (.ref st), some (.ref D), p4, some (.int (j : Nat)), some (.ref tq), some nr, o8, o9] ∧ Sx [covT K] B Z ∧ LamX.TabS Z (covT K) covL) (fun Kx2 yes2 => ?_) ?_
    · walk_at "rd"
      refine it sY atI_0 (it sY atI_1 (it sY atI_2 ?_))
      refine a_ixD (Dp.mono (hsub sY) dD) elast fun v0 dv0 => it sY atI_0 ?_
      refine a_slD (tkT tabY) (Dp.mono (hsub sY) f1) fun Y1 p1 t1 n1 y1 => ?_
      rw [cutL_map, show (some (1 : Int)) = some ((1 : Nat) : Int) from rfl, cutL_from] at y1
      have sY1 := sY.trans (Sx.of t1)
      refine it sY1 atI_1 (it sY1 atI_2 ⟨big _ (by decide), fun q2 nq2 => ⟨big _ (by decide), fun q3 nq3 => ?_⟩⟩)
      have tabY1 := tabY.ext t1
      have t2 := same_new (o := HO.tup [V.ref p1, u2, V.int lot.2.2]) nq2
      have dq2 := a_newT (K := K) (tkT tabY1) nq2 (.cons y1 (.cons (Dp.mono (hsub sY1) f2) (.cons (.int lot.2.2) .nil)))
      have tabY2 := tabY1.ext t2
      have sY2 := sY1.trans (Sx.of t2)
      have t12 := t1.trans t2
      generalize upd Y1 q2 (HO.tup [V.ref p1, u2, V.int lot.2.2]) = Y2 at *
      have t3 := same_new (o := HO.lst [v0, nr, V.ref q2]) nq3
      have dq3 := a_newL (K := K) (ds := [l', (lot.1, lot.2.1.drop 1, lot.2.2), (lot.1.drop 1, lot.2.1, lot.2.2)].map lotD) (tkT tabY2) nq3 (.cons (Dp.mono (Same.hide t12 _) dv0) (.cons (Dp.mono (Same.hide t12 _) dnr) (.cons dq2 .nil)))
      have tabY3 := tabY2.ext t3
      have sY3 := sY2.trans (Sx.of t3)
      generalize upd Y2 q3 (HO.lst [v0, nr, V.ref q2]) = Y3 at *
      refine ⟨u1, u2, .ref q3, lot.1, lot.2.1, lot.2.2, _, rfl, Dp.mono (hsub sY3) f1, Dp.mono (hsub sY3) f2, dq3, okm, fun o ho => ?_, tabY3, fun Z sZ tabZ => ⟨_, rfl, ?_⟩⟩
      · simp only [List.mem_cons, List.not_mem_nil, or_false] at ho
        rcases ho with rfl | rfl | rfl
        · exact okl _ hl'
        · exact okm.near
        · exact okm.less
      · rw [if_neg (by decide)]
        exact yes2 _ _ ⟨rfl, sY3.trans sZ, tabZ⟩
    clear dnr sXY sY tabY Y sX tabX X
    rintro σ Z ⟨rfl, sZ, tabZ⟩
    walk_at "rd"
    refine it sZ atI_0 (it sZ atI_1 ?_)
    refine ⟨[covT K], fun _ => lotD lot, tkT tabZ, VarsAt.cons rfl (Dp.mono (hsub sZ) hd) VarsAt.nil, fun Z1 v1 t1 d1 => ?_⟩
    have sZ1 := sZ.trans (Sx.of t1)
    refine ⟨u1, u2, v1, lot.1, lot.2.1, 3, [lot], rfl, Dp.mono (hsub sZ1) f1, Dp.mono (hsub sZ1) f2, d1, okm.three, fun o ho => by rw [List.mem_singleton.mp ho]; exact okm, tabZ.ext t1, fun Z2 sx tab3 => ⟨_, rfl, ?_⟩⟩
    rw [if_neg (by decide)]
    exact yesz _ _ _ ⟨_, _, _, _, rfl, sZ1.trans sx, tab3⟩
  rintro σ A ⟨o1, o2, o3, o4, o5, o6, o7, o8, o9, rfl, tab⟩
  walk_at "rd"
  refine ⟨[covT K], fun _ => .none, tkT tab, VarsAt.nil, fun A1 v1 s1 d1 => ?_⟩
  have tab1 := tab.ext s1
  unfold L2.tCallN
  walk_at "rd"
  refine ⟨[covT K], fun _ => .none, tkT tab1, VarsAt.nil, fun A2 v2 s2 d2 => ?_⟩
  have tab2 := tab1.ext s2
  refine ⟨v2, v1, lastW, lastJ, 3, rfl, d2, Dp.mono (Same.hide s2 _) d1, last_ok, tab2, fun A3 f dx pl nl sx tab3 nf af npl nnl nn apl anl => ?_⟩
  rw [last_parts] at apl
  refine ⟨f, rfl, _, _, _, af, T.c_Cover, T.n_Cover_parts, _, rfl, [], fun _ => .none, Tk.nil, VarsAt.nil, fun A4 v4 s4 d4 => ?_⟩
  rw [hide_nil] at d4
  refine a_eqSelf (d := cntsD [none, some 1, none]) (.lst (SqL.of (s4 _ _ apl)) (DpAll.cnts _)) d4 (cnts_shaped _) ⟨_, rfl, ?_⟩
  rw [if_pos rfl]
  have tab4 := tab3.ext s4
  refine ⟨f, rfl, _, _, _, s4 _ _ af, T.c_Cover, T.n_Cover_numbers, _, rfl, a_ixV (SqL.of (s4 _ _ anl)) (atI_natc (i := 0) (by rw [List.getElem?_map, last_num]; rfl)) ⟨rfl, ?_⟩⟩
  refine iteT' rfl ⟨[covT K], fun _ => .none, tkT tab4, VarsAt.nil, fun A5 v5 s5 d5 => ?_⟩
  have tab5 := tab4.ext s5
  refine ⟨[covT K], fun _ => .none, tkT tab5, VarsAt.nil, fun A6 v6 s6 d6 => ?_⟩
  have tab6 := tab5.ext s6
  refine ⟨v5, v6, [], [], 3, rfl, Dp.mono (Same.hide s6 _) d5, d6, none_ok, tab6, fun A7 g dx2 pl2 nl2 sx2 tab7 ng ag npl2 nnl2 nn2 apl2 anl2 => ?_⟩
  rw [none_parts] at apl2
  refine ⟨g, rfl, _, _, _, ag, T.c_Cover, T.n_Cover_parts, _, rfl, [], fun _ => .none, Tk.nil, VarsAt.nil, fun A8 v8 s8 d8 => ?_⟩
  rw [hide_nil] at d8
  exact a_eqSelf (d := cntsD []) (.lst (SqL.of (s8 _ _ apl2)) .nil) d8 (cnts_shaped _) (q _)
end
end Pb

/-! the end -/
set_option maxRecDepth 100000
namespace Pb
open PySem PySem.Spec PyProof.Rows L2
open C8 (Cal Mak Met)
theorem law_end {P : Program} {w : World} {K : PySem.W.Frag} {h : Heap} {mg : Str → Option Value} {fa : Addr} (T : Tx w K mg) (KX : K.In h) (cc : He.SaysX hfa hfn hts htf hex w h K) (hmg : mg ("law" : Str) = some (.ref fa)) : ∃ (K : PySem.W.Frag) (fd : FuncData) (sp : Sp) (c T : Addr), K.In h ∧ PySem.W.codeHdIn K c T = true ∧ h.get? T = some { cls := .none, data := .fields #[] } ∧ K.lookup T = none ∧ (∀ (s : Shared) (u : Value), BindsTo s fd ⟨[u], []⟩ [("_law_script", u)]) ∧
    (∀ (H : Hp) (a : Addr) (ns : List Int), ns.length ≤ 63 → H T = some (.tbl #[]) → SqL K H a (ns.map V.int) → sp [.ref a] H (fun v _ => v = .bl true) fun _ _ _ => False) ∧ ∀ base : Heap, K.In base → base.Ns mainGlobals mg → LamX.TabB base mg c T → GFn P w K mg base 6 fa fd ["_law_script"] sp := by
  have e := hmg.symm.trans T.g_law
  cases e
  obtain ⟨fd, F⟩ := id T.D_law
  have b := FunD.bindsA (ps := ["_law_script"]) F fun _ _ _ _ _ _ us hl => match us, hl with | [_], _ => rfl
  refine ⟨K, fd, sp_law K, (He.cT K ("covered", none)).1, (He.cT K ("covered", none)).2, KX, cc.hd _ (.head _), cc.empty _ (.head _), cc.out _ (.head _), fun s v => b s [v] rfl, fun H a ns hl hT hS => ⟨a, ns, rfl, hS, hl, hT, fun _ => rfl⟩, fun base _ _ TB => ?_⟩
  have F__law_cell_at := ok_cell_at (P := P) (base := base) T 
  have F__law_draw := ok_draw (P := P) (base := base) T 
  have F__law_number := ok_number (P := P) (base := base) T F__law_draw
  have F__law_next := ok_next (P := P) (base := base) T F__law_cell_at F__law_number
  have F__law_drawn := ok_drawn (P := P) (base := base) T F__law_next
  have F_are_words := ok_are_words (P := P) (base := base) T 
  have F_is_whole := ok_is_whole (P := P) (base := base) T 
  have F_within := ok_within (P := P) (base := base) T F_is_whole
  have F_is_join := ok_is_join (P := P) (base := base) T F_are_words F_within
  have F_parts_at := ok_parts_at (P := P) (base := base) T 
  have M_Cover := ok_Cover_init (P := P) (base := base) T 
  have F_covered := ok_covered (P := P) (base := base) T TB F_are_words F_is_join F_within F_parts_at M_Cover
  have F_Cover_shows := ok_shows (P := P) (base := base) T F_is_whole F_parts_at
  have F__law_parts := ok_law_parts (P := P) (base := base) T 
  have F__law_least := ok_least (P := P) (base := base) T F__law_parts
  have F__law_due := ok_due (P := P) (base := base) T F__law_parts
  have F__law_hand_right := ok_hand (P := P) (base := base) T M_Cover F_Cover_shows F__law_least F__law_due
  have F__law_right := ok_right (P := P) (base := base) T F_covered F_Cover_shows F__law_least F__law_due F__law_hand_right
  exact ok_law F T F__law_drawn F__law_right F_covered
end Pb
open PySem PySem.W PySem.Calls PyProof.Rows
theorem PySem.Challenge.cw_pileboxes_k04_whole_covered_holds : PySem.Challenge.rw_pileboxes_k04_whole_covered.Holds := by
  w_on; o_law
  refine HandSHeadRun.head_any (r := OpenLaw.row PySem.Challenge.rw_pileboxes_k04_whole_covered) (q := view (OpenLaw.row PySem.Challenge.rw_pileboxes_k04_whole_covered).prog [33]) (H := Pb.hk) (ob := Pb.hob) (M := 12000) (loose := Pb.hnames) (d := HandSHeadRun.topDef (OpenLaw.row PySem.Challenge.rw_pileboxes_k04_whole_covered).prog 33) (kwd := []) Pb.hob_eq
    (by kernel_rfl) (fun s => by kernel_rfl) Pb.hrun (by kernel_rfl) (by kernel_rfl) (by kernel_rfl) (by rfl) (by first | assumption | decide +kernel) (by decide +kernel) ⟨rfl, rfl, rfl, rfl, rfl, by decide +kernel⟩ ?hw ?hc
  case hw => w_witness2
  case hc =>
    refine Pb.walk_ofGT (l := PySem.Challenge.rw_pileboxes_k04_whole_covered) (n := 63) (k := 6) (x := "_law_script") rfl (by decide) (by kernel_rfl) ⟨rfl, by decide, by decide⟩ ?F
    intro w mg fa h Y G hmg0
    obtain ⟨K, KX, c⟩ := Y
    have T := Pb.tx_of KX G c
    have hmg : mg ("law" : PySem.Str) = some (.ref fa) := by
      have e : (HandSHeadRun.topDef (OpenLaw.row PySem.Challenge.rw_pileboxes_k04_whole_covered).prog 33).name = ("law" : PySem.Str) := by kernel_rfl
      rw [← e]
      exact hmg0
    exact Pb.law_end T KX c hmg
