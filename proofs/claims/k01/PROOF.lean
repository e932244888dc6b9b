import PyProof.Rows.All
import Wide.All
import OpenK.AllK
import Wide.FinOn
import HandS.ForMost
import HandS.IsInst
import HandS.Codes
import HandS.Defaults
import HandS.RevRange
import HandS.NoneIn
import HandS.HeadHook4
import HandS.Walk
import KE.KUnpackStar
import HandS.SetBool
import HandS.SetKeys
import HandS.DictComp
import HandS.Style
import HandS.WordsDict
import HandS.OwnEq
import HandS.DictSub
import HandS.HeadHook1
import PyProof.InstSpecial
import HandS.MakeKwOnly
import HandS.HeadHook2
import HandS.Ends
import HandS.HeadEnd
import PyProof.ReprRoads
import PyProof.ReprReads
import PyProof.StrLawsRepr
import PyProof.Rows.StrDigitsNeg
import PyProof.Rows.StrJoinMade
import HandS.Small
import HandS.Conv
import Wide.Once
import KE.KStateDown
import HandS.Head0
import HandS.Head1
import HandS.Head2
import PySem.Challenge.RW_pileboxes_k01_whole_runs
set_option Elab.async false
/-! PbBase -/
set_option Elab.async false
set_option linter.all false
set_option maxRecDepth 100000
set_option maxHeartbeats 4000000
/-! Pb: data in the abstract heap, with what is being changed hidden -/
namespace Pb
open PySem PySem.Spec PyProof.Rows L2
open C8 (Cal Mak Met pe_c pe_mk pe_mt pe_mt0 pe_gc fnScope_by)
/-! ### hidden places -/
def hide (H : Hp) (ms : List Addr) : Hp := fun a => if a ∈ ms then none else H a
theorem hide_nil {H : Hp} : hide H [] = H := by
  funext a
  unfold hide
  rw [if_neg (by simp)]
theorem hide_of {H : Hp} {ms : List Addr} {a : Addr} {o : HO} (h : hide H ms a = some o) : H a = some o ∧ a ∉ ms := by
  unfold hide at h
  by_cases q : a ∈ ms
  · rw [if_pos q] at h; cases h
  · rw [if_neg q] at h; exact ⟨h, q⟩
theorem hide_at {H : Hp} {ms : List Addr} {a : Addr} (q : a ∉ ms) : hide H ms a = H a := by
  unfold hide
  rw [if_neg q]
theorem hide_in {H : Hp} {ms : List Addr} {a : Addr} (q : a ∈ ms) : hide H ms a = none := by
  unfold hide
  rw [if_pos q]
theorem Same.hide {H H' : Hp} (s : Same H H') (ms : List Addr) : Same (hide H ms) (hide H' ms) := fun b o e => by
  obtain ⟨e1, e2⟩ := hide_of e
  rw [hide_at e2]
  exact s b o e1
theorem same_show {H : Hp} {ms : List Addr} : Same (hide H ms) H := fun b o e => (hide_of e).1
theorem same_less {H : Hp} {ms ms' : List Addr} (h : ∀ a ∈ ms', a ∈ ms) : Same (hide H ms) (hide H ms') := fun b o e => by
  obtain ⟨e1, e2⟩ := hide_of e
  rw [hide_at fun z => e2 (h b z)]
  exact e1
/-- what is hidden is tracked -/
def Tk (H : Hp) (ms : List Addr) : Prop := ∀ m ∈ ms, H m ≠ none
theorem Tk.nil {H : Hp} : Tk H [] := fun _ h => nomatch h
theorem Tk.cons {H : Hp} {m : Addr} {ms : List Addr} {o : HO} (h : H m = some o) (t : Tk H ms) : Tk H (m :: ms) := fun x hx => by
  rcases List.mem_cons.mp hx with e | hx
  · rw [e, h]; exact fun z => nomatch z
  · exact t x hx
theorem Tk.same {H H' : Hp} {ms : List Addr} (t : Tk H ms) (s : Same H H') : Tk H' ms := fun m hm => by
  cases e : H m with
  | none => exact absurd e (t m hm)
  | some o => rw [s m o e]; exact fun z => nomatch z
theorem Tk.upd {H : Hp} {ms : List Addr} {a : Addr} {o : HO} (t : Tk H ms) : Tk (upd H a o) ms := fun m hm => by
  by_cases e : m = a
  · rw [e, upd_same]; exact fun z => nomatch z
  · rw [upd_ne e]; exact t m hm
theorem Tk.out {H : Hp} {ms : List Addr} {p : Addr} (t : Tk H ms) (h : H p = none) : p ∉ ms := fun z => t p z h
theorem same_new {H : Hp} {p : Addr} {o : HO} (h : H p = none) : Same H (upd H p o) := fun b u e => by
  rw [upd_ne (ne_of_none e h)]
  exact e
theorem same_upd {A H : Hp} {ms : List Addr} {p : Addr} {o : HO} (s : Same A (hide H ms)) (h : H p = none) : Same A (hide (upd H p o) ms) := s.trans (Same.hide (same_new h) ms)
/-- a change at a hidden place -/
theorem hide_upd {H : Hp} {ms : List Addr} {m : Addr} {o : HO} (h : m ∈ ms) : hide (upd H m o) ms = hide H ms := by
  funext a
  unfold hide
  by_cases q : a ∈ ms
  · rw [if_pos q, if_pos q]
  · rw [if_neg q, if_neg q, upd_ne fun z => q (by rw [z]; exact h)]
/-- one more place hidden, new -/
theorem hide_new {H : Hp} {ms : List Addr} {p : Addr} {o : HO} (h : H p = none) : hide (upd H p o) (p :: ms) = hide H ms := by
  funext a
  unfold hide
  by_cases e : a = p
  · rw [e, if_pos (List.mem_cons_self ..)]
    by_cases q : p ∈ ms
    · rw [if_pos q]
    · rw [if_neg q, h]
  · by_cases q : a ∈ ms
    · rw [if_pos (List.mem_cons_of_mem _ q), if_pos q]
    · rw [if_neg (fun z => (List.mem_cons.mp z).elim e q), if_neg q, upd_ne e]
theorem new_at {H : Hp} {ms : List Addr} {p : Addr} {o : HO} (t : Tk H ms) (h : H p = none) : hide (upd H p o) ms p = some o := by
  rw [hide_at (t.out h), upd_same]
theorem keep_at {H : Hp} {a p : Addr} {o u : HO} (e : H a = some o) (h : H p = none) : upd H p u a = some o := by
  rw [upd_ne (ne_of_none e h)]
  exact e
/-! ### all but some places stand -/
def Sx (ms : List Addr) (H H' : Hp) : Prop := ∀ b o, b ∉ ms → H b = some o → H' b = some o
theorem Sx.refl {ms : List Addr} {H : Hp} : Sx ms H H := fun _ _ _ e => e
theorem Sx.trans {ms : List Addr} {H H1 H2 : Hp} (a : Sx ms H H1) (b : Sx ms H1 H2) : Sx ms H H2 := fun c o h e => b c o h (a c o h e)
theorem Sx.of {ms : List Addr} {H H' : Hp} (s : Same H H') : Sx ms H H' := fun b o _ e => s b o e
theorem Sx.hide {ms : List Addr} {H H' : Hp} (s : Sx ms H H') {ms' : List Addr} (h : ∀ a ∈ ms, a ∈ ms') : Same (Pb.hide H ms') (Pb.hide H' ms') := fun b o e => by
  obtain ⟨e1, e2⟩ := hide_of e
  rw [hide_at e2]
  exact s b o (fun z => e2 (h b z)) e1
theorem Sx.upd {ms : List Addr} {H : Hp} {m : Addr} {o : HO} (h : m ∈ ms) : Sx ms H (upd H m o) := fun b u hb e => by
  rw [L2.upd_ne fun z => hb (by rw [z]; exact h)]
  exact e
theorem Sx.mono {ms ms' : List Addr} {H H' : Hp} (s : Sx ms H H') (h : ∀ a ∈ ms, a ∈ ms') : Sx ms' H H' := fun b o hb e => s b o (fun z => hb (h b z)) e
/-! ### data -/
section
variable {K : PySem.W.Frag} {H H' : Hp}
theorem sqL_same {a : Addr} {xs : List V} (s : Same H H') (h : SqL K H a xs) : SqL K H' a xs := Same.seq s h
theorem sqT_same {a : Addr} {xs : List V} (s : Same H H') (h : SqT K H a xs) : SqT K H' a xs := by
  rcases h with (h | ⟨o, h⟩) | h
  · exact .inl (.inl (s _ _ h))
  · exact .inl (.inr ⟨o, s _ _ h⟩)
  · exact .inr h
mutual
theorem Dp.mono (s : Same H H') : ∀ {v : V} {d : PyData}, Dp K H v d → Dp K H' v d
  | _, _, .non => .non
  | _, _, .bl b => .bl b
  | _, _, .int i => .int i
  | _, _, .str x => .str x
  | _, _, .lst h a => .lst (sqL_same s h) (DpAll.mono s a)
  | _, _, .tup h a => .tup (sqT_same s h) (DpAll.mono s a)
theorem DpAll.mono (s : Same H H') : ∀ {vs : List V} {ds : List PyData}, DpAll K H vs ds → DpAll K H' vs ds
  | _, _, .nil => .nil
  | _, _, .cons h a => .cons (Dp.mono s h) (DpAll.mono s a)
end
theorem DpAll.length : ∀ {vs : List V} {ds : List PyData}, DpAll K H vs ds → vs.length = ds.length
  | _, _, .nil => rfl
  | _, _, .cons _ a => congrArg Nat.succ (DpAll.length a)
theorem DpAll.get : ∀ {vs : List V} {ds : List PyData} {i : Nat} {d : PyData}, DpAll K H vs ds → ds[i]? = some d → ∃ v, vs[i]? = some v ∧ Dp K H v d
  | _, _, _, _, .nil, e => by simp at e
  | _, _, 0, _, .cons h _, e => by simp at e; subst e; exact ⟨_, rfl, h⟩
  | _, _, i + 1, _, .cons _ a, e => by
    obtain ⟨v, h1, h2⟩ := DpAll.get (i := i) a (by simpa using e)
    exact ⟨v, by simpa using h1, h2⟩
theorem DpAll.at : ∀ {vs : List V} {ds : List PyData} {i : Nat} {v : V}, DpAll K H vs ds → vs[i]? = some v → ∃ d, ds[i]? = some d ∧ Dp K H v d
  | _, _, _, _, .nil, e => by simp at e
  | _, _, 0, _, .cons h _, e => by simp at e; subst e; exact ⟨_, rfl, h⟩
  | _, _, i + 1, _, .cons _ a, e => by
    obtain ⟨d, h1, h2⟩ := DpAll.at (i := i) a (by simpa using e)
    exact ⟨d, by simpa using h1, h2⟩
theorem DpAll.append : ∀ {vs ws : List V} {ds es : List PyData}, DpAll K H vs ds → DpAll K H ws es → DpAll K H (vs ++ ws) (ds ++ es)
  | _, _, _, _, .nil, b => b
  | _, _, _, _, .cons h a, b => .cons h (DpAll.append a b)
theorem DpAll.take : ∀ {vs : List V} {ds : List PyData} (n : Nat), DpAll K H vs ds → DpAll K H (vs.take n) (ds.take n)
  | _, _, 0, _ => .nil
  | _, _, _ + 1, .nil => .nil
  | _, _, n + 1, .cons h a => .cons h (DpAll.take n a)
theorem DpAll.drop : ∀ {vs : List V} {ds : List PyData} (n : Nat), DpAll K H vs ds → DpAll K H (vs.drop n) (ds.drop n)
  | _, _, 0, a => a
  | _, _, _ + 1, .nil => .nil
  | _, _, n + 1, .cons _ a => DpAll.drop n a
theorem DpAll.one {v : V} {d : PyData} (h : Dp K H v d) : DpAll K H [v] [d] := .cons h .nil
theorem DpAll.ints : ∀ (ns : List Int), DpAll K H (ns.map V.int) (ns.map PyData.int)
  | [] => .nil
  | n :: ns => .cons (.int n) (DpAll.ints ns)
theorem DpAll.ints_inv : ∀ {vs : List V} {ns : List Int}, DpAll K H vs (ns.map PyData.int) → vs = ns.map V.int
  | _, [], h => by cases h; rfl
  | _, n :: ns, h => by
    cases h with
    | cons h1 h2 =>
      cases h1
      rw [DpAll.ints_inv h2]; rfl
theorem DpAll.strs : ∀ (ns : List Str), DpAll K H (ns.map V.str) (ns.map PyData.str)
  | [] => .nil
  | n :: ns => .cons (.str n) (DpAll.strs ns)
theorem DpAll.strs_inv : ∀ {vs : List V} {ns : List Str}, DpAll K H vs (ns.map PyData.str) → vs = ns.map V.str
  | _, [], h => by cases h; rfl
  | _, n :: ns, h => by
    cases h with
    | cons h1 h2 =>
      cases h1
      rw [DpAll.strs_inv h2]; rfl
theorem DpAll.bls_inv : ∀ {vs : List V} {bs : List Bool}, DpAll K H vs (bs.map PyData.bool) → vs = bs.map V.bl
  | _, [], h => by cases h; rfl
  | _, n :: ns, h => by
    cases h with
    | cons h1 h2 =>
      cases h1
      rw [DpAll.bls_inv h2]; rfl
theorem dp_non {v : V} (h : Dp K H v .none) : v = .non := by cases h; rfl
theorem dp_bool {v : V} {b : Bool} (h : Dp K H v (.bool b)) : v = .bl b := by cases h; rfl
theorem dp_int {v : V} {i : Int} (h : Dp K H v (.int i)) : v = .int i := by cases h; rfl
theorem dp_str {v : V} {x : Str} (h : Dp K H v (.str x)) : v = .str x := by cases h; rfl
theorem dp_list {v : V} {ds : List PyData} (h : Dp K H v (.list ds)) : ∃ a xs, v = .ref a ∧ SqL K H a xs ∧ DpAll K H xs ds := by
  cases h with
  | lst h1 h2 => exact ⟨_, _, rfl, h1, h2⟩
theorem dp_tuple {v : V} {ds : List PyData} (h : Dp K H v (.tuple ds)) : ∃ a xs, v = .ref a ∧ SqT K H a xs ∧ DpAll K H xs ds := by
  cases h with
  | tup h1 h2 => exact ⟨_, _, rfl, h1, h2⟩
/-! ### isinstance -/
def tyD : PyData → String
  | .none => "NoneType"
  | .bool _ => "bool"
  | .int _ => "int"
  | .str _ => "str"
  | .list _ => "list"
  | .tuple _ => "tuple"
  | .dict _ => "dict"
theorem Dp.tyx {v : V} {d : PyData} (h : Dp K H v d) : TyX K H v (.type (tyD d)) := by
  cases h with
  | non => exact .base .non
  | bl b => exact .base (.bl b)
  | int i => exact .base (.int i)
  | str x => exact .base (.str x)
  | lst h _ =>
    rcases h with (h | ⟨o, h⟩) | ⟨o, its, n, e, c, _⟩
    · exact .base (.lst h)
    · exact .base (.frz h)
    · exact .kList e c
  | tup h _ =>
    rcases h with (h | ⟨o, h⟩) | ⟨o, its, n, e, c, _⟩
    · exact .base (.tup h)
    · exact .fTuple h
    · exact .kTuple e c
def isInt : PyData → Bool
  | .int _ => true
  | .bool _ => true
  | _ => false
def isBool : PyData → Bool
  | .bool _ => true
  | _ => false
def isStr : PyData → Bool
  | .str _ => true
  | _ => false
def isList : PyData → Bool
  | .list _ => true
  | _ => false
def isTuple : PyData → Bool
  | .tuple _ => true
  | _ => false
theorem kit_int (d : PyData) : kitB (tyD d) "int" = some (isInt d) := by cases d <;> kernel_rfl
theorem kit_bool (d : PyData) : kitB (tyD d) "bool" = some (isBool d) := by cases d <;> kernel_rfl
theorem kit_str (d : PyData) : kitB (tyD d) "str" = some (isStr d) := by cases d <;> kernel_rfl
theorem kit_list (d : PyData) : kitB (tyD d) "list" = some (isList d) := by cases d <;> kernel_rfl
theorem kit_tuple (d : PyData) : kitB (tyD d) "tuple" = some (isTuple d) := by cases d <;> kernel_rfl
theorem a_isi {v : V} {d : PyData} {T : String} {b : Bool} {Q : VK} (h : Dp K H v d) (e : kitB (tyD d) T = some b) (q : Q (.bl b) H) : rIsi K [v, .ty T] H Q := ⟨v, .ty T, _, _, b, rfl, .ty T, Dp.tyx h, kit_ty e, q⟩
end
/-! ### defs -/
section
variable {P : Program} {w : World} {K : PySem.W.Frag} {mg : Str → Option Value} {base : Heap}
abbrev FnD (K : PySem.W.Frag) (x qual : Str) (st : Stmt) (dvs : List V) (kws : List (Str × V)) (f : Addr) : Prop := ∃ fd, FunD K x qual (L2.defArgs st) (L2.defBody st) (L2.defScope st) dvs kws f fd
/-- a def without defaults, by its body -/
theorem cal_of {x : Str} {st : Stmt} {f : Addr} {N ps : List Str} {k : Nat} {sp : Sp} (D : FnD K x x st [] [] f) (g : mg x = some (.ref f)) (S : FnScope N ps (L2.defScope st))
    (hb : ∀ (kV doc pm : Value) (an : Option Addr) (cdv ct : Value) (us : List Value), us.length = ps.length → bindArgs (PySem.W.fnOf x x (L2.defArgs st) (L2.defBody st) (L2.defScope st) .none kV doc pm an cdv ct) ⟨us, []⟩ = pure (ps.zip us))
    (len : ∀ vs H Q E, sp vs H Q E → vs.length = ps.length)
    (hbody : ∀ (cdv : Value) (A : Around) (outer : List Env) (s : Shared) (H : Hp) (vs : List V) (Q : VK) (E : XK), Room k (A.deeper (envOfC x (L2.defScope st) s.heap.objs.size f cdv)) → sp vs H Q E →
      ∃ t, PSs (cxOf CX0 P w K mg base N x (L2.defScope st) f cdv A outer s H E).nox (L2.defBody st) t ∧ t { nx := fun _ H' => Q .non H', rt := Q } (start N vs) H) : Cal P w K mg base (k + 1) x sp [] := by
  obtain ⟨fd, F⟩ := D
  refine ⟨f, fd, ps, [], F.ok S len fun cdv A outer s H vs Q E hr h => ?_, g, F.kp, F.bindsN hb, .nil⟩
  obtain ⟨t, h1, h2⟩ := hbody cdv A outer s H vs Q E hr h
  exact ⟨t, h1.nox, h2⟩
theorem met_of {x qual : Str} {C : Addr} {st : Stmt} {f : Addr} {N ps : List Str} {k : Nat} {sp : Sp} (c : Cls K C) (me : Meth K C x f) (D : FnD K x qual st [] [] f) (S : FnScope N ps (L2.defScope st))
    (hb : ∀ (kV doc pm : Value) (an : Option Addr) (cdv ct : Value) (us : List Value), us.length = ps.length → bindArgs (PySem.W.fnOf x qual (L2.defArgs st) (L2.defBody st) (L2.defScope st) .none kV doc pm an cdv ct) ⟨us, []⟩ = pure (ps.zip us))
    (len : ∀ vs H Q E, sp vs H Q E → vs.length = ps.length)
    (hbody : ∀ (cdv : Value) (A : Around) (outer : List Env) (s : Shared) (H : Hp) (vs : List V) (Q : VK) (E : XK), Room k (A.deeper (envOfC qual (L2.defScope st) s.heap.objs.size f cdv)) → sp vs H Q E →
      ∃ t, PSs (cxOf CX0 P w K mg base N qual (L2.defScope st) f cdv A outer s H E).nox (L2.defBody st) t ∧ t { nx := fun _ H' => Q .non H', rt := Q } (start N vs) H) : Met P w K mg base (k + 1) C x sp [] := by
  obtain ⟨fd, F⟩ := D
  refine ⟨f, fd, ps, [], c, me, F.ok S len fun cdv A outer s H vs Q E hr h => ?_, F.bindsN hb, .nil⟩
  obtain ⟨t, h1, h2⟩ := hbody cdv A outer s H vs Q E hr h
  exact ⟨t, h1.nox, h2⟩
theorem mak_of {x qual : Str} {C : Addr} {st : Stmt} {f : Addr} {N ps : List Str} {k : Nat} {sp : Sp} (M : Mk K C f) (g : mg x = some (.ref C)) (D : FnD K "__init__" qual st [] [] f) (S : FnScope N ps (L2.defScope st))
    (hb : ∀ (kV doc pm : Value) (an : Option Addr) (cdv ct : Value) (us : List Value), us.length = ps.length → bindArgs (PySem.W.fnOf "__init__" qual (L2.defArgs st) (L2.defBody st) (L2.defScope st) .none kV doc pm an cdv ct) ⟨us, []⟩ = pure (ps.zip us))
    (len : ∀ vs H Q E, sp vs H Q E → vs.length = ps.length)
    (hbody : ∀ (cdv : Value) (A : Around) (outer : List Env) (s : Shared) (H : Hp) (vs : List V) (Q : VK) (E : XK), Room k (A.deeper (envOfC qual (L2.defScope st) s.heap.objs.size f cdv)) → sp vs H Q E →
      ∃ t, PSs (cxOf CX0 P w K mg base N qual (L2.defScope st) f cdv A outer s H E).nox (L2.defBody st) t ∧ t { nx := fun _ H' => Q .non H', rt := Q } (start N vs) H) : Mak P w K mg base (k + 1) x C sp [] := by
  obtain ⟨fd, F⟩ := D
  refine ⟨f, fd, ps, [], M, F.ok S len fun cdv A outer s H vs Q E hr h => ?_, g, F.bindsN hb, .nil⟩
  obtain ⟨t, h1, h2⟩ := hbody cdv A outer s H vs Q E hr h
  exact ⟨t, h1.nox, h2⟩
/-- a promise over data: it changes nothing that stood; its answer is a plain value -/
def spS (K : PySem.W.Frag) (n : Nat) (F : List PyData → Option V) : Sp := fun vs H Q _ => ∃ ms ds r, Tk H ms ∧ DpAll K (hide H ms) vs ds ∧ ds.length = n ∧ F ds = some r ∧ ∀ H', Same H H' → Q r H'
/-- .. its answer is data -/
def spD (K : PySem.W.Frag) (n : Nat) (F : List PyData → Option PyData) : Sp := fun vs H Q _ => ∃ ms ds d, Tk H ms ∧ DpAll K (hide H ms) vs ds ∧ ds.length = n ∧ F ds = some d ∧ ∀ H' r, Same H H' → Dp K (hide H' ms) r d → Q r H'
theorem spS_len {n : Nat} {F : List PyData → Option V} (vs : List V) (H : Hp) (Q : VK) (E : XK) (h : spS K n F vs H Q E) : vs.length = n := by
  obtain ⟨ms, ds, r, _, h, e, _⟩ := h
  rw [DpAll.length h, e]
theorem spD_len {n : Nat} {F : List PyData → Option PyData} (vs : List V) (H : Hp) (Q : VK) (E : XK) (h : spD K n F vs H Q E) : vs.length = n := by
  obtain ⟨ms, ds, r, _, h, e, _⟩ := h
  rw [DpAll.length h, e]
end
/-! ### readings made monotone -/
section
variable {X : Cx}
def tM (t : TE) : TE := fun σ H Q => ∃ Q' : VK, t σ H Q' ∧ ∀ v H', Q' v H' → Q v H'
def tMT (t : TT) : TT := fun σ H Q => ∃ Q' : Bool → Hp → Prop, t σ H Q' ∧ ∀ v H', Q' v H' → Q v H'
def gM (g : TG) : TG := fun v σ H Q => ∃ Q' : L2.St → Hp → Prop, g v σ H Q' ∧ ∀ σ' H', Q' σ' H' → Q σ' H'
theorem pe_m {e : Expr} {t : TE} (h : PE X e t) : PE X e (tM t) := ⟨fun pins s σ H Q I hw => by
  obtain ⟨Q', h1, m⟩ := hw
  exact thn (h.run pins s σ H Q' I h1) fun u s' ⟨v, H', I', r, q⟩ => ⟨v, H', I', r, m _ _ q⟩⟩
theorem pt_m {e : Expr} {t : TT} (h : PT X e t) : PT X e (tMT t) := ⟨fun pins s σ H Q I hw => by
  obtain ⟨Q', h1, m⟩ := hw
  exact thn (h.run pins s σ H Q' I h1) fun u s' ⟨H', I', q⟩ => ⟨H', I', m _ _ q⟩⟩
theorem pg_m {e : Expr} {t : TG} (h : PG X e t) : PG X e (gM t) := ⟨fun pins s σ H v u Q I r hw => by
  obtain ⟨Q', h1, m⟩ := hw
  exact thn (h.run pins s σ H v u Q' I r h1) fun _ s' ⟨σ', H', I', q⟩ => ⟨σ', H', I', m _ _ q⟩⟩
def tYesM : TT := tMT tYes
theorem pts_nilM : PTs X [] (tMT tYes) := ⟨fun pins s σ H Q I hw => by
  obtain ⟨Q', h1, m⟩ := hw
  exact wpAny_tests_nil ⟨H, I, m _ _ h1⟩⟩
end
/-- what a comprehension asks once its source is known -/
def LcGoal (g : TG) (tt : TT) (te : TE) (vs : List Nat) (σ : L2.St) (J : It) (H1 : Hp) (D : Addr) (Qd : Hp → Prop) : Prop :=
    ∃ W : Nat → Nat → Hp → Prop, (∃ m, W 0 m (upd H1 D (.lst []))) ∧ ∀ i m H, W i m H →
      (J.stop i H ∧ Qd H) ∨ (J.go i H ∧ ∃ Nx : Hp → Prop, (∀ H', Nx H' → ∃ m', m' < m ∧ W (i + 1) m' H') ∧ ∀ x H', J.yld i H x H' → gM g x (wipe σ vs) H' fun σ2 H2 => wipe σ2 vs = wipe σ vs ∧ tMT tt σ2 H2 fun b H3 =>
        if b = true then tM te σ2 H3 fun y H4 => ∃ acc, H4 D = some (.lst acc) ∧ acc.length < sizeLine ∧ Nx (upd H4 D (.lst (acc ++ [y]))) else Nx H3)
theorem a_lc {wi : TI} {g : TG} {tt : TT} {te : TE} {vs : List Nat} {σ : L2.St} {H : Hp} {Q : VK} (h : wi σ H fun J H1 => ∀ D, H1 D = none → LcGoal g tt te vs σ J H1 D fun H' => Q (.ref D) H') : tLc wi (gM g) (tMT tt) (tM te) vs σ H Q := h
/-- a comprehension whose turns change nothing: p which turns are kept, e what they give -/
theorem lc_pure {K : PySem.W.Frag} {J : It} {n : Nat} {G : Hp → Prop} {Y : Nat → Hp → V → Hp → Prop} (w : Walk J n G Y) {g : TG} {tt : TT} {te : TE} {vs : List Nat} {σ : L2.St} {H1 : Hp} {D : Addr} {Qd : Hp → Prop} {ms : List Addr}
    (hD : H1 D = none) (tk : Tk H1 ms) (hn : n < sizeLine) (hG : ∀ H, Same H1 H → G H) (p : Nat → Bool) (e : Nat → PyData)
    (step : ∀ i x H H', i < n → Same H1 H → H D ≠ none → Y i H x H' → g x (wipe σ vs) H' fun σ2 H2 => wipe σ2 vs = wipe σ vs ∧ tt σ2 H2 fun b H3 => b = p i ∧ (b = false → Same H H3) ∧ (b = true → te σ2 H3 fun y H4 => Same H H4 ∧ Dp K (hide H4 (D :: ms)) y (e i)))
    (done : ∀ H' ys, Same H1 H' → H' D = some (.lst ys) → DpAll K (hide H' (D :: ms)) ys (((List.range n).filter p).map e) → Qd H') :
    LcGoal g tt te vs σ J H1 D Qd := by
  refine lc_it w (fun i H => Same H1 H ∧ ∃ acc, H D = some (.lst acc) ∧ acc.length ≤ i ∧ DpAll K (hide H (D :: ms)) acc (((List.range i).filter p).map e)) ⟨same_new hD, [], upd_same, Nat.le_refl _, .nil⟩ (fun i H _ q => hG H q.1) ?_ ?_
  · rintro i x H H' hi ⟨s1, acc, hL, hl, ha⟩ y
    refine ⟨_, step i x H H' hi s1 (by rw [hL]; exact fun z => nomatch z) y, fun σ2 H2 q => ⟨q.1, _, q.2, fun b H3 q => ?_⟩⟩
    obtain ⟨e1, q0, q⟩ := q
    cases b with
    | true =>
      refine iteT ⟨_, q rfl, fun v H4 r => ?_⟩
      obtain ⟨s4, hv⟩ := r
      have h4 : H4 D = some (.lst acc) := s4 _ _ hL
      refine ⟨acc, h4, by omega, (fun b o z => by rw [upd_ne (ne_of_none z hD)]; exact s4 _ _ (s1 _ _ z)), _, upd_same, by rw [List.length_append, List.length_singleton]; omega, ?_⟩
      · rw [hide_upd (List.mem_cons_self ..), List.range_succ, List.filter_append, List.map_append]
        refine DpAll.append (DpAll.mono (Same.hide s4 _) ha) ?_
        rw [List.filter_cons, if_pos e1.symm]
        exact .cons hv .nil
    | false =>
      refine iteF ⟨s1.trans (q0 rfl), acc, q0 rfl _ _ hL, by omega, ?_⟩
      rw [List.range_succ, List.filter_append, List.map_append, List.filter_cons, if_neg (by rw [← e1]; exact Bool.false_ne_true)]
      rw [List.filter_nil, List.map_nil, List.append_nil]
      exact DpAll.mono (Same.hide (q0 rfl) _) ha
  · rintro H ⟨s1, acc, hL, _, ha⟩
    exact done H acc s1 hL ha
theorem cxK {CX : CXT} {P : Program} {w : World} {K : PySem.W.Frag} {mg : Str → Option Value} {base : Heap} {N : List Str} {q : Str} {sc : Scope} {f : Addr} {cd : Value} {A : Around} {outer : List Env} {s : Shared} {H : Hp} {E : XK} : (cxOf CX P w K mg base N q sc f cd A outer s H E).K = K := rfl
/-! ### answers: what a reading asks, by data -/
section
variable {X : Cx} {K : PySem.W.Frag} {H : Hp} {Q : VK} {v x y : V}
theorem atI_len {α β : Type} {xs : List α} {ys : List β} (h : xs.length = ys.length) {i : Int} {b : β} (e : atI ys i = some b) : ∃ j, ixN ys.length i = some j ∧ ys[j]? = some b ∧ atI xs i = xs[j]? := by
  unfold atI at e ⊢
  rw [h]
  cases q : ixN ys.length i with
  | none => rw [q] at e; cases e
  | some j => rw [q] at e; exact ⟨j, rfl, e, rfl⟩
theorem a_ixT {ds : List PyData} {i : Int} {d : PyData} (h : Dp K H v (.tuple ds)) (e : atI ds i = some d) (q : ∀ u, Dp K H u d → Q u H) : rIx K v (.int i) H Q := by
  obtain ⟨a, xs, rfl, hs, ha⟩ := dp_tuple h
  obtain ⟨j, _, e2, e3⟩ := atI_len (DpAll.length ha) e
  obtain ⟨u, e4, hu⟩ := DpAll.get ha e2
  exact .inr (.inl ⟨a, xs, i, u, rfl, rfl, hs, e3.trans e4, q u hu⟩)
theorem a_ixL {ds : List PyData} {i : Int} {d : PyData} (h : Dp K H v (.list ds)) (e : atI ds i = some d) (q : ∀ u, Dp K H u d → Q u H) : rIx K v (.int i) H Q := by
  obtain ⟨a, xs, rfl, hs, ha⟩ := dp_list h
  obtain ⟨j, _, e2, e3⟩ := atI_len (DpAll.length ha) e
  obtain ⟨u, e4, hu⟩ := DpAll.get ha e2
  exact .inl ⟨a, xs, i, u, rfl, rfl, hs, e3.trans e4, q u hu⟩
/-- len of a list or a tuple; of a text -/
def rLenQ (K : PySem.W.Frag) : List V → Hp → VK → Prop := fun xs H Q => ∃ p ys, xs = [.ref p] ∧ (SqL K H p ys ∨ SqT K H p ys) ∧ Q (.int ys.length) H
theorem call_lenQ : CallR X (.builtin "len") (rLenQ X.K) := call_len_seq
theorem a_lenL {ds : List PyData} (h : Dp K H v (.list ds)) (q : Q (.int ds.length) H) : rLenQ K [v] H Q := by
  obtain ⟨a, xs, rfl, hs, ha⟩ := dp_list h
  exact ⟨a, xs, rfl, .inl hs, by rw [DpAll.length ha]; exact q⟩
theorem a_lenT {ds : List PyData} (h : Dp K H v (.tuple ds)) (q : Q (.int ds.length) H) : rLenQ K [v] H Q := by
  obtain ⟨a, xs, rfl, hs, ha⟩ := dp_tuple h
  exact ⟨a, xs, rfl, .inr hs, by rw [DpAll.length ha]; exact q⟩
def rLenS : List V → Hp → VK → Prop := fun xs H Q => ∃ z : Str, xs = [.str z] ∧ z.length ≤ sizeLine ∧ Q (.int z.length) H
theorem call_lenS : CallR X (.builtin "len") rLenS := call_len_str
def rMin2 : List V → Hp → VK → Prop := fun xs H Q => ∃ i j, xs = [.int i, .int j] ∧ Q (.int (min i j)) H
def rMax2 : List V → Hp → VK → Prop := fun xs H Q => ∃ i j, xs = [.int i, .int j] ∧ Q (.int (max i j)) H
theorem call_min2' (hc : X.calm = true) : CallR X (.builtin "min") rMin2 := fun pins s σ H xs us Q I r h => by
  obtain ⟨i, j, e, q⟩ := h
  refine call_min2 hc pins s σ H xs us Q I r ⟨i, j, e, ?_⟩
  have e2 : (if j < i then j else i) = min i j := by split <;> omega
  rw [e2]; exact q
theorem call_max2' (hc : X.calm = true) : CallR X (.builtin "max") rMax2 := fun pins s σ H xs us Q I r h => by
  obtain ⟨i, j, e, q⟩ := h
  refine call_max2 hc pins s σ H xs us Q I r ⟨i, j, e, ?_⟩
  have e2 : (if j > i then j else i) = max i j := by split <;> omega
  rw [e2]; exact q
def rListOf (K : PySem.W.Frag) : List V → Hp → VK → Prop := fun xs H Q => ∃ p ys, xs = [.ref p] ∧ (SqL K H p ys ∨ SqT K H p ys) ∧ ∀ l, H l = none → Q (.ref l) (upd H l (.lst ys))
theorem call_listOf : CallR X (.type "list") (rListOf X.K) := call_list_of
def rTupOf (K : PySem.W.Frag) : List V → Hp → VK → Prop := fun xs H Q => ∃ p ys, xs = [.ref p] ∧ ((SqL K H p ys ∧ ∀ l, H l = none → Q (.ref l) (upd H l (.tup ys))) ∨ (SqT K H p ys ∧ Q (.ref p) H))
theorem call_tupOf : CallR X (.type "tuple") (rTupOf X.K) := call_tuple_of
def rAbs : List V → Hp → VK → Prop := fun xs H Q => ∃ i, xs = [.int i] ∧ Q (.int i.natAbs) H
theorem call_absI : CallR X (.builtin "abs") rAbs := fun pins s σ H xs us Q I r h => by
  obtain ⟨i, e, q⟩ := h
  refine call_abs pins s σ H xs us Q I r ⟨i, e, ?_⟩
  have e2 : (if i < 0 then -i else i) = (i.natAbs : Int) := by split <;> omega
  rw [e2]; exact q
theorem inV_strs {w : Str} : ∀ {ws : List Str}, inV (.str w) (ws.map V.str) = decide (w ∈ ws)
  | [] => by simp [inV]
  | x :: ws => by
    have ih := inV_strs (w := w) (ws := ws)
    unfold inV at ih ⊢
    rw [List.map_cons, List.any_cons, ih]
    have e : eqV (.str x) (.str w) = decide (x = w) := by
      unfold eqV
      first
        | rfl
        | (by_cases q : x = w <;> simp [q])
    rw [e]
    by_cases q : x = w
    · simp [q]
    · simp [q, Ne.symm q, fun z : w = x => q z.symm]
theorem flat_strs : ∀ ws : List Str, (ws.map V.str).all flatV = true
  | [] => rfl
  | w :: ws => by rw [List.map_cons, List.all_cons, flat_strs ws]; rfl
theorem a_in_strs {neg : Bool} {w : Str} {ws : List Str} {a : Addr} (h : SqL K H a (ws.map V.str) ∨ SqT K H a (ws.map V.str)) (q : Q (.bl (if neg then !decide (w ∈ ws) else decide (w ∈ ws))) H) : rIn K neg (.str w) (.ref a) H Q :=
  ⟨a, _, rfl, h, rfl, flat_strs ws, by rw [inV_strs]; exact q⟩
theorem a_eqD {d e : PyData} (h1 : Dp K H x d) (h2 : Dp K H y e) (s1 : SeqAt.shaped d = true) (s2 : SeqAt.shaped e = true) (q : Q (.bl (PyData.eqv d e)) H) : rEqD K x y H Q := ⟨d, e, h1, h2, s1, s2, q⟩
theorem a_neD {d e : PyData} (h1 : Dp K H x d) (h2 : Dp K H y e) (s1 : SeqAt.shaped d = true) (s2 : SeqAt.shaped e = true) (q : Q (.bl (!PyData.eqv d e)) H) : rNeD K x y H Q := ⟨d, e, h1, h2, s1, s2, q⟩
theorem a_all {bs : List Bool} (h : Dp K H v (.list (bs.map PyData.bool))) (q : Q (.bl (bs.all id)) H) : rAll K [v] H Q := by
  obtain ⟨a, xs, rfl, hs, ha⟩ := dp_list h
  rw [DpAll.bls_inv ha] at hs
  exact ⟨a, bs, rfl, hs, q⟩
theorem a_sum {ns : List Int} (h : Dp K H v (.list (ns.map PyData.int))) (q : Q (.int ns.sum) H) : rSum K [v] H Q := by
  obtain ⟨a, xs, rfl, hs, ha⟩ := dp_list h
  rw [DpAll.ints_inv ha] at hs
  exact ⟨a, ns, rfl, hs, q⟩
end
theorem range_getD {α : Type} (d : α) (l : List α) : (List.range l.length).map (fun i => l.getD i d) = l := by
  apply List.ext_getElem
  · rw [List.length_map, List.length_range]
  · intro i h1 h2
    rw [List.getElem_map, List.getElem_range, List.getD_eq_getElem?_getD, List.getElem?_eq_getElem h2]
    rfl
theorem range_fm {α β : Type} (d : α) (p : α → Bool) (g : α → β) (l : List α) : ((List.range l.length).filter (fun i => p (l.getD i d))).map (fun i => g (l.getD i d)) = (l.filter p).map g := by
  have e := range_getD d l
  have e2 : (l.filter p).map g = (((List.range l.length).map (fun i => l.getD i d)).filter p).map g := by rw [e]
  rw [e2, List.filter_map, List.map_map]
  rfl
theorem range_m {α β : Type} (d : α) (g : α → β) (l : List α) : ((List.range l.length).filter (fun _ => true)).map (fun i => g (l.getD i d)) = l.map g := by
  have e := range_fm d (fun _ => true) g l
  rw [e, List.filter_eq_self.mpr fun _ _ => rfl]
theorem atI_0 {α : Type} {x : α} {xs : List α} : atI (x :: xs) 0 = some x := by
  unfold atI ixN
  rw [if_pos (by omega), if_pos (by rw [List.length_cons]; omega)]
  rfl
theorem atI_1 {α : Type} {x y : α} {xs : List α} : atI (x :: y :: xs) 1 = some y := by
  unfold atI ixN
  rw [if_pos (by omega), if_pos (by rw [List.length_cons, List.length_cons]; omega)]
  rfl
/-- a comprehension over data -/
theorem lc_data {K : PySem.W.Frag} {J : It} {xs : List V} {ds : List PyData} {G : Hp → Prop} (w : Walk J xs.length G (YAt xs)) {g : TG} {tt : TT} {te : TE} {vs : List Nat} {σ : L2.St} {H1 : Hp} {D : Addr} {Qd : Hp → Prop} {ms : List Addr}
    (hD : H1 D = none) (tk : Tk H1 ms) (hn : ds.length < sizeLine) (ha : DpAll K (hide H1 ms) xs ds) (hG : ∀ H, Same H1 H → G H) (p : PyData → Bool) (f : PyData → PyData)
    (step : ∀ x d H, d ∈ ds → Same H1 H → H D ≠ none → Dp K (hide H (D :: ms)) x d → g x (wipe σ vs) H fun σ2 H2 => wipe σ2 vs = wipe σ vs ∧ tt σ2 H2 fun b H3 => b = p d ∧ (b = false → Same H H3) ∧ (b = true → te σ2 H3 fun y H4 => Same H H4 ∧ Dp K (hide H4 (D :: ms)) y (f d)))
    (done : ∀ H' ys, Same H1 H' → H' D = some (.lst ys) → DpAll K (hide H' (D :: ms)) ys ((ds.filter p).map f) → Qd H') :
    LcGoal g tt te vs σ J H1 D Qd := by
  have hl := DpAll.length ha
  refine lc_pure (K := K) w hD tk (by rw [hl]; exact hn) hG (fun i => p (ds.getD i .none)) (fun i => f (ds.getD i .none)) (fun i x H H' hi s1 hD2 y => ?_) (fun H' ys s1 e1 e2 => ?_)
  · obtain ⟨rfl, ex⟩ := y
    obtain ⟨d, ed, hd⟩ := DpAll.at ha ex
    have e3 : ds.getD i .none = d := by rw [List.getD_eq_getElem?_getD, ed]; rfl
    rw [e3]
    refine step x d _ (List.mem_of_getElem? ed) s1 hD2 (Dp.mono (fun b o e => ?_) hd)
    obtain ⟨q1, q2⟩ := hide_of e
    rw [hide_at (fun z => (List.mem_cons.mp z).elim (fun k => by rw [k, hD] at q1; cases q1) q2)]
    exact s1 _ _ q1
  · rw [hl, range_fm] at e2
    exact done H' ys s1 e1 e2
/-! ### a dict of the module, read at a text -/
def tKGet (K : PySem.W.Frag) (d : Addr) (td ty : TE) : TE := fun σ H Q => td σ H fun x H1 => ty σ H1 fun y H2 => ∃ (z : Str) (u0 : Value) (v0 : V), x = .ref d ∧ y = .str z ∧ PySem.W.nsIn K d z = some (some u0) ∧ RelV v0 u0 ∧ Q v0 H2
theorem pe_kdget {X : Cx} {d : Addr} {o i : Expr} {pos : Pos} {td ty : TE} (D : ∃ es n, KDict X.K X.w d es n) (ho : PE X o td) (hi : PE X i ty) (hs : NoSl i) : PE X (.Subscript o i pos) (tKGet X.K d td ty) := by
  obtain ⟨es, n, D⟩ := D
  refine ⟨fun pins s σ H Q I h => subD_of PySem.F.slot_dict_getitem.lookup hs (thn (ho.run pins s σ H _ I h) fun u s1 h1 => ?_)⟩
  obtain ⟨x, H1, I1, rx, q1⟩ := h1
  refine thn (hi.run pins s1 σ H1 _ I1 q1) fun iv s2 h2 => ?_
  obtain ⟨y, H2, I2, ry, q2⟩ := h2
  have q3 := q2
  obtain ⟨z, u0, v0, rfl, rfl, _⟩ := q3
  obtain rfl : u = Value.ref d := rx
  exact ⟨kd_type D I2, op_item_kd D _ _ _ _ (.ref d) _ _ _ _ I2 (show L2.RelV (.ref d) (.ref d) from rfl) ry q2⟩
theorem scal_ii {i j : Int} : L2.scal (.int i) (.int j) = true := rfl
theorem scal_ss {i j : Str} : L2.scal (.str i) (.str j) = true := rfl
theorem scal_bb {i j : Bool} : L2.scal (.bl i) (.bl j) = true := rfl
theorem scal_nn : L2.scal .non .non = true := rfl
theorem scal_ni {i : Int} : L2.scal .non (.int i) = true := rfl
theorem scal_in {i : Int} : L2.scal (.int i) .non = true := rfl
theorem scal_ns {i : Str} : L2.scal .non (.str i) = true := rfl
theorem scal_sn {i : Str} : L2.scal (.str i) .non = true := rfl
theorem scal_is {i : Int} {j : Str} : L2.scal (.int i) (.str j) = true := rfl
theorem scal_si {i : Int} {j : Str} : L2.scal (.str j) (.int i) = true := rfl
theorem cxP {CX : CXT} {P : Program} {w : World} {K : PySem.W.Frag} {mg : Str → Option Value} {base : Heap} {N : List Str} {q : Str} {sc : Scope} {f : Addr} {cd : Value} {A : Around} {outer : List Env} {s : Shared} {H : Hp} {E : XK} : (cxOf CX P w K mg base N q sc f cd A outer s H E).prog = P := rfl
theorem cxW {CX : CXT} {P : Program} {w : World} {K : PySem.W.Frag} {mg : Str → Option Value} {base : Heap} {N : List Str} {q : Str} {sc : Scope} {f : Addr} {cd : Value} {A : Around} {outer : List Env} {s : Shared} {H : Hp} {E : XK} : (cxOf CX P w K mg base N q sc f cd A outer s H E).w = w := rfl
/-- what a for asks once its source is known -/
def ForGoal (g : TG) (tb : TS) (D : Ends) (J : It) (σ : L2.St) (H : Hp) : Prop :=
  ∃ W : Nat → Nat → L2.St → Hp → Prop, (∃ m, W 0 m σ H) ∧ ∀ i m σ H, W i m σ H →
    (J.stop i H ∧ D.nx σ H) ∨ (J.go i H ∧ ∃ N : L2.St → Hp → Prop, (∀ σ' H', N σ' H' → ∃ m', m' < m ∧ W (i + 1) m' σ' H') ∧ ∀ x H', J.yld i H x H' → g x σ H' fun σ2 H2 => tb { D with nx := N, ct := N, bk := D.nx } σ2 H2)
theorem a_for {wi : TI} {g : TG} {tb : TS} {D : Ends} {σ : L2.St} {H : Hp} (h : wi σ H fun J H1 => ForGoal g tb D J σ H1) : tFor wi g tb D σ H := h
theorem for_go {J : It} {n : Nat} {G : Hp → Prop} {Y : Nat → Hp → V → Hp → Prop} (w : Walk J n G Y) {g : TG} {tb : TS} {D : Ends} {σ : L2.St} {H : Hp} (Pv : Nat → L2.St → Hp → Prop) (h0 : Pv 0 σ H) (hG : ∀ i σ H, i ≤ n → Pv i σ H → G H)
    (hs : ∀ i x σ H H', i < n → Pv i σ H → Y i H x H' → g x σ H' fun σ2 H2 => tb { D with nx := Pv (i + 1), ct := Pv (i + 1), bk := D.nx } σ2 H2) (hd : ∀ σ H, Pv n σ H → D.nx σ H) : ForGoal g tb D J σ H := for_it w Pv h0 hG hs hd
/-- the same, what holds at a turn's end kept from the simplifier's eyes: yes says when it does -/
theorem for_go2 {J : It} {n : Nat} {G : Hp → Prop} {Y : Nat → Hp → V → Hp → Prop} (w : Walk J n G Y) {g : TG} {tb : TS} {D : Ends} {σ : L2.St} {H : Hp} (Pv : Nat → L2.St → Hp → Prop) (h0 : Pv 0 σ H) (hG : ∀ i σ H, i ≤ n → Pv i σ H → G H)
    (hs : ∀ Pw : Nat → L2.St → Hp → Prop, (∀ i σ H, Pv i σ H → Pw i σ H) → ∀ i x σ H H', i < n → Pv i σ H → Y i H x H' → g x σ H' fun σ2 H2 => tb { D with nx := Pw (i + 1), ct := Pw (i + 1), bk := D.nx } σ2 H2) (hd : ∀ σ H, Pv n σ H → D.nx σ H) : ForGoal g tb D J σ H :=
  for_go w Pv h0 hG (fun i x σ H H' hi p y => hs Pv (fun _ _ _ q => q) i x σ H H' hi p y) hd
/-- what a while asks -/
def WhileGoal (c : TT) (tb : TS) (D : Ends) (σ : L2.St) (H : Hp) : Prop := tWhile c tb D σ H
/-! ### the same rules, the written part named -/
theorem pe_fldK {X : Cx} {K : PySem.W.Frag} {e : Expr} {f : Str} {pos : Pos} {ta : TE} (ha : PE X e ta) (hb : attributeBase e f X.env (eval e X.env) = eval e X.env) (hK : X.K = K := by rfl) : PE X (.Attribute e f pos) (tFld K ta f) := by
  subst hK; exact pe_fld ha hb
/-- a tuple taken apart -/
def gT (K : PySem.W.Frag) (n : Nat) (t : TGs) : TG := gTup K n t
section
variable {K : PySem.W.Frag} {H : Hp} {σ : L2.St} {Q : L2.St → Hp → Prop} {y : V} {i j k l : Nat}
theorem a_t2V {p : Addr} {u v : V} (h : SqT K H p [u, v]) (q : Q ((σ.set i (some u)).set j (some v)) H) : gT K 2 (gCons (gName i) (gCons (gName j) gNil)) (.ref p) σ H Q :=
  ⟨p, _, rfl, h, rfl, _, _, rfl, _, _, rfl, rfl, q⟩
theorem a_t3V {p : Addr} {u v x : V} (h : SqT K H p [u, v, x]) (q : Q (((σ.set i (some u)).set j (some v)).set k (some x)) H) : gT K 3 (gCons (gName i) (gCons (gName j) (gCons (gName k) gNil))) (.ref p) σ H Q :=
  ⟨p, _, rfl, h, rfl, _, _, rfl, _, _, rfl, _, _, rfl, rfl, q⟩
theorem a_t4V {p : Addr} {u v x z : V} (h : SqT K H p [u, v, x, z]) (q : Q ((((σ.set i (some u)).set j (some v)).set k (some x)).set l (some z)) H) : gT K 4 (gCons (gName i) (gCons (gName j) (gCons (gName k) (gCons (gName l) gNil)))) (.ref p) σ H Q :=
  ⟨p, _, rfl, h, rfl, _, _, rfl, _, _, rfl, _, _, rfl, _, _, rfl, rfl, q⟩
theorem dp_t2 {a b : PyData} (h : Dp K H y (.tuple [a, b])) : ∃ p u v, y = .ref p ∧ SqT K H p [u, v] ∧ Dp K H u a ∧ Dp K H v b := by
  obtain ⟨p, ys, rfl, hys, hya⟩ := dp_tuple h
  cases hya with
  | cons h1 hya =>
    cases hya with
    | cons h2 hya =>
      cases hya
      exact ⟨p, _, _, rfl, hys, h1, h2⟩
theorem dp_t3 {a b c : PyData} (h : Dp K H y (.tuple [a, b, c])) : ∃ p u v x, y = .ref p ∧ SqT K H p [u, v, x] ∧ Dp K H u a ∧ Dp K H v b ∧ Dp K H x c := by
  obtain ⟨p, ys, rfl, hys, hya⟩ := dp_tuple h
  cases hya with
  | cons h1 hya =>
    cases hya with
    | cons h2 hya =>
      cases hya with
      | cons h3 hya =>
        cases hya
        exact ⟨p, _, _, _, rfl, hys, h1, h2, h3⟩
theorem dp_t4 {a b c d : PyData} (h : Dp K H y (.tuple [a, b, c, d])) : ∃ p u v x z, y = .ref p ∧ SqT K H p [u, v, x, z] ∧ Dp K H u a ∧ Dp K H v b ∧ Dp K H x c ∧ Dp K H z d := by
  obtain ⟨p, ys, rfl, hys, hya⟩ := dp_tuple h
  cases hya with
  | cons h1 hya =>
    cases hya with
    | cons h2 hya =>
      cases hya with
      | cons h3 hya =>
        cases hya with
        | cons h4 hya =>
          cases hya
          exact ⟨p, _, _, _, _, rfl, hys, h1, h2, h3, h4⟩
theorem a_t2 {a b : PyData} (h : Dp K H y (.tuple [a, b])) (q : ∀ u v, Dp K H u a → Dp K H v b → Q ((σ.set i (some u)).set j (some v)) H) : gT K 2 (gCons (gName i) (gCons (gName j) gNil)) y σ H Q := by
  obtain ⟨p, u, v, rfl, hs, h1, h2⟩ := dp_t2 h
  exact a_t2V hs (q _ _ h1 h2)
theorem a_t3 {a b c : PyData} (h : Dp K H y (.tuple [a, b, c])) (q : ∀ u v x, Dp K H u a → Dp K H v b → Dp K H x c → Q (((σ.set i (some u)).set j (some v)).set k (some x)) H) : gT K 3 (gCons (gName i) (gCons (gName j) (gCons (gName k) gNil))) y σ H Q := by
  obtain ⟨p, u, v, x, rfl, hs, h1, h2, h3⟩ := dp_t3 h
  exact a_t3V hs (q _ _ _ h1 h2 h3)
theorem a_t4 {a b c d : PyData} (h : Dp K H y (.tuple [a, b, c, d])) (q : ∀ u v x z, Dp K H u a → Dp K H v b → Dp K H x c → Dp K H z d → Q ((((σ.set i (some u)).set j (some v)).set k (some x)).set l (some z)) H) : gT K 4 (gCons (gName i) (gCons (gName j) (gCons (gName k) (gCons (gName l) gNil)))) y σ H Q := by
  obtain ⟨p, u, v, x, z, rfl, hs, h1, h2, h3, h4⟩ := dp_t4 h
  exact a_t4V hs (q _ _ _ _ h1 h2 h3 h4)
theorem a_t2h {ms : List Addr} {a b : PyData} (h : Dp K (hide H ms) y (.tuple [a, b])) (q : ∀ u v, Dp K (hide H ms) u a → Dp K (hide H ms) v b → Q ((σ.set i (some u)).set j (some v)) H) : gT K 2 (gCons (gName i) (gCons (gName j) gNil)) y σ H Q := by
  obtain ⟨p, u, v, rfl, hs, h1, h2⟩ := dp_t2 h
  exact a_t2V (sqT_same same_show hs) (q _ _ h1 h2)
theorem a_t3h {ms : List Addr} {a b c : PyData} (h : Dp K (hide H ms) y (.tuple [a, b, c])) (q : ∀ u v x, Dp K (hide H ms) u a → Dp K (hide H ms) v b → Dp K (hide H ms) x c → Q (((σ.set i (some u)).set j (some v)).set k (some x)) H) : gT K 3 (gCons (gName i) (gCons (gName j) (gCons (gName k) gNil))) y σ H Q := by
  obtain ⟨p, u, v, x, rfl, hs, h1, h2, h3⟩ := dp_t3 h
  exact a_t3V (sqT_same same_show hs) (q _ _ _ h1 h2 h3)
theorem a_t4h {ms : List Addr} {a b c d : PyData} (h : Dp K (hide H ms) y (.tuple [a, b, c, d])) (q : ∀ u v x z, Dp K (hide H ms) u a → Dp K (hide H ms) v b → Dp K (hide H ms) x c → Dp K (hide H ms) z d → Q ((((σ.set i (some u)).set j (some v)).set k (some x)).set l (some z)) H) : gT K 4 (gCons (gName i) (gCons (gName j) (gCons (gName k) (gCons (gName l) gNil)))) y σ H Q := by
  obtain ⟨p, u, v, x, z, rfl, hs, h1, h2, h3, h4⟩ := dp_t4 h
  exact a_t4V (sqT_same same_show hs) (q _ _ _ _ h1 h2 h3 h4)
end
theorem pg_tupK {X : Cx} {K : PySem.W.Frag} {es : List Expr} {k : Nat} {t : TGs} {n : Nat} {pos : Pos} (hc : X.calm = true) (h : PGs X es t) (hn : (assignEach es X.env).length = n := by rfl) (hst : (assignEach es X.env).findIdx? (·.1) = none := by rfl) (hK : X.K = K := by rfl) :
    PG X (.Tuple es k pos) (gT K n t) := by
  subst hK; exact pg_tup hc h hn hst
end Pb

/-! PbRules -/
set_option Elab.async false
set_option linter.all false
set_option maxRecDepth 100000
set_option maxHeartbeats 4000000
namespace Pb
open PySem PySem.Spec PyProof.Rows L2 PySem.W
/-! ### a, *b = a tuple or a list -/
section
variable {prog : Program} {w : World} {A : Around} {E : Value → Shared → Prop} {s : Shared} {env : Env} {elts : List Expr} {k : Nat} {pos : Pos}
/-- the unpacking with the star behind i plain targets, by its four calls -/
theorem unpack_last {M : Model} {v : Value} {i : Nat} {Q : List Value → Shared → Prop}
    (h : wpAny M A (notIterableAtAll v) (fun b sa => b = false ∧ wpAny M A (pyIter v) (fun it sb => wpAny M A (draw it i) (fun fs sc => fs.length = i ∧ wpAny M A (collect it) (fun rs sd =>
      rs.length ≤ sizeLine ∧ Q (fs ++ [.ref sd.heap.objs.size]) { sd with heap := sd.heap.push { cls := .type "list", data := .seq rs.toArray } }) E sc) E sb) E sa) E s) :
    wpAny M A (unpackItems v (i + 1) (some i)) Q E s := by
  unfold unpackItems
  refine wpAny_bind (thn h fun b sa hb => ?_)
  obtain ⟨rfl, hb⟩ := hb
  simp only [Bool.false_eq_true, if_false]
  refine wpAny_bind (wpAny_holding (thn hb fun it sb hc => wpAny_bind (wpAny_holding (thn hc fun fs sc hd => ?_))))
  obtain ⟨hl, hd⟩ := hd
  rw [if_neg (by omega)]
  refine wpAny_bind (wpAny_holding (thn hd fun rs sd he => ?_))
  have e1 : i + 1 - 1 - i = 0 := by omega
  simp only [e1, Nat.not_lt_zero, if_false, Nat.sub_zero, List.take_length, List.drop_length]
  refine wpAny_bind (wpAny_newList (wpAny_pure ?_) he.1)
  simpa using he.2
/-- what stood ahead of an iterator's making and turns still stands -/
theorem still {h h1 h2 : Heap} {o : Obj} (s1 : Heap.SameBut h.objs.size (h.push o) h1) (s2 : ∀ b u, b ≠ h.objs.size → h1.get? b = some u → h2.get? b = some u) : ∀ b u, h.get? b = some u → h2.get? b = some u := fun b u e =>
  s2 b u (Nat.ne_of_lt (Heap.lt_size e)) (s1.extBut b u (Nat.ne_of_lt (Heap.lt_size e)) (Heap.get?_push_of_some _ e))
theorem star_lst {l : Addr} {items : Array Value} {i : Nat} {Q : List Value → Shared → Prop} (hl : s.heap.IsList l items) (hh : A.handled = none) (hi : i ≤ items.size) (hz : items.size ≤ 16384)
    (h : ∀ (h' : Heap) (tk : Nat), (∀ b o, s.heap.get? b = some o → h'.get? b = some o) → Q (items.toList.take i ++ [.ref h'.objs.size]) { s with heap := h'.push { cls := .type "list", data := .seq (items.toList.drop i).toArray }, toks := tk }) :
    wpAny (model prog w) A (unpackItems (.ref l) (i + 1) (some i)) Q E s := by
  have ne : l ≠ s.heap.objs.size := fun z => by obtain ⟨o, ho, _⟩ := hl; exact absurd (z ▸ Heap.lt_size ho) (Nat.lt_irrefl _)
  refine unpack_last ?_
  unfold notIterableAtAll
  refine wpAny_bind (wpAny_specialOf hl.typeIs slot_list_iter.lookup (wpAny_pure ⟨rfl, wpAny_pyIter_list hl ?_⟩))
  refine kun_draw ne i 0 _ _ ⟨_, Heap.get?_push_size _ rfl, rfl, rfl⟩ (hl.push _) (by omega) fun h1 t1 b1 => ⟨by simp only [List.drop_zero, List.length_take, Array.length_toList]; omega, ?_⟩
  rw [Nat.zero_add] at t1
  have l1 : h1.IsList l items := (hl.push _).extBut b1.extBut ne
  have z1 : s.heap.objs.size < h1.objs.size := by obtain ⟨o, ho, _⟩ := t1; exact Heap.lt_size ho
  have z2 : l < h1.objs.size := by obtain ⟨o, ho, _⟩ := l1; exact Heap.lt_size ho
  refine kun_collect (s := { s with heap := h1 }) (.inr (.inr (.inl rfl))) (Walks.list (A := A.in1) hh s.heap.objs.size l ne items) (fun _ _ st => st.1.typeIs) hi ⟨t1, l1⟩ z1 z2 (fun h2 tk k2 => ?_) (by rw [sizeLine_eq]; omega)
  refine ⟨by rw [List.length_drop, Array.length_toList, sizeLine_eq]; omega, ?_⟩
  rw [List.drop_zero]
  exact h h2 tk (still b1 k2)
theorem star_tup {l : Addr} {items : Array Value} {i : Nat} {Q : List Value → Shared → Prop} (hl : IsTup s.heap l items) (hh : A.handled = none) (hi : i ≤ items.size) (hz : items.size ≤ 16384)
    (h : ∀ (h' : Heap) (tk : Nat), (∀ b o, s.heap.get? b = some o → h'.get? b = some o) → Q (items.toList.take i ++ [.ref h'.objs.size]) { s with heap := h'.push { cls := .type "list", data := .seq (items.toList.drop i).toArray }, toks := tk }) :
    wpAny (model prog w) A (unpackItems (.ref l) (i + 1) (some i)) Q E s := by
  have ne : l ≠ s.heap.objs.size := fun z => by obtain ⟨o, ho, _⟩ := hl; exact absurd (z ▸ Heap.lt_size ho) (Nat.lt_irrefl _)
  refine unpack_last ?_
  unfold notIterableAtAll
  refine wpAny_bind (wpAny_specialOf hl.typeIs slot_tuple_iter.lookup (wpAny_pure ⟨rfl, iter_tuple hl ?_⟩))
  refine draw_tuple ne i 0 _ _ ⟨_, Heap.get?_push_size _ rfl, rfl, rfl⟩ (hl.push _) (by omega) fun h1 t1 b1 => ⟨by simp only [List.drop_zero, List.length_take, Array.length_toList]; omega, ?_⟩
  rw [Nat.zero_add] at t1
  have l1 : IsTup h1 l items := (hl.push _).extBut b1.extBut ne
  have z1 : s.heap.objs.size < h1.objs.size := by obtain ⟨o, ho, _⟩ := t1; exact Heap.lt_size ho
  have z2 : l < h1.objs.size := by obtain ⟨o, ho, _⟩ := l1; exact Heap.lt_size ho
  refine kun_collect (s := { s with heap := h1 }) (.inr (.inr (.inr rfl))) (Walks.tuple (A := A.in1) hh s.heap.objs.size l ne items) (fun _ _ st => st.1.typeIs) hi ⟨t1, l1⟩ z1 z2 (fun h2 tk k2 => ?_) (by rw [sizeLine_eq]; omega)
  refine ⟨by rw [List.length_drop, Array.length_toList, sizeLine_eq]; omega, ?_⟩
  rw [List.drop_zero]
  exact h h2 tk (still b1 k2)
end
/-- a, .., *b = a list or a tuple: i plain targets, then the star -/
def gStar (K : PySem.W.Frag) (i : Nat) (t : TGs) : TG := fun v σ H Q => ∃ a xs, v = .ref a ∧ (SqT K H a xs ∨ SqL K H a xs) ∧ i ≤ xs.length ∧ xs.length ≤ 16384 ∧ ∀ D, H D = none → t (xs.take i ++ [.ref D]) σ (upd H D (.lst (xs.drop i))) Q
section
variable {X : Cx}
theorem pgs_star {e : Expr} {es : List Expr} {p : Pos} {t : TG} {u : TGs} (h1 : PG X e t) (h2 : PGs X es u) : PGs X (.Starred e p :: es) (gCons t u) := by
  refine ⟨fun pins s σ H vs us Q I r h => ?_⟩
  obtain ⟨v, vr, e1, h⟩ := h
  subst e1
  cases r with
  | cons r rr =>
    have hs : (assignEach (.Starred e p :: es) X.env).map (·.2) = assign e X.env :: (assignEach es X.env).map (·.2) := rfl
    rw [hs]
    refine assignInOrder_cons (thn (h1.run pins s σ H _ _ _ I r h) fun _ s1 ⟨σ1, H1, I1, q1⟩ => ?_)
    exact h2.run pins s1 σ1 H1 _ _ Q I1 rr q1
theorem pg_star {es : List Expr} {k i : Nat} {pos : Pos} {t : TGs} (hc : X.calm = true) (h : PGs X es t)
    (hn : (assignEach es X.env).length = i + 1 := by rfl) (hst : (assignEach es X.env).findIdx? (·.1) = some i := by rfl) : PG X (.Tuple es k pos) (gStar X.K i t) := by
  refine ⟨fun pins s σ H v u Q I r hw => ?_⟩
  obtain ⟨a, xs, e1, hq, hl, hz, hw⟩ := hw
  subst e1
  cases r
  rw [assign_Tuple]
  refine wpAny_bind (wpAny_standAt ?_)
  unfold unpack
  rw [hn, hst]
  have last : ∀ (its : List Value) (h' : Heap) (tk : Nat), Vals xs its → (∀ b o, s.heap.get? b = some o → h'.get? b = some o) →
      wpAny (model X.prog X.w) X.A (assignInOrder ((assignEach es X.env).map (·.2)) (its.take i ++ [.ref h'.objs.size])) (fun _ s' => ∃ σ' H', L2.Inv X pins σ' H' s' ∧ Q σ' H') X.xe { s with heap := h'.push { cls := .type "list", data := .seq (its.drop i).toArray }, toks := tk } := by
    intro its h' tk rv hk
    have I1 : L2.Inv X pins σ H { s with heap := h', toks := tk } := I.kept hk
    have hf : H h'.objs.size = none := I1.hok.fresh (Nat.le_refl _)
    have I2 : L2.Inv X pins σ (upd H h'.objs.size (.lst (xs.drop i))) { s with heap := h'.push { cls := .type "list", data := .seq (its.drop i).toArray }, toks := tk } :=
      I1.laid (t' := tk) (fun b u e => Heap.get?_push_of_some _ e) (Nat.le_refl _) ⟨by rw [List.length_drop, sizeLine_eq]; omega, its.drop i, 0, rv.drop i, Heap.get?_push_size _ rfl⟩
    exact h.run pins _ σ _ _ _ Q I2 ((rv.take i).append (.cons (show L2.RelV (.ref h'.objs.size) (.ref h'.objs.size) from rfl) .nil)) (hw _ hf)
  rcases hq with hq | hq
  · obtain ⟨its, rv, ht, hsz⟩ := I.tuple hq
    have hlen := rv.length
    refine wpAny_bind (wpAny_holding (star_tup ht (I.ok.hd hc) (by rw [List.size_toArray]; omega) (by rw [List.size_toArray]; omega) fun h' tk hk => ?_))
    have q := last its h' tk rv hk
    simpa using q
  · obtain ⟨its, rv, ht, hsz⟩ := I.list hq
    have hlen := rv.length
    refine wpAny_bind (wpAny_holding (star_lst ht.isList (I.ok.hd hc) (by rw [List.size_toArray]; omega) (by rw [List.size_toArray]; omega) fun h' tk hk => ?_))
    have q := last its h' tk rv hk
    simpa using q
theorem pg_starK {K : PySem.W.Frag} {es : List Expr} {k i : Nat} {pos : Pos} {t : TGs} (hc : X.calm = true) (h : PGs X es t)
    (hn : (assignEach es X.env).length = i + 1 := by rfl) (hst : (assignEach es X.env).findIdx? (·.1) = some i := by rfl) (hK : X.K = K := by rfl) : PG X (.Tuple es k pos) (gStar K i t) := by
  subst hK; exact pg_star hc h hn hst
end
end Pb

/-! PbSet -/
set_option Elab.async false
set_option linter.all false
set_option maxRecDepth 100000
set_option maxHeartbeats 4000000
namespace Pb
open PySem PySem.Spec PyProof.Rows L2 PpSet
/-! ### a set comprehension without tests, whatever its set holds
C D z: what is known of the set at D; Z: of the new one; R H z y z': the value y, added to such a set, makes it z' -/
structure Bag (X : Cx) {ζ : Type} (C : Addr → ζ → HO) (Z : ζ) (R : Hp → ζ → V → ζ → Prop) : Prop where
  new : ∀ (H : Hp) (h : Heap), ObjOk X.prog X.w H (h.push { cls := .type "set", dict := none, data := .set #[] 0 (.fresh 0 0 (!X.w.params.followText "set-order")) }) h.objs.size (C h.objs.size Z)
  add : ∀ (Y : Cx) (pins : List (Addr × Obj)) (σ : L2.St) (H : Hp) (s : Shared) (D : Addr) (z z' : ζ) (y : V) (u : Value) (Q : Value → Shared → Prop) (E : Value → Shared → Prop), Y.prog = X.prog → Y.w = X.w → Y.K = X.K → Y.A = X.A →
    L2.Inv Y pins σ H s → H D = some (C D z) → RelV y u → R H z y z' → (∀ s', L2.Inv Y pins σ (upd H D (C D z')) s' → Q .none s') → wpAny (model X.prog X.w) X.A (call (.builtin "set.add") [.ref D, u]) Q E s
/-- one turn's wish -/
def ScTurn {ζ : Type} (C : Addr → ζ → HO) (R : Hp → ζ → V → ζ → Prop) (D : Addr) (g : TG) (te : TE) (vs : List Nat) (σ : L2.St) (J : It) (i : Nat) (H : Hp) (Nx : Hp → Prop) : Prop :=
  ∀ x H', J.yld i H x H' → g x (wipe σ vs) H' fun σ2 H2 => wipe σ2 vs = wipe σ vs ∧ te σ2 H2 fun y H4 => ∃ z z', H4 D = some (C D z) ∧ R H4 z y z' ∧ Nx (upd H4 D (C D z'))
def ScGoal {ζ : Type} (C : Addr → ζ → HO) (Z : ζ) (R : Hp → ζ → V → ζ → Prop) (g : TG) (te : TE) (vs : List Nat) (σ : L2.St) (J : It) (H1 : Hp) (D : Addr) (Qd : Hp → Prop) : Prop :=
  ∃ W : Nat → Nat → Hp → Prop, (∃ m, W 0 m (upd H1 D (C D Z))) ∧ ∀ i m H, W i m H →
    (J.stop i H ∧ Qd H) ∨ (J.go i H ∧ ∃ Nx : Hp → Prop, (∀ H', Nx H' → ∃ m', m' < m ∧ W (i + 1) m' H') ∧ ScTurn C R D g te vs σ J i H Nx)
def tScB {ζ : Type} (C : Addr → ζ → HO) (Z : ζ) (R : Hp → ζ → V → ζ → Prop) (wi : TI) (g : TG) (te : TE) (vs : List Nat) : TE := fun σ H Q => wi σ H fun J H1 => ∀ D, H1 D = none → ScGoal C Z R g te vs σ J H1 D fun H' => Q (.ref D) H'
section
variable {X : Cx} {ζ : Type} {C : Addr → ζ → HO} {Z : ζ} {R : Hp → ζ → V → ζ → Prop}
/-- the block's loop: from the state at a turn's head to the block's end -/
theorem sc_loop {Y : Cx} {elt tg iter : Expr} {scope : Scope} {pos : Pos} {g : TG} {te : TE} {vs : List Nat} {σ : L2.St} {J : It} {D it : Addr} {fp : List Addr} {tn : Nat → Heap → Prop} {W : Nat → Nat → Hp → Prop} {Qd : Hp → Prop} {Rs : Result → Shared → Prop}
    (B : Bag X C Z R) (hp : Y.prog = X.prog) (hw : Y.w = X.w) (hk : Y.K = X.K) (hA : Y.A = X.A) (hc : Y.calm = true) (hexc : Y.xe = fun _ _ => False) (hpn : Y.pn = []) (hex : ∀ b ∈ fp, b ∈ Y.ex)
    (T : Turn X.prog X.w X.K tg J fp it tn) (pg : PG Y tg g) (pe : PE Y elt te)
    (turns : ∀ i m H, W i m H → (J.stop i H ∧ Qd H) ∨ (J.go i H ∧ ∃ Nx : Hp → Prop, (∀ H', Nx H' → ∃ m', m' < m ∧ W (i + 1) m' H') ∧ ScTurn C R D g te vs σ J i H Nx))
    (done : ∀ s H, L2.Inv Y [] (wipe σ vs) H s → Qd H → Rs (.ok .next) s) {m0 : Nat} {H0 : Hp} {s0 : Shared} (I0 : L2.Inv Y [] (wipe σ vs) H0 s0) (t0 : tn 0 s0.heap) (n0 : ∀ b ∈ fp, H0 b = none) (w0 : W 0 m0 H0) :
    codeAny (model X.prog X.w) X.A (.compLoop (.SetComp elt [⟨tg, iter, [], 0⟩] scope pos) 0 (.ref it) (.ref D) Y.env) Rs s0 := by
  have free : ∀ {σ' : L2.St} {H' : Hp} {s' : Shared}, L2.Inv Y [] σ' H' s' → (∀ b ∈ fp, H' b = none) → ∀ b ∈ fp, FpOk Y [] H' b := fun {σ' H' s'} I' hn b hb =>
    ⟨hn b hb, (I'.ok.exf b (hex b hb)).1, I'.ok.exfs b (hex b hb), .inl (hex b hb), fun x c e => (I'.ok.exf b (hex b hb)).2 x c e, fun p hp' => by rw [hpn] at hp'; cases hp'⟩
  refine compLoopS_any (fun n s' => ∃ i H', L2.Inv Y [] (wipe σ vs) H' s' ∧ tn i s'.heap ∧ (∀ b ∈ fp, H' b = none) ∧ W i n H') ?_ m0 ⟨0, H0, I0, t0, n0, w0⟩
  rintro n s1 ⟨i, H1, I1, t1, n1, w1⟩
  rcases turns i n H1 w1 with ⟨st, q⟩ | ⟨go, Nx, hN, turn⟩
  · have td := T.done Y hp hw hk hc i [] s1 _ H1 (fun _ _ => False) I1 (free I1 n1) t1 st
    rw [hA] at td
    refine thnF td fun r s2 hr => ?_
    obtain ⟨rfl, I2⟩ := hr
    exact done s2 H1 I2 q
  · have ti := T.item Y hp hw hk hc i [] s1 _ H1 (fun _ _ => False) I1 (free I1 n1) t1 go
    rw [hA] at ti
    refine thnF ti fun r s2 hr => ?_
    obtain ⟨u, rfl, h2⟩ := hr
    refine thnF h2 fun _ s3 h3 => ?_
    obtain ⟨x, H3, I3, r3, y3, t3, n3⟩ := h3
    have J3 := I3.pinned (free I3 n3) (T.obj _ _ t3)
    have a1 := pg.run _ s3 _ H3 x u _ J3 r3 (turn x H3 y3)
    rw [hp, hw, hA, hexc] at a1
    refine thnF a1 fun _ s4 h4 => ?_
    obtain ⟨σ4, H4, I4, e4, q4⟩ := h4
    refine wpAny_tests_nil ?_
    rw [if_pos rfl]
    have a2 := pe.run _ s4 σ4 H4 _ I4 q4
    rw [hp, hw, hA, hexc] at a2
    refine thnF a2 fun z s5 h5 => ?_
    obtain ⟨yv, H5, I5, r5, z1, z2, hD, hR, nx⟩ := h5
    refine B.add Y _ _ _ _ D z1 z2 yv z _ _ hp hw hk hA I5 hD r5 hR fun s6 I6 => ?_
    obtain ⟨m', hm, w'⟩ := hN _ nx
    have stay : ∀ b ∈ fp, ∀ o, s3.heap.get? b = some o → s6.heap.get? b = some o ∧ upd H5 D (C D z2) b = none := fun b hb o e => by
      have q := I6.pin (b, o) (List.mem_append_right _ (List.mem_append_right _ (mem_pinsAt hb e)))
      exact ⟨q.1, q.2.1⟩
    have wl : (wipe σ vs).length = σ4.length := by rw [← e4, wipe_length]
    refine ⟨m', hm, i + 1, _, (I6.unpinned (pins := [])).weak wl (fun j v e => ?_), T.keep _ _ _ t3 fun b hb o e => (stay b hb o e).1, fun b hb => ?_, w'⟩
    · rw [← e4] at e
      exact (wipe_some e).1
    · obtain ⟨o, e, _⟩ := T.obj _ _ t3 b hb
      exact (stay b hb o e).2
theorem pe_scB {elt tg iter : Expr} {scope : Scope} {own : List (PySem.Str × Nat)} {pos : Pos} {wi : TI} {g : TG} {te : TE} (B : Bag X C Z R) (hc : X.calm = true) (hN : X.N.Nodup) (hi : PI X tg iter wi) (ok : BlkOk X.N X.env.scope scope own)
    (hg : ∀ (s : Shared) (H : Hp) (c : Addr) (cl : List (PySem.Str × Addr)) (fp : List Addr), PG (X.blk s H scope (compEnvC scope cl c X.env) fp) tg g)
    (he : ∀ (s : Shared) (H : Hp) (c : Addr) (cl : List (PySem.Str × Addr)) (fp : List Addr), PE (X.blk s H scope (compEnvC scope cl c X.env) fp) elt te) (hs : ∀ x, foldedSetIterable iter X.env x = pure x := by intro _; rfl) :
    PE X (.SetComp elt [⟨tg, iter, [], 0⟩] scope pos) (tScB C Z R wi g te (own.map (·.2))) := by
  refine ⟨fun pins s σ H Q I h => ?_⟩
  rw [eval_SetComp]
  have cells : ∀ y ∈ scope.names, y.2 = .free → ∃ c, X.env.cells.lookup y.1 = some c := fun y hy e => (ok.free y hy e).elim (fun k => I.ok.has _ (.inl k)) fun k => I.ok.has _ (.inr k)
  refine wpAny_comprehension_free (use := none) rfl hs (closure_ok cells) ok.kind (fun y hy e => by rw [ok.uniq y hy, e]) (thn (hi.run pins s σ H _ I h) fun xv s1 h1 => thn h1 fun iv s2 h2 => ?_)
  obtain ⟨it, fp, tn, J, H2, rfl, I2, T, t2, f2, q⟩ := h2
  refine newSet_ok (newEnv_comp ?_)
  have hDn : H2 s2.heap.objs.size = none := I2.hok.fresh (Nat.le_refl _)
  obtain ⟨W, ⟨m0, w0⟩, turns⟩ := q _ hDn
  generalize hO : ({ cls := .type "set", dict := none, data := .set #[] 0 (.fresh 0 0 (!X.w.params.followText "set-order")) } : Obj) = O
  have I3 : L2.Inv X pins σ (upd H2 s2.heap.objs.size (C s2.heap.objs.size Z)) { s2 with heap := s2.heap.push O } :=
    I2.laid (t' := s2.toks) (fun b o e => Heap.get?_push_of_some _ e) (Nat.le_refl _) (by rw [← hO]; exact B.new _ _)
  have low : ∀ b ∈ fp, b < s2.heap.objs.size := fun b hb => by
    obtain ⟨o, e, _⟩ := T.obj _ _ t2 b hb
    exact Heap.lt_size e
  have f3 : ∀ b ∈ fp, FpOk X pins (upd H2 s2.heap.objs.size (C s2.heap.objs.size Z)) b ∧ b < (s2.heap.push O).objs.size := fun b hb =>
    ⟨⟨(upd_ne (Nat.ne_of_lt (low b hb))).trans (f2 b hb).1, (f2 b hb).2⟩, by rw [Heap.size_push]; exact Nat.lt_succ_of_lt (low b hb)⟩
  have I4 := block_start I3 ok hN f3
  have kp : ∀ b o, s2.heap.get? b = some o → (pushCells ((s2.heap.push O).push { cls := .type "dict", data := .dict #[] }) scope.names).get? b = some o := fun b o e =>
    pushCells_keeps _ _ _ _ (Heap.get?_push_of_some _ (Heap.get?_push_of_some _ e))
  have t4 := T.keep _ _ _ t2 fun b _ o e => kp b o e
  refine codeAny_compStart_set ?_ (T.self X.A 0 _ _ _ t4 ?_)
  all_goals
    refine sc_loop (Y := X.blk _ _ scope _ fp) B rfl rfl rfl rfl hc rfl rfl (fun b hb => hb) T (hg _ _ _ _ _) (he _ _ _ _ _) turns (fun s6 H6 I6 qd => ?_) I4 t4 (fun b hb => (f3 b hb).1.1) w0
    obtain ⟨m, hn, _⟩ := I6.loc
    have nC : H6 (s2.heap.push O).objs.size = none := I6.free
    have I7 : L2.Inv X pins σ H6 s6 := I3.call' (ch := fp) I6.os I6.base I6.hok I6.bare fun b hb => ⟨(f3 b hb).1.2.2.2.1, (f3 b hb).1.2.1, (f3 b hb).1.2.2.2.2.1, (f3 b hb).1.2.2.2.2.2⟩
    obtain ⟨k0, k1, k2, k3, k4, k5⟩ := I3.fpOk (Nat.le_refl _) nC
    exact ⟨m, hn, fun h'' sb => ⟨.ref _, H6, I7.turned (t' := s6.toks) (fun b o hb e => (sb.2 b hb).trans e) k0 k1 k3 k4 k5, rfl, qd⟩⟩
end
/-! ### the set of keys, by the list of those that it holds -/
def kMem (l : List Key) (k : Key) : Bool := l.any fun j => decide (j = k)
def addKey (l : List Key) (k : Key) : List Key := if kMem l k = true then l else l ++ [k]
def KeySet (P : Program) (w : World) (a : Addr) (l : List Key) : HO := SetK P w a (kMem l) l.length
theorem kMem_iff {l : List Key} {k : Key} : kMem l k = true ↔ k ∈ l := by
  unfold kMem
  rw [List.any_eq_true]
  constructor
  · rintro ⟨j, hj, e⟩
    rw [← of_decide_eq_true e]; exact hj
  · intro h
    exact ⟨k, h, decide_eq_true rfl⟩
theorem keySet_add (l : List Key) (k : Key) : (fun j => kMem l j || decide (j = k)) = kMem (addKey l k) := by
  funext j
  rw [Bool.eq_iff_iff, Bool.or_eq_true, decide_eq_true_eq, kMem_iff, kMem_iff]
  unfold addKey
  by_cases h : kMem l k = true
  · rw [if_pos h]
    have h2 := kMem_iff.mp h
    constructor
    · rintro (q | q)
      · exact q
      · rw [q]; exact h2
    · exact .inl
  · rw [if_neg h, List.mem_append, List.mem_singleton]
theorem keySet_len (l : List Key) (k : Key) : (if kMem l k = true then l.length else l.length + 1) = (addKey l k).length := by
  unfold addKey
  by_cases h : kMem l k = true
  · rw [if_pos h, if_pos h]
  · rw [if_neg h, if_neg h, List.length_append, List.length_singleton]
def RKey : Hp → List Key → V → List Key → Prop := fun _ l y l' => ∃ k : Key, y = kV k ∧ l.length + 1 < scanBound ∧ l' = addKey l k
theorem bagKey {X : Cx} : Bag X (KeySet X.prog X.w) [] RKey where
  new := fun H h => setK_new ⟨_, #[], 0, _, Heap.get?_push_size _ rfl, ⟨rfl, rfl, rfl⟩, rfl, (fun e he => by simp at he), (fun k => by simp [kMem]), (by decide), (by rfl), rfl⟩
  add := fun Y pins σ H s D l l' y u Q E hp hw hk hA I hD r hR hq => by
    obtain ⟨k, rfl, room, rfl⟩ := hR
    have g : s.heap.SetOf (mixKind X.prog X.w) D (kMem l) l.length := by
      have q := (I.hok D _ hD).1
      exact q
    refine call_set_add (kV_is r) (key_scan r) g room fun h' sb new => ?_
    have ex : ∃ o, h'.get? D = some o := by
      have ⟨o, _, _, _, ho, _⟩ := new
      exact ⟨o, ho⟩
    rw [keySet_add, keySet_len] at new
    refine hq _ (I.write (e := D) (t' := s.toks + 1) (by rw [hD]; trivial) (.inl rfl) (fun b o hb e => (sb.2 b hb).trans e) ex ?_)
    rw [hp, hw]
    exact setK_new new
/-- len of such a set -/
def rLenK (P : Program) (w : World) : List V → Hp → VK → Prop := fun xs H Q => ∃ a l, xs = [.ref a] ∧ H a = some (KeySet P w a l) ∧ Q (.int (l.length : Nat)) H
theorem call_lenK {X : Cx} : CallR X (.builtin "len") (rLenK X.prog X.w) := by
  intro pins s σ H xs us Q I r h
  obtain ⟨a, l, rfl, ha, q⟩ := h
  cases r with
  | cons r0 rt =>
    cases rt
    cases r0
    obtain ⟨o, es, ep, t, ho, hx, hd, _, _, hb, hf, hn⟩ := (I.hok a _ ha).1
    refine call_len_set ho hx hd hf ?_ ?_
    · have h1 : es.size < scanBound := hb
      have h2 : scanBound ≤ 2 ^ 62 := by decide
      omega
    · rw [hn]
      exact ⟨.int (l.length : Nat), H, I.tok _, ⟨_, rfl⟩, q⟩
/-- over data: the keys in turn -/
theorem sc_keys {P : Program} {w : World} {K : PySem.W.Frag} {J : It} {xs : List V} {ds : List PyData} {G : Hp → Prop} (wk : Walk J xs.length G (YAt xs)) {g : TG} {te : TE} {vs : List Nat} {σ : L2.St} {H1 : Hp} {D : Addr} {Qd : Hp → Prop} {ms : List Addr}
    (hD : H1 D = none) (hn : ds.length < 4000) (ha : DpAll K (hide H1 ms) xs ds) (hG : ∀ H, Same H1 H → G H) (key : PyData → Key)
    (step : ∀ x d H (Q : VK), d ∈ ds → Same H1 H → Dp K (hide H ms) x d → (∀ H4, Same H H4 → Q (kV (key d)) H4) → g x (wipe σ vs) H fun σ2 H2 => wipe σ2 vs = wipe σ vs ∧ te σ2 H2 Q)
    (done : ∀ H', Same H1 H' → H' D = some (KeySet P w D ((ds.map key).foldl addKey [])) → Qd H') : ScGoal (KeySet P w) [] RKey g te vs σ J H1 D Qd := by
  have hl := DpAll.length ha
  refine ⟨fun i m H => m = xs.length - i ∧ i ≤ xs.length ∧ Same H1 H ∧ H D = some (KeySet P w D (((ds.take i).map key).foldl addKey [])), ⟨xs.length, by simp, Nat.zero_le _, same_new hD, upd_same⟩, ?_⟩
  rintro i m H ⟨rfl, hi, s1, hK⟩
  by_cases hlt : i < xs.length
  · refine .inr ⟨wk.goes i H hlt (hG H s1), fun H' => Same H1 H' ∧ H' D = some (KeySet P w D (((ds.take (i + 1)).map key).foldl addKey [])), fun H' q => ⟨xs.length - (i + 1), by omega, rfl, hlt, q⟩, fun x H' y => ?_⟩
    obtain ⟨e0, ex⟩ := wk.yields i H x H' hlt (hG H s1) y
    subst e0
    obtain ⟨d, ed, hd⟩ := DpAll.at ha ex
    refine step x d _ _ (List.mem_of_getElem? ed) s1 (Dp.mono (Same.hide s1 ms) hd) fun H4 s4 => ?_
    have hz : (((ds.take i).map key).foldl addKey []).length ≤ i := by
      have q : ∀ (l : List Key) (a : List Key), (l.foldl addKey a).length ≤ a.length + l.length := by
        intro l
        induction l with
        | nil => intro a; simp
        | cons k l ih =>
          intro a
          have q1 := ih (addKey a k)
          have q2 : (addKey a k).length ≤ a.length + 1 := by unfold addKey; split <;> simp
          rw [List.foldl_cons, List.length_cons]
          omega
      have q3 := q ((ds.take i).map key) []
      rw [List.length_map, List.length_take, List.length_nil] at q3
      omega
    refine ⟨_, _, s4 _ _ hK, ⟨key d, rfl, by show _ < 4096; omega, rfl⟩, fun b o e => ?_, ?_⟩
    · rw [upd_ne (ne_of_none e hD)]
      exact s4 _ _ (s1 _ _ e)
    · rw [upd_same, List.take_succ, ed, List.map_append, List.foldl_append]
      rfl
  · have e : i = xs.length := by omega
    subst e
    rw [hl, List.take_length] at hK
    exact .inl ⟨wk.stops H (hG H s1), done H s1 hK⟩
theorem a_sc {ζ : Type} {C : Addr → ζ → HO} {Z : ζ} {R : Hp → ζ → V → ζ → Prop} {wi : TI} {g : TG} {te : TE} {vs : List Nat} {σ : L2.St} {H : Hp} {Q : VK} (h : wi σ H fun J H1 => ∀ D, H1 D = none → ScGoal C Z R g te vs σ J H1 D fun H' => Q (.ref D) H') : tScB C Z R wi g te vs σ H Q := h
end Pb

/-! PbMore -/
set_option Elab.async false
set_option linter.all false
set_option maxRecDepth 100000
set_option maxHeartbeats 4000000
/-! Pb: more rules: list + list whatever they are, dicts made by comprehension, parallel assignment -/
namespace Pb
open PySem PySem.Spec PyProof.Rows L2
/-! ### list + list -/
def rCatS (K : PySem.W.Frag) : R2 := fun x y H Q => ∃ l b xs zs, x = .ref l ∧ y = .ref b ∧ SqL K H l xs ∧ SqL K H b zs ∧ xs.length + zs.length ≤ sizeLine ∧ ∀ p, H p = none → Q (.ref p) (upd H p (.lst (xs ++ zs)))
section
variable {X : Cx}
theorem meets_catS (l : Addr) (items : Array Value) (n : Nat) (sl : Array (Option Value)) (b : Addr) (items2 : Array Value) (n2 : Nat) (sl2 : Array (Option Value)) (hc0 : items.size + items2.size ≤ sizeLine) :
    Meets (Builtin.«list.__add__» ⟨[.ref l, .ref b], []⟩) (fun _ R s => s.heap.get? l = some { cls := .type "list", dict := none, data := .seq items n, slots := sl } ∧ s.heap.get? b = some { cls := .type "list", dict := none, data := .seq items2 n2, slots := sl2 } ∧ R (.ok (.ret (Value.ref s.heap.objs.size))) { s with heap := s.heap.push { cls := Value.type "list", data := Data.seq (items ++ items2) } }) :=
  .of_wp fun prog w A R s hh => by
    have g1 := AutoSeq1.sub_list_list
    have g2 := AutoSeq1.idx_int
    obtain ⟨ha, hb, hr⟩ := hh
    obtain ⟨hp, g, d, tk, os⟩ := s
    wp_walk using AutoSeq1.wpAny_loadPart' ha, AutoSeq1.wpAny_loadPart' hb
    exact ⟨_, rfl, hr⟩
theorem op_catS : OpR X (binaryOp .Add) (rCatS X.K) := by
  intro pins s σ H x y v u Q I rx ry h
  obtain ⟨l, b, xs, zs, rfl, rfl, hl, hb, hz, q⟩ := h
  cases rx
  cases ry
  obtain ⟨i1, r1, ⟨⟨c1, d1, t1, sl1⟩, n1, e1, rfl, rfl, rfl⟩, z1⟩ := I.list hl
  obtain ⟨i2, r2, ⟨⟨c2, d2, t2, sl2⟩, n2, e2, rfl, rfl, rfl⟩, z2⟩ := I.list hb
  have k1 := r1.length
  have k2 := r2.length
  refine concat_meets ⟨_, e1, rfl⟩ ⟨_, e2, rfl⟩ noFill_list_add seq_list_add F.slot_list_add F.entry_list_add (F.args_list_add_2 _ _) (meets_catS l _ n1 sl1 b _ n2 sl2 (by rw [List.size_toArray, List.size_toArray]; omega)) ⟨e1, e2, ?_⟩
  have ea : i1.toArray ++ i2.toArray = (i1 ++ i2).toArray := by simp
  rw [ea]
  exact ⟨.ref _, _, I.lnew (t' := s.toks) (r1.append r2) (by rw [List.length_append]; omega), rfl, q _ I.fresh⟩
end
section
variable {K : PySem.W.Frag} {H : Hp} {Q : VK} {x y : V}
theorem a_cat {ds es : List PyData} (h1 : Dp K H x (.list ds)) (h2 : Dp K H y (.list es)) (hz : ds.length + es.length ≤ sizeLine)
    (q : ∀ p xs, H p = none → DpAll K H xs (ds ++ es) → Q (.ref p) (upd H p (.lst xs))) : rCatS K x y H Q := by
  obtain ⟨a, xs, rfl, hs, ha⟩ := dp_list h1
  obtain ⟨b, ys, rfl, hs2, hb⟩ := dp_list h2
  have e1 := DpAll.length ha
  have e2 := DpAll.length hb
  exact ⟨a, b, xs, ys, rfl, rfl, hs, hs2, by omega, fun p hp => q p _ hp (DpAll.append ha hb)⟩
end
section
variable {K : PySem.W.Frag} {H : Hp} {Q : VK} {x y : V} {ms : List Addr}
theorem a_catH {ds es : List PyData} (h1 : Dp K (hide H ms) x (.list ds)) (h2 : Dp K (hide H ms) y (.list es)) (hz : ds.length + es.length ≤ sizeLine)
    (q : ∀ p xs, H p = none → DpAll K (hide H ms) xs (ds ++ es) → Q (.ref p) (upd H p (.lst xs))) : rCatS K x y H Q := by
  obtain ⟨a, xs, rfl, hs, ha⟩ := dp_list h1
  obtain ⟨b, ys, rfl, hs2, hb⟩ := dp_list h2
  have e1 := DpAll.length ha
  have e2 := DpAll.length hb
  exact ⟨a, b, xs, ys, rfl, rfl, sqL_same same_show hs, sqL_same same_show hs2, by omega, fun p hp => q p _ hp (DpAll.append ha hb)⟩
theorem a_ixTh {ds : List PyData} {i : Int} {d : PyData} (h : Dp K (hide H ms) x (.tuple ds)) (e : atI ds i = some d) (q : ∀ u, Dp K (hide H ms) u d → Q u H) : rIx K x (.int i) H Q := by
  obtain ⟨a, xs, rfl, hs, ha⟩ := dp_tuple h
  obtain ⟨j, _, e2, e3⟩ := atI_len (DpAll.length ha) e
  obtain ⟨u, e4, hu⟩ := DpAll.get ha e2
  exact .inr (.inl ⟨a, xs, i, u, rfl, rfl, sqT_same same_show hs, e3.trans e4, q u hu⟩)
theorem a_ixLh {ds : List PyData} {i : Int} {d : PyData} (h : Dp K (hide H ms) x (.list ds)) (e : atI ds i = some d) (q : ∀ u, Dp K (hide H ms) u d → Q u H) : rIx K x (.int i) H Q := by
  obtain ⟨a, xs, rfl, hs, ha⟩ := dp_list h
  obtain ⟨j, _, e2, e3⟩ := atI_len (DpAll.length ha) e
  obtain ⟨u, e4, hu⟩ := DpAll.get ha e2
  exact .inl ⟨a, xs, i, u, rfl, rfl, sqL_same same_show hs, e3.trans e4, q u hu⟩
end
/-! ### dict comprehensions -/
def DcGoal (g : TG) (tt : TT) (tk tv : TE) (vs : List Nat) (σ : L2.St) (J : It) (H1 : Hp) (D : Addr) (Qd : Hp → Prop) : Prop :=
  ∃ W : Nat → Nat → Hp → Prop, (∃ m, W 0 m (upd H1 D (.dK []))) ∧ ∀ i m H, W i m H →
    (J.stop i H ∧ Qd H) ∨ (J.go i H ∧ ∃ Nx : Hp → Prop, (∀ H', Nx H' → ∃ m', m' < m ∧ W (i + 1) m' H') ∧ ∀ x H', J.yld i H x H' → gM g x (wipe σ vs) H' fun σ2 H2 => wipe σ2 vs = wipe σ vs ∧ tMT tt σ2 H2 fun b H3 =>
      if b = true then tM tk σ2 H3 fun y H4 => tM tv σ2 H4 fun z H5 => ∃ kvs k, y = kV k ∧ H5 D = some (.dK kvs) ∧ kvs.length < sizeLine ∧ Nx (upd H5 D (.dK (putK kvs k z))) else Nx H3)
theorem a_dc {wi : TI} {g : TG} {tt : TT} {tk tv : TE} {vs : List Nat} {σ : L2.St} {H : Hp} {Q : VK} (h : wi σ H fun J H1 => ∀ D, H1 D = none → DcGoal g tt tk tv vs σ J H1 D fun H' => Q (.ref D) H') : tDc wi (gM g) (tMT tt) (tM tk) (tM tv) vs σ H Q := h
/-- what a dict holds, key by key -/
inductive KvD (K : PySem.W.Frag) (H : Hp) : List (Key × V) → List (Key × PyData) → Prop where
  | nil : KvD K H [] []
  | cons {k : Key} {v : V} {d : PyData} {vs : List (Key × V)} {ds : List (Key × PyData)} (h : Dp K H v d) (a : KvD K H vs ds) : KvD K H ((k, v) :: vs) ((k, d) :: ds)
section
variable {K : PySem.W.Frag} {H H' : Hp}
theorem KvD.mono (s : Same H H') : ∀ {vs : List (Key × V)} {ds : List (Key × PyData)}, KvD K H vs ds → KvD K H' vs ds
  | _, _, .nil => .nil
  | _, _, .cons h a => .cons (Dp.mono s h) (KvD.mono s a)
theorem KvD.append : ∀ {vs ws : List (Key × V)} {ds es : List (Key × PyData)}, KvD K H vs ds → KvD K H ws es → KvD K H (vs ++ ws) (ds ++ es)
  | _, _, _, _, .nil, b => b
  | _, _, _, _, .cons h a, b => .cons h (KvD.append a b)
theorem KvD.keys : ∀ {vs : List (Key × V)} {ds : List (Key × PyData)}, KvD K H vs ds → vs.map (·.1) = ds.map (·.1)
  | _, _, .nil => rfl
  | _, _, .cons _ a => congrArg _ (KvD.keys a)
theorem KvD.length {vs : List (Key × V)} {ds : List (Key × PyData)} (h : KvD K H vs ds) : vs.length = ds.length := by
  have e := congrArg List.length (KvD.keys h)
  rw [List.length_map, List.length_map] at e
  exact e
/-- the entry of a key -/
def look (ds : List (Key × PyData)) (k : Key) : Option PyData := (ds.find? fun q => decide (q.1 = k)).map (·.2)
theorem KvD.get : ∀ {vs : List (Key × V)} {ds : List (Key × PyData)} {k : Key} {d : PyData}, KvD K H vs ds → look ds k = some d → ∃ v, valV vs k = some v ∧ Dp K H v d
  | _, _, _, _, .nil, e => by cases e
  | _, _, k, d, .cons (k := k0) h a, e => by
    by_cases q : k0 = k
    · unfold look at e
      rw [List.find?_cons_of_pos (by exact decide_eq_true q)] at e
      cases e
      exact ⟨_, valV_pos q, h⟩
    · unfold look at e
      rw [List.find?_cons_of_neg (by show ¬ decide (k0 = k) = true; rw [decide_eq_false q]; exact Bool.false_ne_true)] at e
      obtain ⟨v, h1, h2⟩ := KvD.get a e
      exact ⟨v, (valV_neg q).trans h1, h2⟩
theorem KvD.off : ∀ {vs : List (Key × V)} {ds : List (Key × PyData)} {k : Key}, KvD K H vs ds → look ds k = none → valV vs k = none
  | _, _, _, .nil, e => rfl
  | _, _, k, .cons (k := k0) h a, e => by
    by_cases q : k0 = k
    · unfold look at e
      rw [List.find?_cons_of_pos (by exact decide_eq_true q)] at e
      cases e
    · unfold look at e
      rw [List.find?_cons_of_neg (by show ¬ decide (k0 = k) = true; rw [decide_eq_false q]; exact Bool.false_ne_true)] at e
      exact (valV_neg q).trans (KvD.off a e)
theorem look_not {ds : List (Key × PyData)} {k : Key} (h : k ∉ ds.map (·.1)) : look ds k = none := by
  unfold look
  rw [List.find?_eq_none.mpr fun x hx => by
    rw [decide_eq_true_eq]
    exact fun z => h (List.mem_map.mpr ⟨x, hx, z⟩)]
  rfl
theorem KvD.put {vs : List (Key × V)} {ds : List (Key × PyData)} {k : Key} {v : V} {d : PyData} (h : KvD K H vs ds) (hv : Dp K H v d) (hn : k ∉ ds.map (·.1)) : KvD K H (putK vs k v) (ds ++ [(k, d)]) := by
  rw [putK_new v (KvD.off h (look_not hn))]
  exact KvD.append h (.cons hv .nil)
end
/-- a dict comprehension whose turns change nothing, over data, the keys unlike: kf the key, vf the value -/
theorem dc_data {K : PySem.W.Frag} {J : It} {xs : List V} {ds : List PyData} {G : Hp → Prop} (w : Walk J xs.length G (YAt xs)) {g : TG} {tt : TT} {tk tv : TE} {vs : List Nat} {σ : L2.St} {H1 : Hp} {D : Addr} {Qd : Hp → Prop} {ms : List Addr}
    (hD : H1 D = none) (hn : ds.length < sizeLine) (ha : DpAll K (hide H1 ms) xs ds) (hG : ∀ H, Same H1 H → G H) (kf : PyData → Key) (vf : PyData → PyData) (nd : (ds.map kf).Nodup)
    (step : ∀ x d H, d ∈ ds → Same H1 H → H D ≠ none → Dp K (hide H (D :: ms)) x d → g x (wipe σ vs) H fun σ2 H2 => wipe σ2 vs = wipe σ vs ∧ tt σ2 H2 fun b H3 => b = true ∧ tk σ2 H3 fun y H4 => y = kV (kf d) ∧ tv σ2 H4 fun z H5 => Same H H5 ∧ Dp K (hide H5 (D :: ms)) z (vf d))
    (done : ∀ H' kvs, Same H1 H' → H' D = some (.dK kvs) → KvD K (hide H' (D :: ms)) kvs (ds.map fun d => (kf d, vf d)) → Qd H') :
    DcGoal g tt tk tv vs σ J H1 D Qd := by
  have hl := DpAll.length ha
  refine ⟨fun i m H => m = xs.length - i ∧ i ≤ xs.length ∧ Same H1 H ∧ ∃ kvs, H D = some (.dK kvs) ∧ KvD K (hide H (D :: ms)) kvs ((ds.take i).map fun d => (kf d, vf d)), ⟨xs.length, by simp, Nat.zero_le _, same_new hD, [], upd_same, .nil⟩, ?_⟩
  rintro i m H ⟨rfl, hi, s1, kvs, hK, hkv⟩
  by_cases hlt : i < xs.length
  · refine .inr ⟨w.goes i H hlt (hG H s1), fun H' => Same H1 H' ∧ ∃ kvs, H' D = some (.dK kvs) ∧ KvD K (hide H' (D :: ms)) kvs ((ds.take (i + 1)).map fun d => (kf d, vf d)), fun H' q => ⟨xs.length - (i + 1), by omega, rfl, hlt, q⟩, fun x H' y => ?_⟩
    obtain ⟨e0, ex⟩ := w.yields i H x H' hlt (hG H s1) y
    subst e0
    obtain ⟨d, ed, hd⟩ := DpAll.at ha ex
    have hd2 : Dp K (hide H' (D :: ms)) x d := Dp.mono (fun b o e => by
      obtain ⟨q1, q2⟩ := hide_of e
      rw [hide_at (fun z => (List.mem_cons.mp z).elim (fun k => by rw [k, hD] at q1; cases q1) q2)]
      exact s1 _ _ q1) hd
    refine ⟨_, step x d _ (List.mem_of_getElem? ed) s1 (by rw [hK]; exact fun z => nomatch z) hd2, fun σ2 H2 q => ⟨q.1, _, q.2, fun b H3 q => ?_⟩⟩
    obtain ⟨rfl, q⟩ := q
    refine iteT ⟨_, q, fun y H4 q => ⟨_, q.2, fun z H5 r => ?_⟩⟩
    obtain ⟨ey, _⟩ := q
    obtain ⟨s5, hz⟩ := r
    have h5 : H5 D = some (.dK kvs) := s5 _ _ hK
    have hlk := KvD.length hkv
    rw [List.length_map, List.length_take] at hlk
    refine ⟨kvs, kf d, ey, h5, by omega, (fun b o z => by rw [upd_ne (ne_of_none z hD)]; exact s5 _ _ (s1 _ _ z)), _, upd_same, ?_⟩
    rw [hide_upd (List.mem_cons_self ..), List.take_succ, ed, List.map_append]
    refine KvD.put (KvD.mono (Same.hide s5 _) hkv) hz ?_
    rw [List.map_map]
    intro hm
    have e1 : ds.take (i + 1) = ds.take i ++ [d] := by rw [List.take_succ, ed]; rfl
    have nd2 : ((ds.take (i + 1)).map kf).Nodup := nd.sublist ((List.take_sublist _ _).map kf)
    rw [e1, List.map_append] at nd2
    exact (List.nodup_append.mp nd2).2.2 _ hm _ (List.mem_singleton.mpr rfl) rfl
  · have e : i = xs.length := by omega
    subst e
    refine .inl ⟨w.stops H (hG H s1), ?_⟩
    rw [hl, List.take_length] at hkv
    exact done H kvs s1 hK hkv
/-! ### a list comprehension of two loops -/
def iM (wi : TI) : TI := fun σ H Q => ∃ Q' : It → Hp → Prop, wi σ H Q' ∧ ∀ J H', Q' J H' → Q J H'
theorem pi_m {X : Cx} {tg iter : Expr} {wi : TI} (h : PI X tg iter wi) : PI X tg iter (iM wi) := ⟨fun pins s σ H R I hw => by
  obtain ⟨Q', h1, m⟩ := hw
  refine thn (h.run pins s σ H Q' I h1) fun v s1 h2 => thn h2 fun u s2 h3 => ?_
  obtain ⟨it, fp, tn, J, H2, e, I2, T, t2, f2, q⟩ := h3
  exact ⟨it, fp, tn, J, H2, e, I2, T, t2, f2, m _ _ q⟩⟩
def Lc2Goal (g : TG) (tt : TT) (wi1 : TI) (g1 : TG) (tt1 : TT) (te : TE) (vs vs1 : List Nat) (σ : L2.St) (J : It) (H1 : Hp) (D : Addr) (Qd : Hp → Prop) : Prop :=
  ∃ W : Nat → Nat → Hp → Prop, (∃ m, W 0 m (upd H1 D (.lst []))) ∧ ∀ i m H, W i m H →
  (J.stop i H ∧ Qd H) ∨ (J.go i H ∧ ∃ Nx : Hp → Prop, (∀ H', Nx H' → ∃ m', m' < m ∧ W (i + 1) m' H') ∧ ∀ x H', J.yld i H x H' → gM g x (wipe σ vs) H' fun σ2 H2 => wipe σ2 vs = wipe σ vs ∧ tMT tt σ2 H2 fun b H3 =>
    if b = true then iM wi1 σ2 H3 fun J1 H4 => ∃ W1 : Nat → Nat → Hp → Prop, (∃ m, W1 0 m H4) ∧ ∀ j k H, W1 j k H →
      (J1.stop j H ∧ Nx H) ∨ (J1.go j H ∧ ∃ Nx1 : Hp → Prop, (∀ H', Nx1 H' → ∃ k', k' < k ∧ W1 (j + 1) k' H') ∧ ∀ x H', J1.yld j H x H' → gM g1 x (wipe σ2 vs1) H' fun σ3 H5 => wipe σ3 vs1 = wipe σ2 vs1 ∧ tMT tt1 σ3 H5 fun b H6 =>
        if b = true then tM te σ3 H6 fun y H7 => ∃ acc, H7 D = some (.lst acc) ∧ acc.length < sizeLine ∧ Nx1 (upd H7 D (.lst (acc ++ [y]))) else Nx1 H6)
    else Nx H3)
theorem a_lc2 {wi wi1 : TI} {g g1 : TG} {tt tt1 : TT} {te : TE} {vs vs1 : List Nat} {σ : L2.St} {H : Hp} {Q : VK} (h : wi σ H fun J H1 => ∀ D, H1 D = none → Lc2Goal g tt wi1 g1 tt1 te vs vs1 σ J H1 D fun H' => Q (.ref D) H') : tLc2 wi (gM g) (tMT tt) (iM wi1) (gM g1) (tMT tt1) (tM te) vs vs1 σ H Q := h
/-- over data, nothing left out: sf the inner loop's source, ef what is told -/
theorem lc2_data {K : PySem.W.Frag} {J : It} {xs : List V} {ds : List PyData} {G : Hp → Prop} (w : Walk J xs.length G (YAt xs)) {g g1 : TG} {tt tt1 : TT} {wi1 : TI} {te : TE} {vs vs1 : List Nat} {σ : L2.St} {H1 : Hp} {D : Addr} {Qd : Hp → Prop} {ms : List Addr}
    (hD : H1 D = none) (N : Nat) (ha : DpAll K (hide H1 ms) xs ds) (hG : ∀ H, Same H1 H → G H) (sf : PyData → List PyData) (ef : PyData → PyData → PyData) (hN : ∀ d ∈ ds, (sf d).length ≤ N) (hn : ds.length * N < sizeLine)
    (step : ∀ x d H, d ∈ ds → Same H1 H → H D ≠ none → Dp K (hide H (D :: ms)) x d → g x (wipe σ vs) H fun σ2 H2 => wipe σ2 vs = wipe σ vs ∧ tt σ2 H2 fun b H3 => b = true ∧ wi1 σ2 H3 fun J1 H4 => Same H H4 ∧ ∃ (xs1 : List V) (G1 : Hp → Prop),
      Walk J1 xs1.length G1 (YAt xs1) ∧ DpAll K (hide H4 (D :: ms)) xs1 (sf d) ∧ (∀ H5, Same (hide H4 [D]) (hide H5 [D]) → G1 H5) ∧
      ∀ y e H5, e ∈ sf d → Same (hide H4 [D]) (hide H5 [D]) → H5 D ≠ none → Dp K (hide H5 (D :: ms)) y e → g1 y (wipe σ2 vs1) H5 fun σ3 H6 => wipe σ3 vs1 = wipe σ2 vs1 ∧ tt1 σ3 H6 fun b H7 => b = true ∧ te σ3 H7 fun z H8 => Same H5 H8 ∧ Dp K (hide H8 (D :: ms)) z (ef d e))
    (done : ∀ H' ys, Same H1 H' → H' D = some (.lst ys) → DpAll K (hide H' (D :: ms)) ys (ds.map fun d => (sf d).map (ef d)).flatten → Qd H') :
    Lc2Goal g tt wi1 g1 tt1 te vs vs1 σ J H1 D Qd := by
  have hl := DpAll.length ha
  have hDm : ∀ {H : Hp} {b : Addr} {o : HO}, hide H (D :: ms) b = some o → hide H [D] b = some o := fun {H b o} e => by
    obtain ⟨q1, q2⟩ := hide_of e
    rw [hide_at fun z => q2 (List.mem_cons.mpr (.inl (List.mem_singleton.mp z)))]
    exact q1
  have wide : ∀ {A B : Hp}, Same (hide A [D]) (hide B [D]) → Same (hide A (D :: ms)) (hide B (D :: ms)) := fun {A B} s b o e => by
    obtain ⟨q1, q2⟩ := hide_of e
    obtain ⟨q3, q4⟩ := hide_of (s b o (hDm e))
    rw [hide_at q2]
    exact q3
  have cut : ∀ {A B : Hp}, Same H1 A → Same (hide A [D]) (hide B [D]) → Same H1 B := fun {A B} s1 s b o e => by
    have hb : b ∉ [D] := fun z => by rw [List.mem_singleton.mp z, hD] at e; cases e
    have q := s b o (by rw [hide_at hb]; exact s1 b o e)
    rw [hide_at hb] at q
    exact q
  refine ⟨fun i m H => m = xs.length - i ∧ i ≤ xs.length ∧ Same H1 H ∧ ∃ acc, H D = some (.lst acc) ∧ acc.length ≤ i * N ∧ DpAll K (hide H (D :: ms)) acc ((ds.take i).map fun d => (sf d).map (ef d)).flatten, ⟨xs.length, by simp, Nat.zero_le _, same_new hD, [], upd_same, Nat.zero_le _, .nil⟩, ?_⟩
  rintro i m H ⟨rfl, hi, s1, acc, hK, hz, hkv⟩
  by_cases hlt : i < xs.length
  · refine .inr ⟨w.goes i H hlt (hG H s1), fun H => Same H1 H ∧ ∃ acc, H D = some (.lst acc) ∧ acc.length ≤ (i + 1) * N ∧ DpAll K (hide H (D :: ms)) acc ((ds.take (i + 1)).map fun d => (sf d).map (ef d)).flatten, fun H' q => ⟨xs.length - (i + 1), by omega, rfl, hlt, q⟩, fun x H' y => ?_⟩
    obtain ⟨e0, ex⟩ := w.yields i H x H' hlt (hG H s1) y
    subst e0
    obtain ⟨d, ed, hd⟩ := DpAll.at ha ex
    have hd2 : Dp K (hide H' (D :: ms)) x d := Dp.mono (fun b o e => by
      obtain ⟨q1, q2⟩ := hide_of e
      rw [hide_at (fun z => (List.mem_cons.mp z).elim (fun k => by rw [k, hD] at q1; cases q1) q2)]
      exact s1 _ _ q1) hd
    have hdm := List.mem_of_getElem? ed
    have hNd := hN d hdm
    have hil : i < ds.length := by omega
    have hbig : (i + 1) * N ≤ ds.length * N := Nat.mul_le_mul_right N hil
    have hsucc : (i + 1) * N = i * N + N := Nat.succ_mul i N
    have etake : ((ds.take (i + 1)).map fun d => (sf d).map (ef d)).flatten = ((ds.take i).map fun d => (sf d).map (ef d)).flatten ++ (sf d).map (ef d) := by
      rw [List.take_succ, ed, List.map_append, List.flatten_append]
      simp
    refine ⟨_, step x d _ hdm s1 (by rw [hK]; exact fun z => nomatch z) hd2, fun σ2 H2 q => ⟨q.1, _, q.2, fun b H3 q => ?_⟩⟩
    obtain ⟨rfl, q⟩ := q
    refine iteT ⟨_, q, fun J1 H4 q => ?_⟩
    obtain ⟨s4, xs1, G1, w1, ha1, hG1, st⟩ := q
    have hK4 : H4 D = some (.lst acc) := s4 _ _ hK
    have hl1 := DpAll.length ha1
    refine ⟨fun j k H5 => k = xs1.length - j ∧ j ≤ xs1.length ∧ Same (hide H4 [D]) (hide H5 [D]) ∧ ∃ acc', H5 D = some (.lst acc') ∧ acc'.length ≤ i * N + j ∧ DpAll K (hide H5 (D :: ms)) acc' (((ds.take i).map fun d => (sf d).map (ef d)).flatten ++ ((sf d).take j).map (ef d)), ⟨xs1.length, by simp, Nat.zero_le _, Same.refl _, acc, hK4, by omega, ?_⟩, ?_⟩
    · rw [List.take_zero, List.map_nil, List.append_nil]
      exact DpAll.mono (Same.hide s4 _) hkv
    rintro j k H5 ⟨rfl, hj, s5, acc5, hK5, hz5, hkv5⟩
    by_cases hlt1 : j < xs1.length
    · refine .inr ⟨w1.goes j H5 hlt1 (hG1 H5 s5), fun H5 => Same (hide H4 [D]) (hide H5 [D]) ∧ ∃ acc', H5 D = some (.lst acc') ∧ acc'.length ≤ i * N + (j + 1) ∧ DpAll K (hide H5 (D :: ms)) acc' (((ds.take i).map fun d => (sf d).map (ef d)).flatten ++ ((sf d).take (j + 1)).map (ef d)), fun H' q => ⟨xs1.length - (j + 1), by omega, rfl, hlt1, q⟩, fun y H6 yy => ?_⟩
      obtain ⟨e0, ey⟩ := w1.yields j H5 y H6 hlt1 (hG1 H5 s5) yy
      subst e0
      obtain ⟨e, ee, he⟩ := DpAll.at ha1 ey
      refine ⟨_, st y e _ (List.mem_of_getElem? ee) s5 (by rw [hK5]; exact fun z => nomatch z) (Dp.mono (wide s5) he), fun σ3 H6 q => ⟨q.1, _, q.2, fun b H7 q => ?_⟩⟩
      obtain ⟨rfl, q⟩ := q
      refine iteT ⟨_, q, fun z H8 r => ?_⟩
      obtain ⟨s8, hzv⟩ := r
      refine ⟨acc5, s8 _ _ hK5, by omega, ?_, _, upd_same, by rw [List.length_append, List.length_singleton]; omega, ?_⟩
      · rw [hide_upd (List.mem_singleton.mpr rfl)]
        exact s5.trans (Same.hide s8 _)
      · rw [hide_upd (List.mem_cons_self ..), List.take_succ, ee, List.map_append, ← List.append_assoc]
        exact DpAll.append (DpAll.mono (Same.hide s8 _) hkv5) (.cons hzv .nil)
    · have e : j = xs1.length := by omega
      subst e
      refine .inl ⟨w1.stops H5 (hG1 H5 s5), cut (s1.trans s4) s5, acc5, hK5, by omega, ?_⟩
      rw [etake]
      rw [hl1, List.take_length] at hkv5
      exact hkv5
  · have e : i = xs.length := by omega
    subst e
    refine .inl ⟨w.stops H (hG H s1), ?_⟩
    rw [hl, List.take_length] at hkv
    exact done H acc s1 hK hkv
/-! ### data that == may look at -/
def Shp (n : Nat) (d : PyData) : Prop := d.canLay0 = true ∧ d.depth ≤ n
theorem shp_int {n : Nat} {i : Int} : Shp n (.int i) := ⟨by simp [PyData.canLay0], by simp [PyData.depth]⟩
theorem shp_bool {n : Nat} {i : Bool} : Shp n (.bool i) := ⟨by simp [PyData.canLay0], by simp [PyData.depth]⟩
theorem shp_none {n : Nat} : Shp n .none := ⟨by simp [PyData.canLay0], by simp [PyData.depth]⟩
theorem shp_str {n : Nat} {x : Str} (h : PyData.strOk x = true) : Shp n (.str x) := ⟨by simpa [PyData.canLay0] using h, by simp [PyData.depth]⟩
theorem shp_all {n : Nat} : ∀ {ds : List PyData}, (∀ d ∈ ds, Shp n d) → PyData.canLayAll0 ds = true ∧ PyData.depthAll ds ≤ n
  | [], _ => ⟨by simp [PyData.canLayAll0], by simp [PyData.depthAll]⟩
  | d :: ds, h => by
    have h1 := h d (List.mem_cons_self ..)
    have h2 := shp_all (ds := ds) fun e he => h e (List.mem_cons_of_mem _ he)
    refine ⟨by simp [PyData.canLayAll0, h1.1, h2.1], ?_⟩
    have a := h1.2
    have b := h2.2
    simp only [PyData.depthAll]
    omega
theorem shp_list {n : Nat} {ds : List PyData} (h : ∀ d ∈ ds, Shp n d) : Shp (n + 1) (.list ds) := by
  have q := shp_all h
  exact ⟨by simpa [PyData.canLay0] using q.1, by simp only [PyData.depth]; omega⟩
theorem shp_tup {n : Nat} {ds : List PyData} (h : ∀ d ∈ ds, Shp n d) : Shp (n + 1) (.tuple ds) := by
  have q := shp_all h
  exact ⟨by simpa [PyData.canLay0] using q.1, by simp only [PyData.depth]; omega⟩
theorem Shp.mono {n m : Nat} {d : PyData} (h : Shp n d) (e : n ≤ m) : Shp m d := ⟨h.1, Nat.le_trans h.2 e⟩
theorem shaped_of {n : Nat} {d : PyData} (h : Shp n d) (e : n ≤ 64) : SeqAt.shaped d = true := by
  unfold SeqAt.shaped
  rw [h.1, decide_eq_true (Nat.le_trans h.2 e)]
  rfl
theorem shaped_strs {ls : List Str} (h : ∀ l ∈ ls, PyData.strOk l = true) : SeqAt.shaped (.list (ls.map PyData.str)) = true := shaped_of (n := 1) (shp_list fun d hd => by
  obtain ⟨l, hl, e⟩ := List.mem_map.mp hd
  rw [← e]
  exact shp_str (h l hl)) (by decide)
theorem eqv_nil_strs : ∀ (ls : List Str), PyData.eqv (.list (ls.map PyData.str)) (.list []) = decide (ls = [])
  | [] => by simp [PyData.eqv, PyData.eqvAll]
  | l :: ls => by simp [PyData.eqv, PyData.eqvAll]
/-! ### len of a dict -/
def rLenDK : List V → Hp → VK → Prop := fun xs H Q => ∃ a kvs, xs = [V.ref a] ∧ H a = some (.dK kvs) ∧ Q (.int kvs.length) H
theorem call_lenDK {X : Cx} : CallR X (.builtin "len") rLenDK := call_lenD
/-! ### all but the first -/
theorem sIx1 {n d : Nat} : HT.sIx (n + 1) d (some 1) = 1 := by
  show (if (1 : Int) < 0 then ((1 : Int) + ((n + 1 : Nat) : Int)).toNat else min (1 : Int).toNat (n + 1)) = 1
  rw [if_neg (by omega)]
  show min 1 (n + 1) = 1
  omega
theorem cut1 {x : V} {xs : List V} : cutV (x :: xs) (some 1) none = xs := by
  unfold cutV
  rw [List.length_cons, sIx1, HT.sIx_none]
  rw [List.drop_succ_cons, List.drop_zero, List.take_of_length_le (by omega)]
theorem cut1_not {x : V} {xs : List V} : ¬ (HT.sIx (x :: xs).length 0 (some 1) = 0 ∧ HT.sIx (x :: xs).length (x :: xs).length none = (x :: xs).length) := by
  rw [List.length_cons, sIx1]
  exact fun z => absurd z.1 (by decide)
/-! ### walks, the written part named -/
section
variable {X : Cx} {K : PySem.W.Frag} {tg l : Expr} {tl : TE}
theorem pi_listK (hl : PE X l tl) (hK : X.K = K := by rfl) : PI X tg l (iList K tl) := by
  subst hK; exact pi_list hl
theorem pi_tupK (hl : PE X l tl) (hK : X.K = K := by rfl) : PI X tg l (iTup K tl) := by
  subst hK; exact pi_tup hl
end
/-! ### a walk over what may be a list or a tuple -/
def iSeq (K : PySem.W.Frag) (tl : TE) : TI := fun σ H R => tl σ H fun x H1 => ∃ a, x = .ref a ∧ (((∃ xs, SqL K H1 a xs) ∧ R (Itl K a) H1) ∨ ((∃ xs, SqT K H1 a xs) ∧ R (Itt K a) H1))
section
variable {X : Cx} {tg l : Expr} {tl : TE}
theorem pi_seq {K : PySem.W.Frag} (hl : PE X l tl) (hK : X.K = K := by rfl) : PI X tg l (iSeq K tl) := by
  subst hK
  refine ⟨fun pins s0 σ H W I h => ?_⟩
  refine thn (hl.run pins s0 σ H _ I h) fun itv s ⟨y, H2, J, rel, a, ey, q⟩ => ?_
  subst ey
  cases rel
  have new : ∀ ob : Obj, L2.Inv X pins σ H2 { s with heap := s.heap.push ob } := fun ob => J.kept (t' := s.toks) fun b u e => Heap.get?_push_of_some _ e
  have fp : ∀ b ∈ [s.heap.objs.size], FpOk X pins H2 b := fun b hb => by
    rw [List.mem_singleton.mp hb]
    exact J.fpOk (Nat.le_refl _) (J.hok.fresh (Nat.le_refl _))
  rcases q with ⟨⟨xs, hx⟩, q⟩ | ⟨⟨xs, hx⟩, q⟩
  · obtain ⟨its, _, pl, _⟩ := J.list hx
    exact wpAny_pyIter_list pl.isList ⟨_, [s.heap.objs.size], _, _, H2, rfl, new _, turn_list a _, ⟨_, Heap.get?_push_size _ rfl, rfl, rfl⟩, fp, q⟩
  · obtain ⟨its, _, pl, _⟩ := J.tuple hx
    exact wpAny_pyIter_tuple (show s.heap.IsTuple a its.toArray from pl) ⟨_, [s.heap.objs.size], _, _, H2, rfl, new _, turn_tuple a _, ⟨_, Heap.get?_push_size _ rfl, rfl, rfl⟩, fp, q⟩
end
/-- a while, its turns' ends kept from the simplifier's eyes -/
theorem while_go {c : TT} {tb : TS} {D : Ends} {σ : L2.St} {H : Hp} (Pv : Nat → L2.St → Hp → Prop) (m0 : Nat) (h0 : Pv m0 σ H)
    (step : ∀ Pw : Nat → L2.St → Hp → Prop, (∀ m σ H, Pv m σ H → Pw m σ H) → ∀ m σ H, Pv m σ H → c σ H fun b H1 => if b = true then ∃ N : L2.St → Hp → Prop, (∀ σ' H', N σ' H' → ∃ m', m' < m ∧ Pw m' σ' H') ∧ tb { D with nx := N, ct := N, bk := D.nx } σ H1 else D.nx σ H1) :
    tWhile c tb D σ H := ⟨Pv, ⟨m0, h0⟩, fun m σ H p => step Pv (fun _ _ _ q => q) m σ H p⟩
/-- one statement, then the rest: what stands between -/
theorem seq_mid {a R : TS} {D : Ends} {σ : L2.St} {H : Hp} (mid : L2.St → Hp → Prop) (h : ∀ Kx : L2.St → Hp → Prop, (∀ σ' H', mid σ' H' → Kx σ' H') → a { D with nx := Kx } σ H) (rest : ∀ σ' H', mid σ' H' → R D σ' H') : tSeq a R D σ H := h (R D) rest
/-- a comprehension whose turns may change things -/
theorem lc_inv {J : It} {n : Nat} {G : Hp → Prop} {Y : Nat → Hp → V → Hp → Prop} (w : Walk J n G Y) {g : TG} {tt : TT} {te : TE} {vs : List Nat} {σ : L2.St} {H1 : Hp} {D : Addr} {Qd : Hp → Prop} (Pv : Nat → Hp → Prop) (h0 : Pv 0 (upd H1 D (.lst []))) (hG : ∀ i H, i ≤ n → Pv i H → G H)
    (hs : ∀ Pw : Nat → Hp → Prop, (∀ i H, Pv i H → Pw i H) → ∀ i x H H', i < n → Pv i H → Y i H x H' → g x (wipe σ vs) H' fun σ2 H2 => wipe σ2 vs = wipe σ vs ∧ tt σ2 H2 fun b H3 =>
      if b = true then te σ2 H3 fun y H4 => ∃ acc, H4 D = some (.lst acc) ∧ acc.length < sizeLine ∧ Pw (i + 1) (upd H4 D (.lst (acc ++ [y]))) else Pw (i + 1) H3) (hd : ∀ H, Pv n H → Qd H) : LcGoal g tt te vs σ J H1 D Qd := by
  refine lc_it w Pv h0 hG (fun i x H H' hi p y => ⟨_, hs Pv (fun _ _ q => q) i x H H' hi p y, fun σ2 H2 q => ⟨q.1, _, q.2, fun b H3 q => ?_⟩⟩) hd
  cases b with
  | true => exact ⟨_, q, fun _ _ q => q⟩
  | false => exact q
end Pb

/-! PbOwn -/
set_option Elab.async false
set_option linter.all false
set_option maxRecDepth 100000
set_option maxHeartbeats 4000000
/-! Pb: == and len by an own __eq__, __len__ -/
namespace Pb
open PySem PySem.Spec PyProof.Rows L2
open C8 (Met)
section
variable {X : Cx} {n j : Nat} {C : Addr} {sp : Sp}
/-- x == y, x of the class at C, y too -/
def rEqO (C : Addr) (sp : Sp) : R2 := fun x y H Q => ∃ a b dx dy fs gs, x = .ref a ∧ y = .ref b ∧ H a = some (.ins C dx fs) ∧ H b = some (.ins C dy gs) ∧ sp [.ref a, .ref b] H (fun v H' => ∃ c, v = .bl c ∧ Q (.bl c) H') C8.E0
theorem op_eqO (c : Met X.prog X.w X.K X.mg X.base n C "__eq__" sp []) (hr : Room j X.A) (hk : n ≤ j) : OpR X (compareOp .Eq) (rEqO C sp) := by
  intro pins s σ H x y v u Q I rx ry hq
  obtain ⟨a, b, dx, dy, fs, gs, rfl, rfl, ha, hb, hsp⟩ := hq
  obtain ⟨f, fd, ps, ds, hc, me, F, hbi, hds⟩ := c.ex
  cases hds
  cases rx
  cases ry
  show wpAny (model X.prog X.w) X.A (richCompare .Eq (.ref a) (.ref b)) (EP X pins σ Q) X.xe s
  obtain ⟨mA, J1, _⟩ := ins_get I.hok ha
  obtain ⟨mB, J2, _⟩ := ins_get I.hok hb
  obtain ⟨od1, K1, _⟩ := J1.look
  obtain ⟨od2, K2, _⟩ := J2.look
  obtain ⟨m, hF⟩ := I.fr
  have hrn := hr.mono hk
  refine PySem.W.cmp_K (op := .Eq) (tb := .ref C) hrn.units0 hF I.ok.mod.kin K1 K2.type (by simp [PySem.W.notFirst]) me.at_ me.fn ?_
  have e0 : Env0 X.prog X.w X.K X.mg X.base X.A X.stack s H := I.env0
  have hl := F.len _ _ _ _ hsp
  have r2 : Vals [V.ref a, V.ref b] [Value.ref a, Value.ref b] := .cons rfl (.cons rfl .nil)
  refine wpAny_call (codeAny_mono (F.run X.A X.stack s H ⟨[.ref a, .ref b], []⟩ [.ref a, .ref b] [.ref a, .ref b] _ C8.E0 hrn e0 (by
    have q := hbi s [.ref a, .ref b] I.kIn (by simpa using hl)
    simpa using q) r2 hsp) fun r s' hq => ?_)
  cases r with
  | error e => exact C8.pass0 (E := C8.E0) pins σ H s e s' I hq
  | ok fl =>
    cases fl with
    | ret w =>
      obtain ⟨z, H', I', rz, c, ez, q⟩ := I.after hq
      subst ez
      cases (show w = Value.bool c from rz)
      exact ⟨.bl c, H', I', rfl, q⟩
    | next => exact False.elim hq
    | brk => exact False.elim hq
    | cont => exact False.elim hq
/-- len(x), x of the class at C -/
def rLenO (C : Addr) (sp : Sp) : List V → Hp → VK → Prop := fun xs H Q => ∃ a dx fs, xs = [.ref a] ∧ H a = some (.ins C dx fs) ∧ sp [.ref a] H (fun v H' => ∃ i : Nat, v = .int i ∧ i < 2 ^ 62 ∧ Q (.int i) H') C8.E0
theorem call_lenO (c : Met X.prog X.w X.K X.mg X.base n C "__len__" sp []) (hr : Room j X.A) (hk : n + 1 ≤ j) : CallR X (.builtin "len") (rLenO C sp) := by
  intro pins s σ H xs us Q I r hq
  obtain ⟨a, dx, fs, rfl, ha, hsp⟩ := hq
  obtain ⟨f, fd, ps, ds, hc, me, F, hbi, hds⟩ := c.ex
  cases hds
  obtain ⟨u, rfl, ru⟩ := vals1 r
  cases ru
  obtain ⟨mA, J1, _⟩ := ins_get I.hok ha
  obtain ⟨od1, K1, _⟩ := J1.look
  have hrn : Room n X.A.in1 := (hr.mono hk).in1
  have e0 : Env0 X.prog X.w X.K X.mg X.base X.A.in1 X.stack s H := by
    have e := I.env0
    exact ⟨e.frames, e.mod, e.bs, e.bsz, e.funs, e.frf, e.hok, e.bare⟩
  have hl := F.len _ _ _ _ hsp
  have r1 : Vals [V.ref a] [Value.ref a] := .cons rfl .nil
  have run : wpAny (model X.prog X.w) X.A.in1 (call (.ref f) [.ref a]) (fun v s' => ∃ i : Nat, (∃ t, v = .int i t) ∧ i < 2 ^ 62 ∧ ∃ H', L2.Inv X pins σ H' s' ∧ Q (.int i) H') X.xe s := by
    refine wpAny_call (codeAny_mono (F.run X.A.in1 X.stack s H ⟨[.ref a], []⟩ [.ref a] [.ref a] _ C8.E0 hrn e0 (by
      have q := hbi s [.ref a] I.kIn (by simpa using hl)
      simpa using q) r1 hsp) fun r s' hq => ?_)
    cases r with
    | error e => exact C8.pass0 (E := C8.E0) pins σ H s e s' I hq
    | ok fl =>
      cases fl with
      | ret w =>
        obtain ⟨z, H', I', rz, i, ez, hi, q⟩ := I.after hq
        subst ez
        obtain ⟨t, et⟩ := (show ∃ t, w = Value.int i t from rz)
        exact ⟨i, ⟨t, et⟩, hi, H', I', q⟩
      | next => exact False.elim hq
      | brk => exact False.elim hq
      | cont => exact False.elim hq
  refine Calls.call_function_entry kind_len plain_len entry_len (args_len1 _) ?_
  unfold Builtin.«len»
  refine wpAny_bind (m := oneArg "len" _) (wpAny_pure ?_)
  refine wpAny_bind (m := callSpecial? (.ref a) (Str.ofString "__len__")) ?_
  unfold callSpecial? specialOf
  refine wpAny_bind (wpAny_bind (K1.type.here ((PySem.W.looks_findIn I.kIn me.at_).here ?_)))
  refine wpAny_holding (wpAny_bind ((PySem.W.bind_fn I.kIn _ (beq_iff_eq.mp me.fn)).here ?_))
  refine wpAny_bind (wpAny_mono run (fun v s' hv => wpAny_pure ?_) fun _ _ h => h)
  obtain ⟨i, ⟨t, rfl⟩, hi, H', I', q⟩ := hv
  refine wpAny_bind (wpAny_holding (wpAny_pure ?_))
  refine wpAny_bind (wpAny_letGo ?_)
  show wpAny _ _ (if (i : Int) < 0 then _ else _) _ _ _
  rw [if_neg (by omega)]
  show wpAny _ _ (if (i : Int) ≥ 2 ^ 63 then _ else _) _ _ _
  rw [if_neg (by omega)]
  refine wpAny_bind (wpAny_mkInt (wpAny_pure ⟨_, rfl, ?_⟩))
  exact ⟨.int i, H', I'.tok _, ⟨_, rfl⟩, q⟩
end
/-! ### isinstance of an instance -/
structure IsaC (K : PySem.W.Frag) (C : Addr) : Prop where
  ha : PySem.W.findIn K (.ref C) "__class__" = some (some (.builtin "object.__class__"))
  hn : PySem.W.specialIn K (.builtin "object.__class__") "__get__" = some (some (.builtin "getset_descriptor.__get__"))
  ht : PySem.W.takesIn K (.builtin "object.__class__") = some true
  hm : PySem.W.mroIn K C (.type "object") = some true
def isaB (K : PySem.W.Frag) (C : Addr) : Bool := decide (PySem.W.findIn K (.ref C) "__class__" = some (some (.builtin "object.__class__"))) && (decide (PySem.W.specialIn K (.builtin "object.__class__") "__get__" = some (some (.builtin "getset_descriptor.__get__"))) &&
  (decide (PySem.W.takesIn K (.builtin "object.__class__") = some true) && decide (PySem.W.mroIn K C (.type "object") = some true)))
theorem isaB_ok {K : PySem.W.Frag} {C : Addr} (h : isaB K C = true) : IsaC K C := by
  unfold isaB at h
  have h1 := Bool.and_eq_true_iff.mp h
  have h2 := Bool.and_eq_true_iff.mp h1.2
  have h3 := Bool.and_eq_true_iff.mp h2.2
  exact ⟨of_decide_eq_true h1.1, of_decide_eq_true h2.1, of_decide_eq_true h3.1, of_decide_eq_true h3.2⟩
theorem a_isO {K : PySem.W.Frag} {H : Hp} {a C D dx : Addr} {fs : List (Str × V)} {b : Bool} {Q : VK} (e : H a = some (.ins C dx fs)) (c : Cls K C) (i : IsaC K C) (k : PySem.W.kitOne K (.ref C) (.ref D) = some b) (q : Q (.bl b) H) : rIsi K [.ref a, .ref D] H Q :=
  ⟨.ref a, .ref D, .ref C, .ref D, b, rfl, .own D, .base (.ins e c i.ha i.hn i.ht i.hm), k, q⟩
end Pb

/-! PbKw -/
set_option Elab.async false
set_option linter.all false
set_option maxRecDepth 100000
set_option maxHeartbeats 4000000
/-! Pb: defs with keyword-only parameters -/
namespace Pb
open PySem PySem.Spec PyProof.Rows L2
/-- the keyword-only default x of the def at f, if it is an object -/
def kwdAt (f : Addr) (x : Str) (K : PySem.W.Frag) : Addr := match K.lookup f with
  | some ⟨_, _, .func fd, _⟩ => (match fd.kwdefaults with
    | .ref D => (match PySem.W.nsIn K D x with
      | some (some (.ref a)) => a
      | _ => 0)
    | _ => 0)
  | _ => 0
/-- the empty tuple -/
def etB (K : PySem.W.Frag) (a : Addr) : Bool := match K.lookup a with
  | some ⟨.type c, _, .seq its _, _⟩ => decide (c = "tuple") && decide (its.size = 0)
  | _ => false
theorem etB_ok {K : PySem.W.Frag} {a : Addr} (h : etB K a = true) (H : Hp) : SqT K H a [] := by
  unfold etB at h
  cases q : K.lookup a with
  | none => rw [q] at h; cases h
  | some o =>
    obtain ⟨oc, od, dt, osl⟩ := o
    rw [q] at h
    cases oc with
    | type c =>
      cases dt with
      | seq its n =>
        have h1 := Bool.and_eq_true_iff.mp (show (decide (c = "tuple") && decide (its.size = 0)) = true from h)
        have e : its = #[] := Array.size_eq_zero_iff.mp (of_decide_eq_true h1.2)
        subst e
        exact .inr ⟨_, #[], n, q, congrArg Value.type (of_decide_eq_true h1.1), rfl, Nat.zero_le _, .nil⟩
      | _ => cases h
    | _ => cases dt <;> cases h
/-- a def with keyword-only defaults, its promise over all parameters -/
structure KDef (P : Program) (w : World) (K : PySem.W.Frag) (mg : Str → Option Value) (base : Heap) (k : Nat) (x : Str) (sp : Sp) (ps : List Str) (st : Stmt) (kws : List (Str × V)) : Prop where
  ex : ∃ f fd, FnOk P w K mg base CX0 k f fd ps sp ∧ mg x = some (.ref f) ∧ FunD K x x (L2.defArgs st) (L2.defBody st) (L2.defScope st) [] kws f fd
section
variable {P : Program} {w : World} {K : PySem.W.Frag} {mg : Str → Option Value} {base : Heap}
theorem kdef_of {x : Str} {st : Stmt} {f : Addr} {N ps : List Str} {k : Nat} {sp : Sp} {kws : List (Str × V)} (D : FnD K x x st [] kws f) (g : mg x = some (.ref f)) (S : FnScope N ps (L2.defScope st))
    (len : ∀ vs H Q E, sp vs H Q E → vs.length = ps.length)
    (hbody : ∀ (cdv : Value) (A : Around) (outer : List Env) (s : Shared) (H : Hp) (vs : List V) (Q : VK) (E : XK), Room k (A.deeper (envOfC x (L2.defScope st) s.heap.objs.size f cdv)) → sp vs H Q E →
      ∃ t, PSs (cxOf CX0 P w K mg base N x (L2.defScope st) f cdv A outer s H E).nox (L2.defBody st) t ∧ t { nx := fun _ H' => Q .non H', rt := Q } (start N vs) H) : KDef P w K mg base (k + 1) x sp ps st kws := by
  obtain ⟨fd, F⟩ := D
  refine ⟨f, fd, F.ok S len fun cdv A outer s H vs Q E hr h => ?_, g, F⟩
  obtain ⟨t, h1, h2⟩ := hbody cdv A outer s H vs Q E hr h
  exact ⟨t, h1.nox, h2⟩
end
section
variable {X : Cx} {k j : Nat} {x : Str} {sp : Sp} {ps : List Str} {st : Stmt} {kws : List (Str × V)} {p pos : Pos} {e : Expr} {es : List Expr} {kwe : List Keyword} {t tk : TA}
/-- f(e, .., k = v, ..) -/
theorem pe_callKD (c : KDef X.prog X.w X.K X.mg X.base k x sp ps st kws) (hr : Room j X.A) (hk : k ≤ j) (hg : Gl X x) (n : Nat) (ks : List Str) (ms : List (Str × V)) (g : {α : Type} → List α → List α → List α → List α) (hkws : kws ≠ []) (hms : ∀ q ∈ ms, q ∈ kws)
    (hrel : ∀ {vs mz zs : List V} {us mv ws : List Value}, Vals vs us → Vals mz mv → Vals zs ws → Vals (g vs mz zs) (g us mv ws))
    (h : ∀ (D : Addr) (doc pm : Value) (an : Option Addr) (cdv ct : Value) (us mv ws : List Value), us.length = n → mv.length = ms.length → ws.length = ks.length →
      KwChain D ((ms.map (·.1)).zip mv) (bindArgs (PySem.W.fnOf x x (L2.defArgs st) (L2.defBody st) (L2.defScope st) .none (.ref D) doc pm an cdv ct) ⟨us, ks.zip ws⟩) (ps.zip (g us mv ws)))
    (ha : PA X (e :: es) t) (hkw : PK X kwe tk) (hall : (backToKw pos (keywordEach kwe X.env)).all (·.1.isSome) = true := by rfl) (hks : (backToKw pos (keywordEach kwe X.env)).filterMap (·.1) = ks := by rfl)
    (hdb : (x == ("__debug__" : Str)) = false := by decide) (he : starEach (e :: es) X.env = (false, eval e X.env) :: starEach es X.env := by rfl)
    (hpl : ((backTo pos (starEach (e :: es) X.env)).any (·.1) || (backToKw pos (keywordEach kwe X.env)).any (·.1.isNone)) = false := by rfl) :
    PE X (.Call (.Name x p) (e :: es) kwe pos) (tCallN n ks.length sp (fun vs zs => g vs (ms.map (·.2)) zs) C8.E0 t tk) := by
  obtain ⟨f, fd, F, hm, D⟩ := c.ex
  obtain ⟨mv, hb⟩ := D.kbinds0 (ps := ps) n ks ms g hkws hms hrel h
  exact pe_callN F (hr.mono hk) hg hm D.kp hb C8.pass0 ha hkw hall hks hdb he hpl
end
end Pb

/-! PbG -/
set_option Elab.async false
set_option linter.all false
set_option maxRecDepth 100000
set_option maxHeartbeats 4000000
/-! Pb: str of nested data: it asks that no repr runs outside; a call layer that hands this on -/
namespace Pb
open PySem PySem.Spec PyProof.Rows L2
open C8 (Cal Mak Met)
/-- no repr runs -/
def Still (A : Around) : Prop := A.guards = some []
theorem Still.deeper {A : Around} {env : Env} (h : Still A) : Still (A.deeper env) := h
/-- a promise that may lean on it -/
structure GFn (P : Program) (w : World) (K : PySem.W.Frag) (mg : Str → Option Value) (base : Heap) (k : Nat) (f : Addr) (fd : FuncData) (ps : List Str) (sp : Sp) : Prop where
  len : ∀ vs H Q E, sp vs H Q E → vs.length = ps.length
  go : ∀ (A : Around), Still A → ∀ (outer : List Env) (t : Shared) (H : Hp) (ar : Args) (us : List Value) (vs : List V) (Q : VK) (E : XK), Room k A → Env0 P w K mg base A outer t H → BindsTo t fd ar (ps.zip us) → Vals vs us → sp vs H Q E →
    codeAny (model P w) A (.call (.ref f) ar) (CR CX0 outer P w H t Q E) t
section
variable {P : Program} {w : World} {K : PySem.W.Frag} {mg : Str → Option Value} {base : Heap}
theorem gfn_of {x qual : Str} {st : Stmt} {f : Addr} {fd : FuncData} {dvs : List V} {kws : List (Str × V)} {N ps : List Str} {k : Nat} {sp : Sp} (D : FunD K x qual (L2.defArgs st) (L2.defBody st) (L2.defScope st) dvs kws f fd) (S : FnScope N ps (L2.defScope st)) (len : ∀ vs H Q E, sp vs H Q E → vs.length = ps.length)
    (hbody : ∀ (cdv : Value) (A : Around) (outer : List Env) (s : Shared) (H : Hp) (vs : List V) (Q : VK) (E : XK), Still (A.deeper (envOfC qual (L2.defScope st) s.heap.objs.size f cdv)) → Room k (A.deeper (envOfC qual (L2.defScope st) s.heap.objs.size f cdv)) → sp vs H Q E →
      ∃ t, PSs (cxOf CX0 P w K mg base N qual (L2.defScope st) f cdv A outer s H E) (L2.defBody st) t ∧ t { nx := fun _ H' => Q .non H', rt := Q } (start N vs) H) : GFn P w K mg base (k + 1) f fd ps sp := by
  obtain ⟨oc, od, dV, kV, doc, pm, an, cdv, ct, osl, rfl, lk, hcd, _, _⟩ := D.ex
  refine ⟨len, fun A still outer t H ar us vs Q E room env bnd rel hsp => ?_⟩
  have n := len vs H Q E hsp
  have kin : K.In t.heap := env.mod.kin.keeps fun b o e => (env.bs b o e).1
  have noLim : t.heap.NoLimit := env.mod.nolimit.keeps fun b o e => (env.bs b o e).1
  refine codeAny_call_function room.depth (kin _ _ lk) rfl S.co S.gen rfl (PySem.W.codeRec_of kin hcd) (bnd _ _ _ _ ?_)
  have kinds : ∀ y ∈ ps.zip us, (L2.defScope st).names.lookup y.1 = some .local ∨ ((L2.defScope st).names.lookup y.1 = some .cell ∧ ((cellsFrom (t.heap.objs.size + 1) (L2.defScope st).names []).lookup y.1).isSome = true) := by
    rintro ⟨z, v⟩ hz
    exact (S.par z (List.of_mem_zip hz).1).imp id fun q => ⟨q, PySem.W.cellsFrom_some _ _ _ (.inl q)⟩
  refine wpAny_newFunctionEnv_cells S.kind kinds fun env2 eenv t1 inC => ?_
  subst eenv
  refine ⟨noLim.keeps inC.toInCall.keep, codeAny_func ?_⟩
  obtain ⟨tr, h1, h2⟩ := hbody cdv A outer t H vs Q E still.deeper (room.deeper _) hsp
  have J0 : L2.Inv (cxOf CX0 P w K mg base N qual (L2.defScope st) f cdv A outer t H E) [] (start N vs) H t1 := inv_start S room.hd env n rel inC
  refine wpAny_mono (h1.run [] t1 (start N vs) H _ J0 h2) (fun fl t2 hq => ?_) fun _ _ hq => hq
  have out : ∀ {σ : L2.St} {H' : Hp} {v : V} {u : Value}, L2.Inv (cxOf CX0 P w K mg base N qual (L2.defScope st) f cdv A outer t H E) [] σ H' t2 → RelV v u → Q v H' → CE outer P w H t Q u t2 := fun J r q => ⟨_, _, J.os, J.bare, J.base, J.hok, r, q⟩
  cases fl with
  | ret u => obtain ⟨v, σ, H', J, r, q⟩ := hq; exact out J r q
  | next => obtain ⟨σ, H', J, q⟩ := hq; exact out (v := V.non) (u := Value.none) J rfl q
  | brk => obtain ⟨_, _, _, q⟩ := hq; cases q
  | cont => obtain ⟨_, _, _, q⟩ := hq; cases q
/-- a def that may be called by its name -/
structure GCal (P : Program) (w : World) (K : PySem.W.Frag) (mg : Str → Option Value) (base : Heap) (k : Nat) (x : Str) (sp : Sp) : Prop where
  ex : ∃ (f : Addr) (fd : FuncData) (ps : List Str), GFn P w K mg base k f fd ps sp ∧ mg x = some (.ref f) ∧ PySem.W.keepIn K (.ref f) = true ∧ Binds K fd ps []
theorem gcal_of {x : Str} {st : Stmt} {f : Addr} {N ps : List Str} {k : Nat} {sp : Sp} (D : FnD K x x st [] [] f) (g : mg x = some (.ref f)) (S : FnScope N ps (L2.defScope st))
    (hb : ∀ (kV doc pm : Value) (an : Option Addr) (cdv ct : Value) (us : List Value), us.length = ps.length → bindArgs (PySem.W.fnOf x x (L2.defArgs st) (L2.defBody st) (L2.defScope st) .none kV doc pm an cdv ct) ⟨us, []⟩ = pure (ps.zip us))
    (len : ∀ vs H Q E, sp vs H Q E → vs.length = ps.length)
    (hbody : ∀ (cdv : Value) (A : Around) (outer : List Env) (s : Shared) (H : Hp) (vs : List V) (Q : VK) (E : XK), Still (A.deeper (envOfC x (L2.defScope st) s.heap.objs.size f cdv)) → Room k (A.deeper (envOfC x (L2.defScope st) s.heap.objs.size f cdv)) → sp vs H Q E →
      ∃ t, PSs (cxOf CX0 P w K mg base N x (L2.defScope st) f cdv A outer s H E).nox (L2.defBody st) t ∧ t { nx := fun _ H' => Q .non H', rt := Q } (start N vs) H) : GCal P w K mg base (k + 1) x sp := by
  obtain ⟨fd, F⟩ := D
  refine ⟨f, fd, ps, gfn_of F S len fun cdv A outer s H vs Q E hs hr h => ?_, g, F.kp, F.bindsN hb⟩
  obtain ⟨t, h1, h2⟩ := hbody cdv A outer s H vs Q E hs hr h
  exact ⟨t, h1.nox, h2⟩
end
section
variable {X : Cx} {k j : Nat} {x : Str} {sp : Sp} {p pos : Pos} {e : Expr} {es : List Expr} {t : TA}
/-- f(e, ..) of such a def -/
theorem pe_cG (c : GCal X.prog X.w X.K X.mg X.base k x sp) (st : Still X.A) (hr : Room j X.A) (hk : k ≤ j) (hg : Gl X x) (ha : PA X (e :: es) t)
    (hdb : (x == ("__debug__" : Str)) = false := by decide) (he : starEach (e :: es) X.env = (false, eval e X.env) :: starEach es X.env := by rfl) (hpl : (backTo pos (starEach es X.env)).any (·.1) = false := by rfl) :
    PE X (.Call (.Name x p) (e :: es) [] pos) (tCall sp [] C8.E0 t) := by
  obtain ⟨f, fd, ps, F, hm, kp, hbi⟩ := c.ex
  refine ⟨fun pins s σ H Q I h => wpAny_Call_Name_kw (ld_glob I hg hm ?_ hdb)⟩
  refine PySem.W.callWith_K (h₀ := X.base) I.ok.mod.kin kp (thn (ha.run pos pins s σ H _ I h) fun us s1 ⟨vs, H1, J, rel, q⟩ => ⟨J.kIn, ?_⟩) he hpl
  have rel2 : Vals (vs ++ []) (us ++ []) := rel.append .nil
  have n : (us ++ []).length = ps.length := by rw [← rel2.length]; exact F.len _ _ _ _ q
  refine wpAny_call (codeAny_mono (F.go X.A st X.stack s1 H1 ⟨us, []⟩ (us ++ []) (vs ++ []) Q C8.E0 (hr.mono hk) J.env0 (hbi s1 us J.kIn n) rel2 q) fun r s2 hq => ?_)
  match r, hq with
  | .error er, hq => exact C8.pass0 (E := C8.E0) pins σ H1 s1 er s2 J hq
  | .ok (.ret u), hq => exact J.after hq
/-- str(x), x data in which nothing is wider than may be shown -/
def rStrD (K : PySem.W.Frag) : List V → Hp → VK → Prop := fun xs H Q => ∃ v d, xs = [v] ∧ Dp K H v d ∧ (∃ a, v = .ref a) ∧ d.showable = true ∧ d.hasDict = false ∧ d.depth ≤ 50 ∧ d.shown.length ≤ sizeLine ∧ Q (.str d.shown) H
theorem call_strD (st : Still X.A) (hr : Room j X.A) : CallR X (.type "str") (rStrD X.K) := by
  intro pins s σ H xs us Q I r h
  obtain ⟨v, d, rfl, hd, ⟨a, rfl⟩, h1, h2, h3, h4, q⟩ := h
  obtain ⟨u, rfl, ru⟩ := vals1 r
  obtain ⟨as, rd⟩ := Dp.reads I d (.ref a) u hd ru
  cases ru
  have un := hr.un
  refine PySem.str_of_reads rd h1 (fun z => by rw [h2] at z; cases z) st (by omega) (fun b o e => e) (fun h' u tk kp => ?_) h4
  exact ⟨.str d.shown, H, I.kept (t' := tk) kp, ⟨_, rfl⟩, q⟩
end
/-! ### the end of a law whose def leans on it -/
section
variable {P : Program} {w : World} {K : PySem.W.Frag} {mg mb : Str → Option Value}
/-- from one abstract heap, in which at most the script stands -/
theorem law_at {k : Nat} {fa a : Addr} {fd : FuncData} {x : Str} {sp : Sp} {s1 : Shared} {H : Hp} (kin : K.In s1.heap) (nsM : s1.heap.Ns mainGlobals mg) (nsB : s1.heap.Ns builtinsNs mb) (bb : ∀ x : Str, x ≠ "__name__" → mb x = bootBuiltins x) (nl : s1.heap.NoLimit) (ng : s1.gens = #[])
    (room : Room k callerA) (F : ∀ base : Heap, K.In base → base.Ns mainGlobals mg → GFn P w K mg base k fa fd [x] sp) (bnd : ∀ (t : Shared) (u : Value), BindsTo t fd ⟨[u], []⟩ [(x, u)])
    (only : Only H) (hok : HOk P w H s1.heap) (nodict : ∀ b o es ep, H b ≠ none → s1.heap.get? b = some o → o.data = .dict es ep → False) (off : ∀ b o, K.lookup b = some o → H b = none) (hsp : sp [.ref a] H (fun v _ => v = .bl true) fun _ _ _ => False) :
    codeAny (model P w) callerA (.call (.ref fa) ⟨[.ref a], []⟩) (fun r s' => r = .ok (.ret (.bool true)) ∧ OldK s1.heap s'.heap ∧ s'.os = s1.os ∧ AllBare s'.gens) s1 := by
  have seen : ∀ b o, s1.heap.get? b = some o → H b = none → (hidT s1.heap H).get? b = some o := fun b o e n => hidT_get e n
  have ns : ∀ {b : Addr} {m : Str → Option Value}, s1.heap.Ns b m → (hidT s1.heap H).Ns b m := by
    rintro b m ⟨o, es, ep, e, d, r⟩
    refine ⟨o, es, ep, seen b o e ?_, d, r⟩
    cases q : H b with
    | none => rfl
    | some u => exact (nodict b o es ep (by rw [q]; exact fun z => nomatch z) e d).elim
  have kB : K.In (hidT s1.heap H) := fun b o e => seen b o (kin b o e) (off b o e)
  obtain ⟨mc, l1, l2⟩ := nl
  have md : Mod K mg (hidT s1.heap H) := ⟨kB, ns nsM, ⟨mb, ns nsB, bb⟩, ⟨mc, ns l1, l2⟩⟩
  have env : Env0 P w K mg (hidT s1.heap H) callerA [] s1 H := ⟨rfl, md, fun b o e => of_hidT e, Nat.le_of_eq (hidT_size _ _), trivial, fun b hb => (nomatch hb), hok, .of_eq ng⟩
  have run := (F _ kB (ns nsM)).go callerA rfl [] s1 H ⟨[.ref a], []⟩ [.ref a] [.ref a] _ _ room env (bnd s1 (.ref a)) (.cons rfl .nil) hsp
  refine codeAny_mono run fun r s2 hq => ?_
  match r, hq with
  | .error _, hq => exact False.elim hq
  | .ok .next, hq => exact False.elim hq
  | .ok .brk, hq => exact False.elim hq
  | .ok .cont, hq => exact False.elim hq
  | .ok (.ret u), ⟨v, H2, eos, bare, un, hok2, rel, ev⟩ =>
    subst ev
    cases (show u = Value.bool true from rel)
    refine ⟨rfl, OldK.of_keep fun b o e => ?_, eos, bare⟩
    rcases only b with z | ⟨ob, xs, z⟩
    · exact un.keep b o e z (fun m => nomatch m) (fun m => nomatch m)
    · have e1 := (hok b _ z).1
      have e2 := (hok2 b _ (un.frzs b ob _ z)).1
      rw [e] at e1
      cases e1
      exact e2
theorem law_of {k : Nat} {fa a : Addr} {fd : FuncData} {x : Str} {sp : Sp} {s1 : Shared} {us : List Value} {ns : List Int} (kin : K.In s1.heap) (nsM : s1.heap.Ns mainGlobals mg) (nsB : s1.heap.Ns builtinsNs mb) (bb : ∀ x : Str, x ≠ "__name__" → mb x = bootBuiltins x) (nl : s1.heap.NoLimit) (ng : s1.gens = #[])
    (ha : s1.heap.get? a = some { cls := .type "list", data := .seq us.toArray }) (hi : IntsAre us ns) (hl : ns.length ≤ sizeLine) (room : Room k callerA) (F : ∀ base : Heap, K.In base → base.Ns mainGlobals mg → GFn P w K mg base k fa fd [x] sp)
    (bnd : ∀ (t : Shared) (u : Value), BindsTo t fd ⟨[u], []⟩ [(x, u)]) (hsp : ∀ H : Hp, Only H → SqL K H a (ns.map V.int) → sp [.ref a] H (fun v _ => v = .bl true) fun _ _ _ => False) :
    codeAny (model P w) callerA (.call (.ref fa) ⟨[.ref a], []⟩) (fun r s' => r = .ok (.ret (.bool true)) ∧ OldK s1.heap s'.heap ∧ s'.os = s1.os ∧ AllBare s'.gens) s1 := by
  have rel := vals_ints hi
  have len := hi.length
  cases q : K.lookup a with
  | some o =>
    have e := kin a o q
    rw [ha] at e
    cases e
    have sq : SqL K (fun _ => none) a (ns.map V.int) := .inr ⟨_, us.toArray, _, q, rfl, rfl, rfl, by rw [List.size_toArray, len]; exact hl, by rw [List.toList_toArray]; exact rel⟩
    exact law_at kin nsM nsB bb nl ng room F bnd (fun _ => .inl rfl) (fun b u z => nomatch z) (fun b o es ep z => absurd rfl z) (fun _ _ _ => rfl) (hsp _ (fun _ => .inl rfl) sq)
  | none =>
    let ob : Obj := { cls := .type "list", data := .seq us.toArray }
    let H : Hp := upd (fun _ => none) a (.frz ob (.lst (ns.map V.int)))
    have at_ : H a = some (.frz ob (.lst (ns.map V.int))) := upd_same
    have ne : ∀ b, b ≠ a → H b = none := fun b z => upd_ne z
    have only : Only H := fun b => by
      by_cases e : b = a
      · exact .inr ⟨ob, _, by rw [e]; exact at_⟩
      · exact .inl (ne b e)
    refine law_at kin nsM nsB bb nl ng room F bnd only (fun b u z => ?_) (fun b o es ep z e d => ?_) (fun b o e => ?_) (hsp _ only (.inl (.inr ⟨ob, at_⟩)))
    · by_cases e : b = a
      · subst e
        rw [at_] at z
        cases z
        exact ⟨ha, by rw [List.length_map]; exact hl, us, 0, rel, ha⟩
      · rw [ne b e] at z
        cases z
    · by_cases eb : b = a
      · subst eb
        rw [ha] at e
        cases e
        exact nomatch d
      · exact z (ne b eb)
    · refine ne b fun z => ?_
      rw [z, q] at e
      cases e
end
theorem walk_ofG {l : PySem.W.OpenLaw} {n k : Nat} {q : Program} {loose : List Str} {XP : (Str → Option Value) → Heap → Prop} {YP : World → Heap → Prop} {d : DefRec} {x : Str} (hn : l.most = some n) (hn2 : n ≤ sizeLine) (hdf : d.params.defaults = []) (room : Room k callerA)
    (F : ∀ (w : World) (mg : Str → Option Value) (fa : Addr) (h : Heap), YP w h → h.Ns mainGlobals mg → mg d.name = some (.ref fa) →
      ∃ (K : PySem.W.Frag) (fd : FuncData) (sp : Sp), K.In h ∧ (∀ (s : Shared) (u : Value), BindsTo s fd ⟨[u], []⟩ [(x, u)]) ∧ (∀ (H : Hp) (a : Addr) (ns : List Int), ns.length ≤ n → Only H → SqL K H a (ns.map V.int) → sp [.ref a] H (fun v _ => v = .bl true) fun _ _ _ => False) ∧
        ∀ base : Heap, K.In base → base.Ns mainGlobals mg → GFn l.prog w K mg base k fa fd [x] sp) :
    PySem.W.WalkO q loose XP YP l.row.toRowW d [] (fun f vs => PySem.call f vs) := by
  refine Att.attach_call hn hdf fun w s0 s1 mg mb fa o pm cd doc a us ns G Y ho hd hcd hmg hobj hints hlen ng => ?_
  obtain ⟨K, fd, sp, kin, bnd, hsp, hF⟩ := F w mg fa _ Y G.T.g hmg
  exact law_of kin G.T.g G.T.b G.T.builtins G.T.nolimit ng hobj hints (Nat.le_trans hlen hn2) room hF bnd fun H only sq => hsp H a ns hlen only sq
end Pb

/-! PbShow -/
set_option Elab.async false
set_option linter.all false
set_option maxRecDepth 100000
set_option maxHeartbeats 4000000
/-! Pb: how long a shown datum is -/
namespace Pb
open PySem PySem.Spec PyProof.Rows L2
def Sho (n : Nat) (d : PyData) : Prop := d.showable = true ∧ d.shown.length ≤ n
theorem Sho.mono {n m : Nat} {d : PyData} (h : Sho n d) (e : n ≤ m) : Sho m d := ⟨h.1, Nat.le_trans h.2 e⟩
theorem sho_int {i : Int} (h0 : -(10 ^ 10) < i) (h1 : i < 10 ^ 10) : Sho 11 (.int i) := by
  have big : i.natAbs < 2 ^ 1920 := by
    have : (10 : Nat) ^ 10 ≤ 2 ^ 1920 := by decide +kernel
    omega
  refine ⟨?_, ?_⟩
  · show decide (i.natAbs.log2 < 1920) = true
    refine decide_eq_true ?_
    by_cases z : i.natAbs = 0
    · rw [z]; decide
    · exact (Nat.log2_lt z).mpr big
  · show (Str.ofString (toString i)).length ≤ 11
    by_cases hn : i < 0
    · rw [len_text_neg hn]
      have := toString_length_le (v := 0 - i) (by omega) (k := 10) (by decide) (by omega)
      omega
    · have := toString_length_le (v := i) (by omega) (k := 10) (by decide) h1
      omega
theorem sho_none : Sho 4 .none := ⟨rfl, by decide +kernel⟩
theorem sho_bool {b : Bool} : Sho 5 (.bool b) := by cases b <;> exact ⟨rfl, by decide +kernel⟩
theorem sho_str {x : Str} (h : PyData.strOk x = true) {n : Nat} (hn : x.length ≤ n) : Sho (10 * n + 2) (.str x) := by
  refine ⟨rfl, ?_⟩
  have q : ∀ c ∈ x.cps.toList, c < 16 ^ 8 := fun c hc => by
    unfold PyData.strOk at h
    rw [← Array.all_toList, List.all_eq_true] at h
    have := of_decide_eq_true (h c hc)
    omega
  have := StrLaws.reprText_len x q
  show (reprText x).length ≤ _
  omega
theorem sho_allS {n : Nat} : ∀ {ds : List PyData}, (∀ d ∈ ds, Sho n d) → PyData.showableAll ds = true
  | [], _ => rfl
  | d :: ds, h => by
    have h1 := h d (List.mem_cons_self ..)
    have h2 := sho_allS (ds := ds) fun e he => h e (List.mem_cons_of_mem _ he)
    show (d.showable && PyData.showableAll ds) = true
    rw [h1.1, h2]; rfl
theorem textFrom_le {n : Nat} : ∀ {ds : List PyData} {k : Nat} {acc : Str}, (∀ d ∈ ds, Sho n d) → (textFrom k acc (PyData.shownAll ds)).length ≤ acc.length + ds.length * (n + 2)
  | [], _, _, _ => by show _ ≤ _ + 0 * _; rw [Nat.zero_mul]; exact Nat.le_refl _
  | d :: ds, k, acc, h => by
    have h1 := (h d (List.mem_cons_self ..)).2
    have h2 := textFrom_le (ds := ds) (k := k + 1) (acc := acc ++ (if k > 0 then ", " else "" : String) ++ d.shown) fun e he => h e (List.mem_cons_of_mem _ he)
    have e : (acc ++ (if k > 0 then ", " else "" : String) ++ d.shown).length = acc.length + (if k > 0 then 2 else 0) + d.shown.length := by
      rw [strLen_append, strLen_append]
      split <;> rfl
    have e2 : (if k > 0 then 2 else 0 : Nat) ≤ 2 := by split <;> decide
    rw [e] at h2
    show (textFrom (k + 1) (acc ++ (if k > 0 then ", " else "" : String) ++ d.shown) (PyData.shownAll ds)).length ≤ acc.length + (ds.length + 1) * (n + 2)
    rw [Nat.succ_mul]
    omega
theorem sho_list {n : Nat} {ds : List PyData} (h : ∀ d ∈ ds, Sho n d) : Sho (ds.length * (n + 2) + 2) (.list ds) := by
  refine ⟨sho_allS h, ?_⟩
  show (textFrom 0 "[" (PyData.shownAll ds) ++ ("]" : Str)).length ≤ _
  rw [strLen_append]
  have q := textFrom_le (k := 0) (acc := ("[" : Str)) h
  have e1 : (("[" : Str)).length = 1 := rfl
  have e2 : (("]" : Str)).length = 1 := rfl
  omega
theorem sum_le {n : Nat} : ∀ {ds : List PyData}, (∀ d ∈ ds, Sho n d) → ((PyData.shownAll ds).map (·.length)).sum + (PyData.shownAll ds).length * 2 ≤ ds.length * (n + 2)
  | [], _ => Nat.zero_le _
  | d :: ds, h => by
    have h1 := (h d (List.mem_cons_self ..)).2
    have h2 := sum_le (ds := ds) fun e he => h e (List.mem_cons_of_mem _ he)
    simp only [PyData.shownAll, List.map_cons, List.sum_cons, List.length_cons, Nat.succ_mul] at h2 ⊢
    omega
theorem sho_tup {n : Nat} {ds : List PyData} (h : ∀ d ∈ ds, Sho n d) : Sho (ds.length * (n + 2) + 3) (.tuple ds) := by
  refine ⟨sho_allS h, ?_⟩
  show (("(" : Str) ++ Str.join ", " (PyData.shownAll ds) ++ (if (PyData.shownAll ds).length == 1 then ",)" else ")" : String)).length ≤ _
  rw [strLen_append, strLen_append]
  have q := StrLaws.join_length_le ", " (PyData.shownAll ds)
  have q2 := sum_le h
  have e0 : ((", " : Str)).length = 2 := rfl
  have e1 : (("(" : Str)).length = 1 := rfl
  have e2 : (Str.ofString (if (PyData.shownAll ds).length == 1 then ",)" else ")" : String)).length ≤ 2 := by split <;> decide +kernel
  rw [e0] at q
  omega
section
variable {K : PySem.W.Frag} {H : Hp} {Q : VK} {a : Addr} {d : PyData}
theorem a_str {n m : Nat} (h : Dp K H (.ref a) d) (s : Sho n d) (hn : n ≤ 16000000) (p : Shp m d) (hm : m ≤ 50) (q : Q (.str d.shown) H) : rStrD K [.ref a] H Q :=
  ⟨.ref a, d, rfl, h, ⟨a, rfl⟩, s.1, PyData.hasDict_of_canLay d p.1, Nat.le_trans p.2 hm, Nat.le_trans (Nat.le_trans s.2 hn) (by rw [sizeLine_eq]; decide), q⟩
end
end Pb

/-! PbLit -/
set_option Elab.async false
set_option linter.all false
set_option maxRecDepth 100000
set_option maxHeartbeats 4000000
/-! Pb: nested displays of constants and names as one step -/
namespace Pb
open PySem PySem.Spec PyProof.Rows L2
inductive Lit where
  | c (d : PyData) | v (i : Nat) | tup (ls : List Lit) | lst (ls : List Lit)
mutual
def Lit.d (r : Nat → PyData) : Lit → PyData
  | .c d => d
  | .v i => r i
  | .tup ls => .tuple (Lit.ds r ls)
  | .lst ls => .list (Lit.ds r ls)
def Lit.ds (r : Nat → PyData) : List Lit → List PyData
  | [] => []
  | l :: ls => l.d r :: Lit.ds r ls
end
mutual
def Lit.vars : Lit → List Nat
  | .c _ => []
  | .v i => [i]
  | .tup ls => Lit.varsAll ls
  | .lst ls => Lit.varsAll ls
def Lit.varsAll : List Lit → List Nat
  | [] => []
  | l :: ls => l.vars ++ Lit.varsAll ls
end
theorem Lit.ds_len {r : Nat → PyData} : ∀ {ls : List Lit}, (Lit.ds r ls).length = ls.length
  | [] => rfl
  | _ :: ls => by show (Lit.ds r ls).length + 1 = ls.length + 1; rw [Lit.ds_len]
def VarsAt (K : PySem.W.Frag) (H : Hp) (σ : L2.St) (r : Nat → PyData) (is : List Nat) : Prop := ∀ i ∈ is, ∃ v, σ[i]? = some (some v) ∧ Dp K H v (r i)
theorem VarsAt.nil {K : PySem.W.Frag} {H : Hp} {σ : L2.St} {r : Nat → PyData} : VarsAt K H σ r [] := fun _ h => nomatch h
theorem VarsAt.cons {K : PySem.W.Frag} {H : Hp} {σ : L2.St} {r : Nat → PyData} {i : Nat} {is : List Nat} {v : V} (h : σ[i]? = some (some v)) (d : Dp K H v (r i)) (a : VarsAt K H σ r is) : VarsAt K H σ r (i :: is) := fun j hj => by
  rcases List.mem_cons.mp hj with e | hj
  · rw [e]; exact ⟨v, h, d⟩
  · exact a j hj
def tLit (K : PySem.W.Frag) (l : Lit) : TE := fun σ H Q => ∃ ms r, Tk H ms ∧ VarsAt K (hide H ms) σ r l.vars ∧ ∀ H' v, Same H H' → Dp K (hide H' ms) v (l.d r) → Q v H'
def aLit (K : PySem.W.Frag) (ls : List Lit) : TA := fun σ H Q => ∃ ms r, Tk H ms ∧ VarsAt K (hide H ms) σ r (Lit.varsAll ls) ∧ ∀ H' vs, Same H H' → DpAll K (hide H' ms) vs (Lit.ds r ls) → Q vs H'
section
variable {X : Cx} {K : PySem.W.Frag} {e : Expr} {es : List Expr} {pos : Pos} {l : Lit} {ls : List Lit}
theorem pe_weak {t u : TE} (h : PE X e t) (w : ∀ σ H Q, u σ H Q → t σ H Q) : PE X e u := ⟨fun pins s σ H Q I q => h.run pins s σ H Q I (w σ H Q q)⟩
theorem pa_weak {t u : TA} (h : PA X es t) (w : ∀ σ H Q, u σ H Q → t σ H Q) : PA X es u := ⟨fun pos pins s σ H Q I q => h.run pos pins s σ H Q I (w σ H Q q)⟩
theorem pl_of {v : V} {d : PyData} (h : PE X e (tC v)) (hd : ∀ H, Dp K H v d) : PE X e (tLit K (.c d)) := pe_weak h fun σ H Q ⟨ms, r, _, _, q⟩ => q H v (Same.refl _) (hd _)
theorem pl_int {i : Int} {j : Nat} : PE X (.Constant (.int i) j pos) (tLit K (.c (.int i))) := pl_of pe_int fun _ => .int _
theorem pl_str {x : Str} {j : Nat} : PE X (.Constant (.str x) j pos) (tLit K (.c (.str x))) := pl_of pe_str fun _ => .str _
theorem pl_bl {b : Bool} {j : Nat} : PE X (.Constant (.bool b) j pos) (tLit K (.c (.bool b))) := pl_of pe_bl fun _ => .bl _
theorem pl_non {j : Nat} : PE X (.Constant .none j pos) (tLit K (.c .none)) := pl_of pe_non fun _ => .non
theorem pl_neg {i : Int} {a : Expr} (h : PE X a (tC (.int i))) : PE X (.UnaryOp .USub a pos) (tLit K (.c (.int (-i)))) := pe_weak (pe_un un_neg h) fun σ H Q ⟨ms, r, _, _, q⟩ => ⟨i, rfl, q H _ (Same.refl _) (.int _)⟩
theorem pl_var {i : Nat} (h : PE X e (tVar i)) : PE X e (tLit K (.v i)) := pe_weak h fun σ H Q ⟨ms, r, tk, hv, q⟩ => by
  obtain ⟨v, e1, d⟩ := hv i (List.mem_singleton.mpr rfl)
  exact ⟨v, e1, q H v (Same.refl _) d⟩
theorem pls_nil : PA X [] (aLit K []) := pa_weak pa_nil fun σ H Q ⟨ms, r, _, _, q⟩ => q H [] (Same.refl _) .nil
theorem pls_cons (h : PE X e (tLit K l)) (a : PA X es (aLit K ls)) (hs : starEach (e :: es) X.env = (false, eval e X.env) :: starEach es X.env := by rfl) : PA X (e :: es) (aLit K (l :: ls)) := pa_weak (pa_cons h a hs) fun σ H Q ⟨ms, r, tk, hv, q⟩ =>
  ⟨ms, r, tk, fun i hi => hv i (List.mem_append_left _ hi), fun H1 x s1 d1 => ⟨ms, r, tk.same s1, fun i hi => by
    obtain ⟨v, e1, d⟩ := hv i (List.mem_append_right _ hi)
    exact ⟨v, e1, Dp.mono (Same.hide s1 ms) d⟩, fun H2 xs s2 d2 => q H2 (x :: xs) (s1.trans s2) (.cons (Dp.mono (Same.hide s2 ms) d1) d2)⟩⟩
theorem pl_tup {k : Nat} (h : PA X es (aLit K ls)) (hz : ls.length ≤ 1000 := by decide) : PE X (.Tuple es k pos) (tLit K (.tup ls)) := pe_weak (pe_tup h) fun σ H Q ⟨ms, r, tk, hv, q⟩ =>
  ⟨ms, r, tk, hv, fun H1 vs s1 d1 => ⟨by rw [DpAll.length d1, Lit.ds_len, sizeLine_eq]; omega, fun p np => q _ (.ref p) (s1.trans (same_new np)) (.tup (.inl (.inl (new_at (tk.same s1) np))) (DpAll.mono (Same.hide (same_new np) ms) d1))⟩⟩
theorem pl_lst (h : PA X es (aLit K ls)) (hz : ls.length ≤ 1000 := by decide) : PE X (.List es pos) (tLit K (.lst ls)) := pe_weak (pe_lst h) fun σ H Q ⟨ms, r, tk, hv, q⟩ =>
  ⟨ms, r, tk, hv, fun H1 vs s1 d1 => ⟨by rw [DpAll.length d1, Lit.ds_len, sizeLine_eq]; omega, fun p np => q _ (.ref p) (s1.trans (same_new np)) (.lst (.inl (.inl (new_at (tk.same s1) np))) (DpAll.mono (Same.hide (same_new np) ms) d1))⟩⟩
/-- a list to be changed later: its place is new -/
def tLitN (K : PySem.W.Frag) (ls : List Lit) : TE := fun σ H Q => ∃ ms r, Tk H ms ∧ VarsAt K (hide H ms) σ r (Lit.varsAll ls) ∧ ∀ H1 p vs, Same H H1 → H1 p = none → H p = none → DpAll K (hide H1 ms) vs (Lit.ds r ls) → Q (.ref p) (upd H1 p (.lst vs))
theorem pl_lstN (h : PA X es (aLit K ls)) (hz : ls.length ≤ 1000 := by decide) : PE X (.List es pos) (tLitN K ls) := pe_weak (pe_lst h) fun σ H Q ⟨ms, r, tk, hv, q⟩ =>
  ⟨ms, r, tk, hv, fun H1 vs s1 d1 => ⟨by rw [DpAll.length d1, Lit.ds_len, sizeLine_eq]; omega, fun p np => q H1 p vs s1 np (s1.free np) d1⟩⟩
end
section
variable {K : PySem.W.Frag} {σ : L2.St} {H : Hp} {Q : VK} {l : Lit} {ls : List Lit}
/-- without names -/
theorem a_lit (hv : l.vars = []) (d : PyData) (hd : l.d (fun _ => .none) = d) (q : ∀ H' v, Same H H' → Dp K H' v d → Q v H') : tLit K l σ H Q := ⟨[], fun _ => .none, Tk.nil, by rw [hv]; exact VarsAt.nil, fun H' v s h => by
  rw [hide_nil, hd] at h
  exact q H' v s h⟩
theorem a_litN (hv : Lit.varsAll ls = []) (ds : List PyData) (hd : Lit.ds (fun _ => .none) ls = ds) (q : ∀ H1 p vs, Same H H1 → H1 p = none → H p = none → DpAll K H1 vs ds → Q (.ref p) (upd H1 p (.lst vs))) : tLitN K ls σ H Q := ⟨[], fun _ => .none, Tk.nil, by rw [hv]; exact VarsAt.nil, fun H1 p vs s n n0 h => by
  rw [hide_nil, hd] at h
  exact q H1 p vs s n n0 h⟩
end
end Pb

/-! A0 -/
set_option Elab.async false
set_option linter.all false
set_option maxRecDepth 100000
set_option maxHeartbeats 4000000
namespace Pb
open PySem PySem.Spec PyProof.Rows L2
open C8 (Cal Mak Met pe_c pe_mk pe_mt pe_mt0 pe_gc fnScope_by)
/-! short words -/
local macro_rules | `(tactic| walk_at "rd") => `(tactic| try simp only [tVar, tC, tAdd, tSub, t2I, tIsN, tNotN, tB, tAnd, tOr, tNot, tAndV, tOrV, tNotV, tIf, tSeq, tPar, tPar3, tNext, tBreak, tCont, tDrop, tRet, tRetN, tIfS, gName, gNil, gCons, gTup, gSub, tAsg, tAug, ipI, iList, iTup, iRng1, iRng2, iStr, iEnum, iZip,
  tOp, tUn, rI, rI0, rU, tTest, tChain, tFld, sFld, sFldAug, L2.rAdd, L2.rSub, tNil, tCons, tTup, tLst, tCall, tMeth, tMake, tCB, tNoPart, tPart, tSl, tBM0, tBM, tDGet, tDGet1, tDGet2, tDIn, tDNotIn, sDPut, tDNewK, rEq, rNe, scal_ii, scal_ss, scal_bb, scal_nn, scal_ni, scal_in, scal_ns, scal_sn, scal_is, scal_si, List.take_succ_cons, List.take_zero, List.drop_succ_cons, List.drop_zero, upd_same, upd_upd, and_assoc, tKGet, gStar, tDisp, tPairs, tYes,
  L2.start, List.map_cons, List.map_nil, List.length_cons, List.length_nil, List.cons_append, List.nil_append, List.append_nil, List.replicate, Nat.sub_self, Nat.add_sub_cancel, Nat.reduceAdd, Nat.reduceSub, List.set_cons_zero, List.set_cons_succ, List.getElem?_cons_zero, List.getElem?_cons_succ,
  Option.some.injEq, V.int.injEq, V.bl.injEq, V.str.injEq, V.ref.injEq, exists_eq_left', exists_eq_left, exists_eq', exists_eq, true_and, and_true, if_true, if_false, Bool.false_eq_true, List.cons.injEq, Bool.not_true, Bool.not_false, cxK, cxP, cxW, ite_true, ite_false, wipe, reduceCtorEq, and_self, decide_true, decide_false, exists_and_left, exists_const, decide_eq_true_eq])
local macro_rules | `(tactic| walk_at "len") => `(tactic| (intro vs H Q E h; repeat (first | (obtain ⟨e, _⟩ := h; subst e; rfl) | (obtain ⟨_, h⟩ := h))))
local macro_rules | `(tactic| walk_at "wd") => `(tactic| simp (config := {decide := true}) only [V.str.injEq, scal_ss, true_and, if_true, if_false])

def top (i : Nat) : Stmt := PySem.Challenge.pw_pileboxes_k01_whole_runs.main.body.getD i (.Pass ⟨0, 0, 0, 0⟩)
abbrev s_is_whole : Stmt := top 12
theorem sc_is_whole : FnScope ["thing"] ["thing"] (defScope s_is_whole) := ⟨rfl, rfl, rfl, by decide +kernel, rfl, by decide +kernel, by decide +kernel⟩
abbrev s_within : Stmt := top 13
theorem sc_within : FnScope ["thing", "low", "high"] ["thing", "low", "high"] (defScope s_within) := ⟨rfl, rfl, rfl, by decide +kernel, rfl, by decide +kernel, by decide +kernel⟩
abbrev s_is_worth : Stmt := top 14
theorem sc_is_worth : FnScope ["thing"] ["thing"] (defScope s_is_worth) := ⟨rfl, rfl, rfl, by decide +kernel, rfl, by decide +kernel, by decide +kernel⟩
abbrev s_is_name : Stmt := top 15
theorem sc_is_name : FnScope ["thing", "sign"] ["thing"] (defScope s_is_name) := ⟨rfl, rfl, rfl, by decide +kernel, rfl, by decide +kernel, by decide +kernel⟩
abbrev s_is_tuple_of : Stmt := top 16
theorem sc_is_tuple_of : FnScope ["thing", "most"] ["thing", "most"] (defScope s_is_tuple_of) := ⟨rfl, rfl, rfl, by decide +kernel, rfl, by decide +kernel, by decide +kernel⟩
abbrev s_is_row : Stmt := top 17
theorem sc_is_row : FnScope ["thing"] ["thing"] (defScope s_is_row) := ⟨rfl, rfl, rfl, by decide +kernel, rfl, by decide +kernel, by decide +kernel⟩
abbrev s_is_end : Stmt := top 18
theorem sc_is_end : FnScope ["thing", "word", "labels", "counts", "label"] ["thing"] (defScope s_is_end) := ⟨rfl, rfl, rfl, by decide +kernel, rfl, by decide +kernel, by decide +kernel⟩
abbrev s_touches : Stmt := top 19
theorem sc_touches : FnScope ["row"] ["row"] (defScope s_touches) := ⟨rfl, rfl, rfl, by decide +kernel, rfl, by decide +kernel, by decide +kernel⟩
abbrev s_change : Stmt := top 20
theorem sc_change : FnScope ["row"] ["row"] (defScope s_change) := ⟨rfl, rfl, rfl, by decide +kernel, rfl, by decide +kernel, by decide +kernel⟩
abbrev s_brought_back : Stmt := top 21
theorem sc_brought_back : FnScope ["number"] ["number"] (defScope s_brought_back) := ⟨rfl, rfl, rfl, by decide +kernel, rfl, by decide +kernel, by decide +kernel⟩
abbrev s_summed : Stmt := top 22
theorem sc_summed : FnScope ["word", "low", "high"] ["word", "low", "high"] (defScope s_summed) := ⟨rfl, rfl, rfl, by decide +kernel, rfl, by decide +kernel, by decide +kernel⟩
abbrev s_done_on : Stmt := top 23
theorem sc_done_on : FnScope ["pile", "row", "word"] ["pile", "row"] (defScope s_done_on) := ⟨rfl, rfl, rfl, by decide +kernel, rfl, by decide +kernel, by decide +kernel⟩
abbrev s_Ran___init__ : Stmt := inClass (top 26) 0
theorem sc_Ran___init__ : FnScope ["self", "told", "pile", "steps"] ["self", "told", "pile", "steps"] (defScope s_Ran___init__) := ⟨rfl, rfl, rfl, by decide +kernel, rfl, by decide +kernel, by decide +kernel⟩
abbrev s_Dry___init__ : Stmt := inClass (top 27) 0
theorem sc_Dry___init__ : FnScope ["self", "told", "label", "row"] ["self", "told", "label", "row"] (defScope s_Dry___init__) := ⟨rfl, rfl, rfl, by decide +kernel, rfl, by decide +kernel, by decide +kernel⟩
abbrev s_Spent___init__ : Stmt := inClass (top 28) 0
theorem sc_Spent___init__ : FnScope ["self", "told"] ["self", "told"] (defScope s_Spent___init__) := ⟨rfl, rfl, rfl, by decide +kernel, rfl, by decide +kernel, by decide +kernel⟩
abbrev s_Tally___init__ : Stmt := inClass (top 37) 0
theorem sc_Tally___init__ : FnScope ["self", "worths", "most", "heard"] ["self", "worths", "most", "heard"] (defScope s_Tally___init__) := ⟨rfl, rfl, rfl, by decide +kernel, rfl, by decide +kernel, by decide +kernel⟩
abbrev s_Tally_step : Stmt := inClass (top 37) 1
theorem sc_Tally_step : FnScope ["self"] ["self"] (defScope s_Tally_step) := ⟨rfl, rfl, rfl, by decide +kernel, rfl, by decide +kernel, by decide +kernel⟩
abbrev s_Tally_tell : Stmt := inClass (top 37) 2
theorem sc_Tally_tell : FnScope ["self", "worth"] ["self", "worth"] (defScope s_Tally_tell) := ⟨rfl, rfl, rfl, by decide +kernel, rfl, by decide +kernel, by decide +kernel⟩
abbrev s_Tally_hear : Stmt := inClass (top 37) 3
theorem sc_Tally_hear : FnScope ["self"] ["self"] (defScope s_Tally_hear) := ⟨rfl, rfl, rfl, by decide +kernel, rfl, by decide +kernel, by decide +kernel⟩
abbrev s_check_run : Stmt := top 38
theorem sc_check_run : FnScope ["worths", "most", "one"] ["worths", "most"] (defScope s_check_run) := ⟨rfl, rfl, rfl, by decide +kernel, rfl, by decide +kernel, by decide +kernel⟩
abbrev s_next_label : Stmt := top 39
theorem sc_next_label : FnScope ["end", "top"] ["end", "top"] (defScope s_next_label) := ⟨rfl, rfl, rfl, by decide +kernel, rfl, by decide +kernel, by decide +kernel⟩
abbrev s_run : Stmt := top 40
theorem sc_run : FnScope ["code", "worths", "most", "tally", "pile", "label", "rows", "end", "at", "row", "worth"] ["code", "worths", "most"] (defScope s_run) := ⟨rfl, rfl, rfl, by decide +kernel, rfl, by decide +kernel, by decide +kernel⟩
abbrev s_are_blocks : Stmt := top 42
theorem sc_are_blocks : FnScope ["thing", "block", "row"] ["thing"] (defScope s_are_blocks) := ⟨rfl, rfl, rfl, by decide +kernel, rfl, by decide +kernel, by decide +kernel⟩
abbrev s_Code___init__ : Stmt := inClass (top 43) 0
theorem sc_Code___init__ : FnScope ["self", "blocks", "label", "rows", "end"] ["self", "blocks"] (defScope s_Code___init__) := ⟨rfl, rfl, rfl, by decide +kernel, rfl, by decide +kernel, by decide +kernel⟩
abbrev s_Code___eq__ : Stmt := inClass (top 43) 1
theorem sc_Code___eq__ : FnScope ["self", "other"] ["self", "other"] (defScope s_Code___eq__) := ⟨rfl, rfl, rfl, by decide +kernel, rfl, by decide +kernel, by decide +kernel⟩
abbrev s_Code___len__ : Stmt := inClass (top 43) 2
theorem sc_Code___len__ : FnScope ["self", "label", "rows", "end", "row"] ["self"] (defScope s_Code___len__) := ⟨rfl, rfl, rfl, by decide +kernel, rfl, by decide +kernel, by decide +kernel⟩
abbrev s_Code_find_heights : Stmt := inClass (top 43) 3
theorem sc_Code_find_heights : FnScope ["self", "first", "turn", "known", "label", "rows", "end", "high", "at", "row", "there"] ["self"] (defScope s_Code_find_heights) := ⟨rfl, rfl, rfl, by decide +kernel, rfl, by decide +kernel, by decide +kernel⟩
abbrev s_Code_blocks : Stmt := inClass (top 43) 4
theorem sc_Code_blocks : FnScope ["self", "label", "rows", "end"] ["self"] (defScope s_Code_blocks) := ⟨rfl, rfl, rfl, by decide +kernel, rfl, by decide +kernel, by decide +kernel⟩
abbrev s_Code_heights : Stmt := inClass (top 43) 5
theorem sc_Code_heights : FnScope ["self"] ["self"] (defScope s_Code_heights) := ⟨rfl, rfl, rfl, by decide +kernel, rfl, by decide +kernel, by decide +kernel⟩
abbrev s_Code_first : Stmt := inClass (top 43) 6
theorem sc_Code_first : FnScope ["self"] ["self"] (defScope s_Code_first) := ⟨rfl, rfl, rfl, by decide +kernel, rfl, by decide +kernel, by decide +kernel⟩
abbrev s__law_cell_at : Stmt := top 45
theorem sc__law_cell_at : FnScope ["_law_script", "_law_k"] ["_law_script", "_law_k"] (defScope s__law_cell_at) := ⟨rfl, rfl, rfl, by decide +kernel, rfl, by decide +kernel, by decide +kernel⟩
abbrev s__law_draw : Stmt := top 46
theorem sc__law_draw : FnScope ["_law_cell", "_law_k", "_law_cap", "_law_primes"] ["_law_cell", "_law_k", "_law_cap"] (defScope s__law_draw) := ⟨rfl, rfl, rfl, by decide +kernel, rfl, by decide +kernel, by decide +kernel⟩
abbrev s__law_number : Stmt := top 47
theorem sc__law_number : FnScope ["_law_cell", "_law_k", "_law_limit", "_law_rest", "_law_turn", "_law_small"] ["_law_cell", "_law_k", "_law_limit"] (defScope s__law_number) := ⟨rfl, rfl, rfl, by decide +kernel, rfl, by decide +kernel, by decide +kernel⟩
abbrev s__law_next : Stmt := top 48
theorem sc__law_next : FnScope ["_law_state", "_law_limit", "_law_at", "_law_cell"] ["_law_state", "_law_limit"] (defScope s__law_next) := ⟨rfl, rfl, rfl, by decide +kernel, rfl, by decide +kernel, by decide +kernel⟩
abbrev s__law_needs : Stmt := top 49
theorem sc__law_needs : FnScope ["_law_word", "_law_table"] ["_law_word"] (defScope s__law_needs) := ⟨rfl, rfl, rfl, by decide +kernel, rfl, by decide +kernel, by decide +kernel⟩
abbrev s__law_rows : Stmt := top 50
theorem sc__law_rows : FnScope ["_law_state", "_law_high", "_law_aim", "_law_many", "_law_found", "_law_words_here", "_law_turn", "_law_word"] ["_law_state", "_law_high", "_law_aim", "_law_many"] (defScope s__law_rows) := ⟨rfl, rfl, rfl, by decide +kernel, rfl, by decide +kernel, by decide +kernel⟩
abbrev s__law_code : Stmt := top 51
theorem sc__law_code : FnScope ["_law_state", "_law_cap", "_law_labels", "_law_highs", "_law_found", "_law_at", "_law_label", "_law_after", "_law_alike", "_law_k", "_law_aim", "_law_end", "_law_pair", "_law_rows_here", "_law_block"] ["_law_state", "_law_cap"] (defScope s__law_code) := ⟨rfl, rfl, rfl, by decide +kernel, rfl, by decide +kernel, by decide +kernel⟩
abbrev s__law_worths : Stmt := top 52
theorem sc__law_worths : FnScope ["_law_state", "_law_turn"] ["_law_state"] (defScope s__law_worths) := ⟨rfl, rfl, rfl, by decide +kernel, rfl, by decide +kernel, by decide +kernel⟩
abbrev s__law_back : Stmt := top 53
theorem sc__law_back : FnScope ["_law_number_here"] ["_law_number_here"] (defScope s__law_back) := ⟨rfl, rfl, rfl, by decide +kernel, rfl, by decide +kernel, by decide +kernel⟩
abbrev s__law_step : Stmt := top 54
theorem sc__law_step : FnScope ["_law_pile", "_law_row", "_law_told", "_law_given", "_law_word", "_law_high", "_law_low"] ["_law_pile", "_law_row", "_law_told", "_law_given"] (defScope s__law_step) := ⟨rfl, rfl, rfl, by decide +kernel, rfl, by decide +kernel, by decide +kernel⟩
abbrev s__law_ran : Stmt := top 55
theorem sc__law_ran : FnScope ["_law_blocks", "_law_given", "_law_cap", "_law_pile", "_law_told", "_law_left", "_law_steps", "_law_at", "_law_label", "_law_rows_here", "_law_end", "_law_count", "_law_row", "_law_there", "_law_block"] ["_law_blocks", "_law_given", "_law_cap"] (defScope s__law_ran) := ⟨rfl, rfl, rfl, by decide +kernel, rfl, by decide +kernel, by decide +kernel⟩
abbrev s__law_words : Stmt := top 56
theorem sc__law_words : FnScope ["_law_found"] ["_law_found"] (defScope s__law_words) := ⟨rfl, rfl, rfl, by decide +kernel, rfl, by decide +kernel, by decide +kernel⟩
abbrev s__law_heights : Stmt := top 57
theorem sc__law_heights : FnScope ["_law_blocks", "_law_found", "_law_turn", "_law_label", "_law_rows_here", "_law_end", "_law_high", "_law_row", "_law_there"] ["_law_blocks"] (defScope s__law_heights) := ⟨rfl, rfl, rfl, by decide +kernel, rfl, by decide +kernel, by decide +kernel⟩
abbrev s__law_right : Stmt := top 58
theorem sc__law_right : FnScope ["_law_blocks", "_law_given", "_law_cap", "_law_code_here", "_law_handed", "_law_turn", "_law_found", "_law_late"] ["_law_blocks", "_law_given", "_law_cap"] (defScope s__law_right) := ⟨rfl, rfl, rfl, by decide +kernel, rfl, by decide +kernel, by decide +kernel⟩
abbrev s_law : Stmt := top 59
theorem sc_law : FnScope ["_law_script", "_law_by", "_law_state", "_law_others", "_law_turn", "_law_blocks", "_law_code_here", "_law_highs", "_law_labels", "_law_block", "_law_mine", "_law_label", "_law_cap", "_law_loop"] ["_law_script"] (defScope s_law) := ⟨rfl, rfl, rfl, by decide +kernel, rfl, by decide +kernel, by decide +kernel⟩
def c_WORDS : List Str := ["put", "plus", "less", "times", "under", "same", "over", "swap", "drop", "tell", "hear"]
def c_SUMS : List Str := ["plus", "less", "times", "under"]
def c_TOUCHES : List (Str × Int) := [("put", 0), ("hear", 0), ("same", 1), ("drop", 1), ("tell", 1), ("over", 2), ("swap", 2), ("if", 1), ("go", 0), ("stop", 0)]
def c_CHANGES : List (Str × Int) := [("put", 1), ("hear", 1), ("same", 1), ("over", 1), ("swap", 0), ("drop", -1), ("tell", -1), ("if", -1), ("go", 0), ("stop", 0)]
structure Tx (w : World) (K : PySem.W.Frag) (mg : Str → Option Value) : Prop where
  b_isinstance : mg "isinstance" = none
  b_int : mg "int" = none
  b_bool : mg "bool" = none
  b_str : mg "str" = none
  b_all : mg "all" = none
  b_len : mg "len" = none
  b_tuple : mg "tuple" = none
  b_list : mg "list" = none
  b_enumerate : mg "enumerate" = none
  b_dict : mg "dict" = none
  b_range : mg "range" = none
  b_min : mg "min" = none
  b_max : mg "max" = none
  b_sum : mg "sum" = none
  v_LETTERS : ∃ u, mg "LETTERS" = some u ∧ RelV (.str "abcdefghijklmnopqrstuvwxyz") u
  v_LEAST : ∃ u, mg "LEAST" = some u ∧ RelV (.int (-32768)) u
  v_MOST_WORTH : ∃ u, mg "MOST_WORTH" = some u ∧ RelV (.int (32767)) u
  v_ROUND : ∃ u, mg "ROUND" = some u ∧ RelV (.int (65536)) u
  v_MOST_BLOCKS : ∃ u, mg "MOST_BLOCKS" = some u ∧ RelV (.int (6)) u
  v_MOST_ROWS : ∃ u, mg "MOST_ROWS" = some u ∧ RelV (.int (12)) u
  v_DEEPEST : ∃ u, mg "DEEPEST" = some u ∧ RelV (.int (12)) u
  v_WORDS : ∃ u, mg "WORDS" = some u ∧ RelV (.ref (He.ga K "WORDS")) u
  t_WORDS : ∀ H, SqT K H (He.ga K "WORDS") (c_WORDS.map V.str)
  v_SUMS : ∃ u, mg "SUMS" = some u ∧ RelV (.ref (He.ga K "SUMS")) u
  t_SUMS : ∀ H, SqT K H (He.ga K "SUMS") (c_SUMS.map V.str)
  v_TOUCHES : ∃ u, mg "TOUCHES" = some u ∧ RelV (.ref (He.ga K "TOUCHES")) u
  k_TOUCHES : ∃ es n, KDict K w (He.ga K "TOUCHES") es n
  x_TOUCHES : ∀ q ∈ c_TOUCHES, ∃ u, PySem.W.nsIn K (He.ga K "TOUCHES") q.1 = some (some u) ∧ RelV (.int q.2) u
  v_CHANGES : ∃ u, mg "CHANGES" = some u ∧ RelV (.ref (He.ga K "CHANGES")) u
  k_CHANGES : ∃ es n, KDict K w (He.ga K "CHANGES") es n
  x_CHANGES : ∀ q ∈ c_CHANGES, ∃ u, PySem.W.nsIn K (He.ga K "CHANGES") q.1 = some (some u) ∧ RelV (.int q.2) u
  v_MOST : ∃ u, mg "MOST" = some u ∧ RelV (.int (500)) u
  v_GREATEST_MOST : ∃ u, mg "GREATEST_MOST" = some u ∧ RelV (.int (100000)) u
  g_is_whole : mg "is_whole" = some (.ref (He.ga K "is_whole"))
  D_is_whole : FnD K "is_whole" "is_whole" s_is_whole [] [] (He.ga K "is_whole")
  g_within : mg "within" = some (.ref (He.ga K "within"))
  D_within : FnD K "within" "within" s_within [] [] (He.ga K "within")
  g_is_worth : mg "is_worth" = some (.ref (He.ga K "is_worth"))
  D_is_worth : FnD K "is_worth" "is_worth" s_is_worth [] [] (He.ga K "is_worth")
  g_is_name : mg "is_name" = some (.ref (He.ga K "is_name"))
  D_is_name : FnD K "is_name" "is_name" s_is_name [] [] (He.ga K "is_name")
  g_is_tuple_of : mg "is_tuple_of" = some (.ref (He.ga K "is_tuple_of"))
  D_is_tuple_of : FnD K "is_tuple_of" "is_tuple_of" s_is_tuple_of [] [] (He.ga K "is_tuple_of")
  g_is_row : mg "is_row" = some (.ref (He.ga K "is_row"))
  D_is_row : FnD K "is_row" "is_row" s_is_row [] [] (He.ga K "is_row")
  g_is_end : mg "is_end" = some (.ref (He.ga K "is_end"))
  D_is_end : FnD K "is_end" "is_end" s_is_end [] [] (He.ga K "is_end")
  g_touches : mg "touches" = some (.ref (He.ga K "touches"))
  D_touches : FnD K "touches" "touches" s_touches [] [] (He.ga K "touches")
  g_change : mg "change" = some (.ref (He.ga K "change"))
  D_change : FnD K "change" "change" s_change [] [] (He.ga K "change")
  g_brought_back : mg "brought_back" = some (.ref (He.ga K "brought_back"))
  D_brought_back : FnD K "brought_back" "brought_back" s_brought_back [] [] (He.ga K "brought_back")
  g_summed : mg "summed" = some (.ref (He.ga K "summed"))
  D_summed : FnD K "summed" "summed" s_summed [] [] (He.ga K "summed")
  g_done_on : mg "done_on" = some (.ref (He.ga K "done_on"))
  D_done_on : FnD K "done_on" "done_on" s_done_on [] [] (He.ga K "done_on")
  D_Ran___init__ : FnD K "__init__" "Ran.__init__" s_Ran___init__ [] [] (He.ma K (He.ga K "Ran") "__init__")
  D_Dry___init__ : FnD K "__init__" "Dry.__init__" s_Dry___init__ [] [] (He.ma K (He.ga K "Dry") "__init__")
  D_Spent___init__ : FnD K "__init__" "Spent.__init__" s_Spent___init__ [] [] (He.ma K (He.ga K "Spent") "__init__")
  D_Tally___init__ : FnD K "__init__" "Tally.__init__" s_Tally___init__ [] [] (He.ma K (He.ga K "Tally") "__init__")
  D_Tally_step : FnD K "step" "Tally.step" s_Tally_step [] [] (He.ma K (He.ga K "Tally") "step")
  D_Tally_tell : FnD K "tell" "Tally.tell" s_Tally_tell [] [] (He.ma K (He.ga K "Tally") "tell")
  D_Tally_hear : FnD K "hear" "Tally.hear" s_Tally_hear [] [] (He.ma K (He.ga K "Tally") "hear")
  g_check_run : mg "check_run" = some (.ref (He.ga K "check_run"))
  D_check_run : FnD K "check_run" "check_run" s_check_run [] [] (He.ga K "check_run")
  g_next_label : mg "next_label" = some (.ref (He.ga K "next_label"))
  D_next_label : FnD K "next_label" "next_label" s_next_label [] [] (He.ga K "next_label")
  g_run : mg "run" = some (.ref (He.ga K "run"))
  e_run_worths : ∀ H, SqT K H (kwdAt (He.ga K "run") "worths" K) []
  D_run : FnD K "run" "run" s_run [] [("worths", .ref (kwdAt (He.ga K "run") "worths" K)), ("most", .int 500)] (He.ga K "run")
  g_are_blocks : mg "are_blocks" = some (.ref (He.ga K "are_blocks"))
  D_are_blocks : FnD K "are_blocks" "are_blocks" s_are_blocks [] [] (He.ga K "are_blocks")
  D_Code___init__ : FnD K "__init__" "Code.__init__" s_Code___init__ [] [] (He.ma K (He.ga K "Code") "__init__")
  D_Code___eq__ : FnD K "__eq__" "Code.__eq__" s_Code___eq__ [] [] (He.ma K (He.ga K "Code") "__eq__")
  D_Code___len__ : FnD K "__len__" "Code.__len__" s_Code___len__ [] [] (He.ma K (He.ga K "Code") "__len__")
  D_Code_find_heights : FnD K "find_heights" "Code.find_heights" s_Code_find_heights [] [] (He.ma K (He.ga K "Code") "find_heights")
  D_Code_blocks : FnD K "blocks" "Code.blocks" s_Code_blocks [] [] (He.ma K (He.ga K "Code") "blocks")
  D_Code_heights : FnD K "heights" "Code.heights" s_Code_heights [] [] (He.ma K (He.ga K "Code") "heights")
  D_Code_first : FnD K "first" "Code.first" s_Code_first [] [] (He.ma K (He.ga K "Code") "first")
  g__law_cell_at : mg "_law_cell_at" = some (.ref (He.ga K "_law_cell_at"))
  D__law_cell_at : FnD K "_law_cell_at" "_law_cell_at" s__law_cell_at [] [] (He.ga K "_law_cell_at")
  g__law_draw : mg "_law_draw" = some (.ref (He.ga K "_law_draw"))
  D__law_draw : FnD K "_law_draw" "_law_draw" s__law_draw [] [] (He.ga K "_law_draw")
  g__law_number : mg "_law_number" = some (.ref (He.ga K "_law_number"))
  D__law_number : FnD K "_law_number" "_law_number" s__law_number [] [] (He.ga K "_law_number")
  g__law_next : mg "_law_next" = some (.ref (He.ga K "_law_next"))
  D__law_next : FnD K "_law_next" "_law_next" s__law_next [] [] (He.ga K "_law_next")
  g__law_needs : mg "_law_needs" = some (.ref (He.ga K "_law_needs"))
  D__law_needs : FnD K "_law_needs" "_law_needs" s__law_needs [] [] (He.ga K "_law_needs")
  g__law_rows : mg "_law_rows" = some (.ref (He.ga K "_law_rows"))
  D__law_rows : FnD K "_law_rows" "_law_rows" s__law_rows [] [] (He.ga K "_law_rows")
  g__law_code : mg "_law_code" = some (.ref (He.ga K "_law_code"))
  D__law_code : FnD K "_law_code" "_law_code" s__law_code [] [] (He.ga K "_law_code")
  g__law_worths : mg "_law_worths" = some (.ref (He.ga K "_law_worths"))
  D__law_worths : FnD K "_law_worths" "_law_worths" s__law_worths [] [] (He.ga K "_law_worths")
  g__law_back : mg "_law_back" = some (.ref (He.ga K "_law_back"))
  D__law_back : FnD K "_law_back" "_law_back" s__law_back [] [] (He.ga K "_law_back")
  g__law_step : mg "_law_step" = some (.ref (He.ga K "_law_step"))
  D__law_step : FnD K "_law_step" "_law_step" s__law_step [] [] (He.ga K "_law_step")
  g__law_ran : mg "_law_ran" = some (.ref (He.ga K "_law_ran"))
  D__law_ran : FnD K "_law_ran" "_law_ran" s__law_ran [] [] (He.ga K "_law_ran")
  g__law_words : mg "_law_words" = some (.ref (He.ga K "_law_words"))
  D__law_words : FnD K "_law_words" "_law_words" s__law_words [] [] (He.ga K "_law_words")
  g__law_heights : mg "_law_heights" = some (.ref (He.ga K "_law_heights"))
  D__law_heights : FnD K "_law_heights" "_law_heights" s__law_heights [] [] (He.ga K "_law_heights")
  g__law_right : mg "_law_right" = some (.ref (He.ga K "_law_right"))
  D__law_right : FnD K "_law_right" "_law_right" s__law_right [] [] (He.ga K "_law_right")
  g_law : mg "law" = some (.ref (He.ga K "law"))
  D_law : FnD K "law" "law" s_law [] [] (He.ga K "law")
  i_Answer : IsaC K (He.ga K "Answer")
  q_Answer_Ran : PySem.W.kitOne K (.ref (He.ga K "Answer")) (.ref (He.ga K "Ran")) = some false
  q_Answer_Dry : PySem.W.kitOne K (.ref (He.ga K "Answer")) (.ref (He.ga K "Dry")) = some false
  q_Answer_Spent : PySem.W.kitOne K (.ref (He.ga K "Answer")) (.ref (He.ga K "Spent")) = some false
  q_Answer_Code : PySem.W.kitOne K (.ref (He.ga K "Answer")) (.ref (He.ga K "Code")) = some false
  q_Answer_Answer : PySem.W.kitOne K (.ref (He.ga K "Answer")) (.ref (He.ga K "Answer")) = some true
  g_Answer : mg "Answer" = some (.ref (He.ga K "Answer"))
  c_Answer : Cls K (He.ga K "Answer")
  i_Ran : IsaC K (He.ga K "Ran")
  q_Ran_Ran : PySem.W.kitOne K (.ref (He.ga K "Ran")) (.ref (He.ga K "Ran")) = some true
  q_Ran_Dry : PySem.W.kitOne K (.ref (He.ga K "Ran")) (.ref (He.ga K "Dry")) = some false
  q_Ran_Spent : PySem.W.kitOne K (.ref (He.ga K "Ran")) (.ref (He.ga K "Spent")) = some false
  q_Ran_Code : PySem.W.kitOne K (.ref (He.ga K "Ran")) (.ref (He.ga K "Code")) = some false
  q_Ran_Answer : PySem.W.kitOne K (.ref (He.ga K "Ran")) (.ref (He.ga K "Answer")) = some true
  g_Ran : mg "Ran" = some (.ref (He.ga K "Ran"))
  c_Ran : Cls K (He.ga K "Ran")
  n_Ran_told : NoAttr K (He.ga K "Ran") "told"
  n_Ran_pile : NoAttr K (He.ga K "Ran") "pile"
  n_Ran_steps : NoAttr K (He.ga K "Ran") "steps"
  mk_Ran : Mk K (He.ga K "Ran") (He.ma K (He.ga K "Ran") "__init__")
  i_Dry : IsaC K (He.ga K "Dry")
  q_Dry_Ran : PySem.W.kitOne K (.ref (He.ga K "Dry")) (.ref (He.ga K "Ran")) = some false
  q_Dry_Dry : PySem.W.kitOne K (.ref (He.ga K "Dry")) (.ref (He.ga K "Dry")) = some true
  q_Dry_Spent : PySem.W.kitOne K (.ref (He.ga K "Dry")) (.ref (He.ga K "Spent")) = some false
  q_Dry_Code : PySem.W.kitOne K (.ref (He.ga K "Dry")) (.ref (He.ga K "Code")) = some false
  q_Dry_Answer : PySem.W.kitOne K (.ref (He.ga K "Dry")) (.ref (He.ga K "Answer")) = some true
  g_Dry : mg "Dry" = some (.ref (He.ga K "Dry"))
  c_Dry : Cls K (He.ga K "Dry")
  n_Dry_told : NoAttr K (He.ga K "Dry") "told"
  n_Dry_label : NoAttr K (He.ga K "Dry") "label"
  n_Dry_row : NoAttr K (He.ga K "Dry") "row"
  mk_Dry : Mk K (He.ga K "Dry") (He.ma K (He.ga K "Dry") "__init__")
  i_Spent : IsaC K (He.ga K "Spent")
  q_Spent_Ran : PySem.W.kitOne K (.ref (He.ga K "Spent")) (.ref (He.ga K "Ran")) = some false
  q_Spent_Dry : PySem.W.kitOne K (.ref (He.ga K "Spent")) (.ref (He.ga K "Dry")) = some false
  q_Spent_Spent : PySem.W.kitOne K (.ref (He.ga K "Spent")) (.ref (He.ga K "Spent")) = some true
  q_Spent_Code : PySem.W.kitOne K (.ref (He.ga K "Spent")) (.ref (He.ga K "Code")) = some false
  q_Spent_Answer : PySem.W.kitOne K (.ref (He.ga K "Spent")) (.ref (He.ga K "Answer")) = some true
  g_Spent : mg "Spent" = some (.ref (He.ga K "Spent"))
  c_Spent : Cls K (He.ga K "Spent")
  n_Spent_told : NoAttr K (He.ga K "Spent") "told"
  mk_Spent : Mk K (He.ga K "Spent") (He.ma K (He.ga K "Spent") "__init__")
  i_Tally : IsaC K (He.ga K "Tally")
  q_Tally_Ran : PySem.W.kitOne K (.ref (He.ga K "Tally")) (.ref (He.ga K "Ran")) = some false
  q_Tally_Dry : PySem.W.kitOne K (.ref (He.ga K "Tally")) (.ref (He.ga K "Dry")) = some false
  q_Tally_Spent : PySem.W.kitOne K (.ref (He.ga K "Tally")) (.ref (He.ga K "Spent")) = some false
  q_Tally_Code : PySem.W.kitOne K (.ref (He.ga K "Tally")) (.ref (He.ga K "Code")) = some false
  q_Tally_Answer : PySem.W.kitOne K (.ref (He.ga K "Tally")) (.ref (He.ga K "Answer")) = some false
  g_Tally : mg "Tally" = some (.ref (He.ga K "Tally"))
  c_Tally : Cls K (He.ga K "Tally")
  n_Tally_worths : NoAttr K (He.ga K "Tally") "worths"
  n_Tally_most : NoAttr K (He.ga K "Tally") "most"
  n_Tally_heard : NoAttr K (He.ga K "Tally") "heard"
  n_Tally_told_so_far : NoAttr K (He.ga K "Tally") "told_so_far"
  n_Tally_steps_done : NoAttr K (He.ga K "Tally") "steps_done"
  mk_Tally : Mk K (He.ga K "Tally") (He.ma K (He.ga K "Tally") "__init__")
  me_Tally_step : Meth K (He.ga K "Tally") "step" (He.ma K (He.ga K "Tally") "step")
  me_Tally_tell : Meth K (He.ga K "Tally") "tell" (He.ma K (He.ga K "Tally") "tell")
  me_Tally_hear : Meth K (He.ga K "Tally") "hear" (He.ma K (He.ga K "Tally") "hear")
  i_Code : IsaC K (He.ga K "Code")
  q_Code_Ran : PySem.W.kitOne K (.ref (He.ga K "Code")) (.ref (He.ga K "Ran")) = some false
  q_Code_Dry : PySem.W.kitOne K (.ref (He.ga K "Code")) (.ref (He.ga K "Dry")) = some false
  q_Code_Spent : PySem.W.kitOne K (.ref (He.ga K "Code")) (.ref (He.ga K "Spent")) = some false
  q_Code_Code : PySem.W.kitOne K (.ref (He.ga K "Code")) (.ref (He.ga K "Code")) = some true
  q_Code_Answer : PySem.W.kitOne K (.ref (He.ga K "Code")) (.ref (He.ga K "Answer")) = some false
  g_Code : mg "Code" = some (.ref (He.ga K "Code"))
  c_Code : Cls K (He.ga K "Code")
  n_Code_parts : NoAttr K (He.ga K "Code") "parts"
  n_Code_table : NoAttr K (He.ga K "Code") "table"
  n_Code_high : NoAttr K (He.ga K "Code") "high"
  mk_Code : Mk K (He.ga K "Code") (He.ma K (He.ga K "Code") "__init__")
  me_Code___eq__ : Meth K (He.ga K "Code") "__eq__" (He.ma K (He.ga K "Code") "__eq__")
  me_Code___len__ : Meth K (He.ga K "Code") "__len__" (He.ma K (He.ga K "Code") "__len__")
  me_Code_find_heights : Meth K (He.ga K "Code") "find_heights" (He.ma K (He.ga K "Code") "find_heights")
  me_Code_blocks : Meth K (He.ga K "Code") "blocks" (He.ma K (He.ga K "Code") "blocks")
  me_Code_heights : Meth K (He.ga K "Code") "heights" (He.ma K (He.ga K "Code") "heights")
  me_Code_first : Meth K (He.ga K "Code") "first" (He.ma K (He.ga K "Code") "first")
end Pb

/-! W1 -/
set_option Elab.async false
set_option linter.all false
set_option maxRecDepth 100000
set_option maxHeartbeats 4000000
namespace Pb
open PySem PySem.Spec PyProof.Rows L2
open C8 (Cal Mak Met pe_c pe_mk pe_mt pe_mt0 pe_gc fnScope_by)
/-! short words -/
local macro_rules | `(tactic| walk_at "rd") => `(tactic| try simp only [tVar, tC, tAdd, tSub, t2I, tIsN, tNotN, tB, tAnd, tOr, tNot, tAndV, tOrV, tNotV, tIf, tSeq, tPar, tPar3, tNext, tBreak, tCont, tDrop, tRet, tRetN, tIfS, gName, gNil, gCons, gTup, gSub, tAsg, tAug, ipI, iList, iTup, iRng1, iRng2, iStr, iEnum, iZip,
  tOp, tUn, rI, rI0, rU, tTest, tChain, tFld, sFld, sFldAug, L2.rAdd, L2.rSub, tNil, tCons, tTup, tLst, tCall, tMeth, tMake, tCB, tNoPart, tPart, tSl, tBM0, tBM, tDGet, tDGet1, tDGet2, tDIn, tDNotIn, sDPut, tDNewK, rEq, rNe, scal_ii, scal_ss, scal_bb, scal_nn, scal_ni, scal_in, scal_ns, scal_sn, scal_is, scal_si, List.take_succ_cons, List.take_zero, List.drop_succ_cons, List.drop_zero, upd_same, upd_upd, and_assoc, tKGet, gStar, tDisp, tPairs, tYes,
  L2.start, List.map_cons, List.map_nil, List.length_cons, List.length_nil, List.cons_append, List.nil_append, List.append_nil, List.replicate, Nat.sub_self, Nat.add_sub_cancel, Nat.reduceAdd, Nat.reduceSub, List.set_cons_zero, List.set_cons_succ, List.getElem?_cons_zero, List.getElem?_cons_succ,
  Option.some.injEq, V.int.injEq, V.bl.injEq, V.str.injEq, V.ref.injEq, exists_eq_left', exists_eq_left, exists_eq', exists_eq, true_and, and_true, if_true, if_false, Bool.false_eq_true, List.cons.injEq, Bool.not_true, Bool.not_false, cxK, cxP, cxW, ite_true, ite_false, wipe, reduceCtorEq, and_self, decide_true, decide_false, exists_and_left, exists_const, decide_eq_true_eq])
local macro_rules | `(tactic| walk_at "len") => `(tactic| (intro vs H Q E h; repeat (first | (obtain ⟨e, _⟩ := h; subst e; rfl) | (obtain ⟨_, h⟩ := h))))
local macro_rules | `(tactic| walk_at "wd") => `(tactic| simp (config := {decide := true}) only [V.str.injEq, scal_ss, true_and, if_true, if_false])

def lettersS : Str := "abcdefghijklmnopqrstuvwxyz"
def isWhole : PyData → Bool
  | .int _ => true
  | _ => false
def within (d : PyData) (lo hi : Int) : Bool := match d with
  | .int i => decide (lo ≤ i) && decide (i ≤ hi)
  | _ => false
/-- a text that is a name -/
def nameS (x : Str) : Bool := decide (1 ≤ x.length) && decide (x.length ≤ 8) && x.cps.toList.all fun c => decide (c ∈ lettersS.cps.toList)
def nameD : PyData → Bool
  | .str x => nameS x
  | _ => false
def tupleOf (d : PyData) (most : Int) : Bool := match d with
  | .tuple (x :: xs) => decide (((xs.length + 1 : Nat) : Int) ≤ most) && isStr x
  | _ => false
def short : PyData → Prop
  | .str x => x.length ≤ sizeLine
  | _ => True
def rowD : PyData → Bool
  | .tuple (.str w :: xs) => decide (xs.length ≤ 1) && (decide (w ∈ c_WORDS) && if w = "put" then (match xs with
    | [d] => within d (-32768) 32767
    | _ => false) else decide (xs.length = 0))
  | _ => false
def sp_is_whole (K : PySem.W.Frag) : Sp := fun vs H Q _ => ∃ ms v d, vs = [v] ∧ Tk H ms ∧ Dp K (hide H ms) v d ∧ ∀ H', Same H H' → Q (.bl (isWhole d)) H'
def sp_within (K : PySem.W.Frag) : Sp := fun vs H Q _ => ∃ ms v d lo hi, vs = [v, .int lo, .int hi] ∧ Tk H ms ∧ Dp K (hide H ms) v d ∧ ∀ H', Same H H' → Q (.bl (within d lo hi)) H'
def sp_is_worth (K : PySem.W.Frag) : Sp := fun vs H Q _ => ∃ ms v d, vs = [v] ∧ Tk H ms ∧ Dp K (hide H ms) v d ∧ ∀ H', Same H H' → Q (.bl (within d (-32768) 32767)) H'
def sp_is_name (K : PySem.W.Frag) : Sp := fun vs H Q _ => ∃ ms v d, vs = [v] ∧ Tk H ms ∧ Dp K (hide H ms) v d ∧ short d ∧ ∀ H', Same H H' → Q (.bl (nameD d)) H'
def sp_is_tuple_of (K : PySem.W.Frag) : Sp := fun vs H Q _ => ∃ ms v d n, vs = [v, .int n] ∧ Tk H ms ∧ Dp K (hide H ms) v d ∧ ∀ H', Same H H' → Q (.bl (tupleOf d n)) H'
def sp_is_row (K : PySem.W.Frag) : Sp := fun vs H Q _ => ∃ ms v d, vs = [v] ∧ Tk H ms ∧ Dp K (hide H ms) v d ∧ ∀ H', Same H H' → Q (.bl (rowD d)) H'
/-- how many worths a word touches, how many more there are behind it -/
def touchN (w : Str) : Int := if w ∈ c_SUMS then 2 else ((c_TOUCHES.find? fun q => decide (q.1 = w)).map (·.2)).getD 0
def changeN (w : Str) : Int := if w ∈ c_SUMS then -1 else ((c_CHANGES.find? fun q => decide (q.1 = w)).map (·.2)).getD 0
def sp_touches (K : PySem.W.Frag) : Sp := fun vs H Q _ => ∃ ms v w xs, vs = [v] ∧ Tk H ms ∧ Dp K (hide H ms) v (.tuple (.str w :: xs)) ∧ (w ∈ c_SUMS ∨ w ∈ c_TOUCHES.map (·.1)) ∧ Q (.int (touchN w)) H
def sp_change (K : PySem.W.Frag) : Sp := fun vs H Q _ => ∃ ms v w xs, vs = [v] ∧ Tk H ms ∧ Dp K (hide H ms) v (.tuple (.str w :: xs)) ∧ (w ∈ c_SUMS ∨ w ∈ c_TOUCHES.map (·.1)) ∧ Q (.int (changeN w)) H
def back (n : Int) : Int := (n + 32768) % 65536 - 32768
def sp_brought_back (K : PySem.W.Frag) : Sp := fun vs H Q _ => ∃ n, vs = [.int n] ∧ Q (.int (back n)) H
theorem tab_find {l : List (Str × Int)} (nd : (l.map (·.1)).Nodup) {x : Str} {n : Int} (h : (x, n) ∈ l) : ((l.find? fun q => decide (q.1 = x)).map (·.2)).getD 0 = n := by
  induction l with
  | nil => cases h
  | cons q l ih =>
    rw [List.map_cons, List.nodup_cons] at nd
    rw [List.find?_cons]
    rcases List.mem_cons.mp h with e | h2
    · subst e
      rw [decide_eq_true rfl]
      rfl
    · have ne : ¬ q.1 = x := fun e => nd.1 (List.mem_map.mpr ⟨_, h2, e.symm⟩)
      rw [decide_eq_false ne]
      exact ih nd.2 h2
theorem mem_touches {x : Str} {q : Str × Int} (h : q ∈ c_TOUCHES) (e : q.1 = x) : ∃ n, (x, n) ∈ c_TOUCHES := ⟨q.2, by rw [← e]; exact h⟩
theorem mem_change {x : Str} {q : Str × Int} (h : q ∈ c_TOUCHES) (e : q.1 = x) : ∃ n, (x, n) ∈ c_CHANGES := by
  have k0 : ∀ q ∈ c_TOUCHES, q.1 ∈ c_CHANGES.map (·.1) := by decide +kernel
  have k := k0 q h
  rw [e] at k
  obtain ⟨q2, h2, e2⟩ := List.mem_map.mp k
  exact ⟨q2.2, by rw [← e2]; exact h2⟩
theorem find_touches {x : Str} {n : Int} (h : (x, n) ∈ c_TOUCHES) : ((c_TOUCHES.find? fun q => decide (q.1 = x)).map (·.2)).getD 0 = n := tab_find (by decide +kernel) h
theorem find_change {x : Str} {n : Int} (h : (x, n) ∈ c_CHANGES) : ((c_CHANGES.find? fun q => decide (q.1 = x)).map (·.2)).getD 0 = n := tab_find (by decide +kernel) h
section
variable {P : Program} {w : World} {K : PySem.W.Frag} {mg : Str → Option Value} {base : Heap}
theorem ok_is_whole (T : Tx w K mg) : Cal P w K mg base 1 "is_whole" (sp_is_whole K) [] := by
  refine cal_of T.D_is_whole T.g_is_whole sc_is_whole (fun _ _ _ _ _ _ us hl => match us, hl with | [_], _ => rfl) (by walk_at "len") fun cdv A outer s H vs Q E hr h => ?_
  refine ⟨_, (pss_one (ps_ret (pe_and (pe_callB (r := rIsi K) call_isi (by rfl) T.b_isinstance (by decide +kernel) (pa_cons (pv 0) (pa_cons (pe_bltn (v := .ty "int") (by rfl) T.b_int (by decide +kernel) rfl) pa_nil))) (pe_one (pe_not (pe_callB (r := rIsi K) call_isi (by rfl) T.b_isinstance (by decide +kernel) (pa_cons (pv 0) (pa_cons (pe_bltn (v := .ty "bool") (by rfl) T.b_bool (by decide +kernel) rfl) pa_nil)))))))), ?_⟩
  obtain ⟨ms, v, d, rfl, tk, hd, k⟩ := h
  replace hd := Dp.mono same_show hd
  walk_at "rd"
  refine a_isi hd (kit_int _) ?_
  walk_at "rd"
  cases d <;> simp only [isInt, if_true, if_false, Bool.false_eq_true]
  case int =>
    refine a_isi hd (kit_bool _) ?_
    simp only [isBool]
    walk_at "rd"
    exact k _ (Same.refl _)
  case bool =>
    refine a_isi hd (kit_bool _) ?_
    simp only [isBool]
    walk_at "rd"
    exact k _ (Same.refl _)
  all_goals exact k _ (Same.refl _)
theorem ok_within (T : Tx w K mg) (F_is_whole : Cal P w K mg base 1 "is_whole" (sp_is_whole K) []) : Cal P w K mg base 2 "within" (sp_within K) [] := by
  refine cal_of T.D_within T.g_within sc_within (fun _ _ _ _ _ _ us hl => match us, hl with | [_, _, _], _ => rfl) (by walk_at "len") fun cdv A outer s H vs Q E hr h => ?_
  refine ⟨_, (pss_one (ps_ret (pe_and (pe_c F_is_whole hr (by decide) (by rfl) (pa_cons (pv 0) pa_nil)) (pe_one (pe_chain op_le op_le (pv 1) (pv 0) (pv 2)))))), ?_⟩
  obtain ⟨ms, v, d, lo, hi, rfl, tk, hd, k⟩ := h
  walk_at "rd"
  refine ⟨_, _, _, rfl, tk, hd, fun H' s1 => ?_⟩
  walk_at "rd"
  cases d <;> simp only [isWhole, if_true, if_false, Bool.false_eq_true]
  case int i =>
    cases hd
    walk_at "rd"
    have k2 := k H' s1
    simp only [within] at k2
    split
    next h1 => rw [decide_eq_true h1, Bool.true_and] at k2; exact k2
    next h1 => rw [decide_eq_false h1, Bool.false_and] at k2; exact k2
  all_goals exact k _ s1
theorem ok_is_worth (T : Tx w K mg) (F_within : Cal P w K mg base 2 "within" (sp_within K) []) : Cal P w K mg base 3 "is_worth" (sp_is_worth K) [] := by
  refine cal_of T.D_is_worth T.g_is_worth sc_is_worth (fun _ _ _ _ _ _ us hl => match us, hl with | [_], _ => rfl) (by walk_at "len") fun cdv A outer s H vs Q E hr h => ?_
  refine ⟨_, (pss_one (ps_ret (pe_c F_within hr (by decide) (by rfl) (pa_cons (pv 0) (pa_cons (pe_gc (by rfl) T.v_LEAST) (pa_cons (pe_gc (by rfl) T.v_MOST_WORTH) pa_nil)))))), ?_⟩
  obtain ⟨ms, v, d, rfl, tk, hd, k⟩ := h
  walk_at "rd"
  exact ⟨_, _, _, _, _, rfl, tk, hd, fun H' s1 => k H' s1⟩
theorem ok_is_tuple_of (T : Tx w K mg) : Cal P w K mg base 1 "is_tuple_of" (sp_is_tuple_of K) [] := by
  refine cal_of T.D_is_tuple_of T.g_is_tuple_of sc_is_tuple_of (fun _ _ _ _ _ _ us hl => match us, hl with | [_, _], _ => rfl) (by walk_at "len") fun cdv A outer s H vs Q E hr h => ?_
  refine ⟨_, (pss_one (ps_ret (pe_and (pe_callB (r := rIsi K) call_isi (by rfl) T.b_isinstance (by decide +kernel) (pa_cons (pv 0) (pa_cons (pe_bltn (v := .ty "tuple") (by rfl) T.b_tuple (by decide +kernel) rfl) pa_nil))) (pe_and (pe_chain op_le op_le pe_int (pe_callB (r := rLenQ K) call_lenQ (by rfl) T.b_len (by decide +kernel) (pa_cons (pv 0) pa_nil)) (pv 1)) (pe_one (pe_callB (r := rIsi K) call_isi (by rfl) T.b_isinstance (by decide +kernel) (pa_cons (pe_ix (r := rIx K) ix_seq (pv 0) pe_int (fun _ _ => rfl)) (pa_cons (pe_bltn (v := .ty "str") (by rfl) T.b_str (by decide +kernel) rfl) pa_nil)))))))), ?_⟩
  obtain ⟨ms, v, d, n, rfl, tk, hd, k⟩ := h
  replace hd := Dp.mono same_show hd
  walk_at "rd"
  refine a_isi hd (kit_tuple _) ?_
  walk_at "rd"
  cases d <;> simp only [isTuple, if_true, if_false, Bool.false_eq_true]
  case tuple ds =>
    refine a_lenT hd ?_
    walk_at "rd"
    cases ds with
    | nil => exact k _ (Same.refl _)
    | cons x xs =>
      have e1 : (1 : Int) ≤ (xs.length + 1 : Nat) := by omega
      simp only [List.length_cons]
      rw [if_pos e1]
      have k2 := k H (Same.refl _)
      simp only [tupleOf] at k2
      split
      next hn =>
        refine a_ixT hd atI_0 fun u hu => ?_
        refine a_isi hu (kit_str _) ?_
        rw [decide_eq_true hn, Bool.true_and] at k2
        exact k2
      next hn =>
        rw [decide_eq_false hn, Bool.false_and] at k2
        exact k2
  all_goals exact k _ (Same.refl _)
theorem ok_is_name (T : Tx w K mg) : Cal P w K mg base 1 "is_name" (sp_is_name K) [] := by
  refine cal_of T.D_is_name T.g_is_name sc_is_name (fun _ _ _ _ _ _ us hl => match us, hl with | [_], _ => rfl) (by walk_at "len") fun cdv A outer s H vs Q E hr h => ?_
  refine ⟨_, (pss_one (ps_ret (pe_and (pe_callB (r := rIsi K) call_isi (by rfl) T.b_isinstance (by decide +kernel) (pa_cons (pv 0) (pa_cons (pe_bltn (v := .ty "str") (by rfl) T.b_str (by decide +kernel) rfl) pa_nil))) (pe_and (pe_chain op_le op_le pe_int (pe_callB call_lenS (by rfl) T.b_len (by decide +kernel) (pa_cons (pv 0) pa_nil)) pe_int) (pe_one (pe_callB (r := rAll K) (cr_all rfl) (by rfl) T.b_all (by decide +kernel) (pa_cons (pe_lc rfl sc_is_name.nd (pi_str (pv 0)) (blkOk_by (own := [("sign", 1)]) (N := ["thing", "sign"]) (sc := L2.defScope s_is_name) (by decide +kernel)) (fun _ _ _ _ _ => (pg_m (pg_name (i := 1) sc_is_name.nd rfl (by first | exact Or.inl rfl | exact Or.inr rfl)))) (fun _ _ _ _ _ => pts_nilM) (fun _ _ _ _ _ => (pe_m (pe_cmpR op_in_sign (pv 1) (pe_gc (by rfl) T.v_LETTERS) (by rfl))))) pa_nil))))))), ?_⟩
  obtain ⟨ms, v, d, rfl, tk, hd, hsh, k⟩ := h
  replace hd := Dp.mono same_show hd
  walk_at "rd"
  refine a_isi hd (kit_str _) ?_
  walk_at "rd"
  cases d <;> simp only [isStr, if_true, if_false, Bool.false_eq_true]
  case str x =>
    cases hd
    refine ⟨x, rfl, hsh, ?_⟩
    walk_at "rd"
    have k2 := fun H' s1 => k H' s1
    simp only [nameD, nameS] at k2
    split
    next h1 =>
      split
      next h2 =>
        refine a_lc ?_
        walk_at "rd"
        intro D hD
        have hz : x.cps.size < sizeLine := by
          have q : (x.cps.size : Int) ≤ 8 := h2
          rw [sizeLine_eq]; omega
        refine lc_pure (K := K) (ms := []) walk_str hD Tk.nil hz (fun _ _ => trivial) (fun _ => true) (fun i => .bool (decide (x.cps.toList.getD i 0 ∈ lettersS.cps.toList))) (fun i y H1 H2 hi s1 hD1 hy => ?_) (fun H1 ys s1 e1 e2 => ?_)
        · obtain ⟨e0, c, ec, rfl⟩ := hy
          subst e0
          walk_at "rd"
          have ec2 : x.cps.toList.getD i 0 = c := by rw [List.getD_eq_getElem?_getD, Array.getElem?_toList, ec]; rfl
          rw [ec2]
          exact ⟨fun z => z.elim, fun _ => ⟨c, rfl, Same.refl _, .bl _⟩⟩
        · have e3 : ((List.range x.cps.size).filter fun _ => true).map (fun i => PyData.bool (decide (x.cps.toList.getD i 0 ∈ lettersS.cps.toList))) = (x.cps.toList.map fun c => decide (c ∈ lettersS.cps.toList)).map PyData.bool := by
            have q := range_m (0 : Nat) (fun c => PyData.bool (decide (c ∈ lettersS.cps.toList))) x.cps.toList
            rw [List.map_map]
            have q2 : x.cps.toList.length = x.cps.size := Array.length_toList
            rw [q2] at q
            exact q
          rw [e3] at e2
          refine a_all (.lst (SqL.of e1) (DpAll.mono same_show e2)) ?_
          have k3 := k2 H1 s1
          have a1 : 1 ≤ x.length := by omega
          have a2 : x.length ≤ 8 := by omega
          simp only [decide_eq_true a1, decide_eq_true a2, Bool.true_and] at k3
          rw [List.all_map]
          exact k3
      next h2 =>
        have k3 := k2 H (Same.refl _)
        have a2 : ¬ x.length ≤ 8 := by omega
        simp only [decide_eq_false a2, Bool.and_false, Bool.false_and] at k3
        exact k3
    next h1 =>
      have k3 := k2 H (Same.refl _)
      have a1 : ¬ 1 ≤ x.length := by omega
      simp only [decide_eq_false a1, Bool.false_and] at k3
      exact k3
  all_goals exact k _ (Same.refl _)
theorem ok_is_row (T : Tx w K mg) (F_is_tuple_of : Cal P w K mg base 1 "is_tuple_of" (sp_is_tuple_of K) []) (F_is_worth : Cal P w K mg base 3 "is_worth" (sp_is_worth K) []) : Cal P w K mg base 4 "is_row" (sp_is_row K) [] := by
  refine cal_of T.D_is_row T.g_is_row sc_is_row (fun _ _ _ _ _ _ us hl => match us, hl with | [_], _ => rfl) (by walk_at "len") fun cdv A outer s H vs Q E hr h => ?_
  refine ⟨_, (pss_cons (ps_if (PW.pt (pw_or (pt_not (pt_val (pe_c F_is_tuple_of hr (by decide) (by rfl) (pa_cons (pv 0) (pa_cons pe_int pa_nil))))) (pw_or1 (pt_cmpR (r := rIn K true) op_notIn_seq (pe_ix (r := rIx K) ix_seq (pv 0) pe_int (fun _ _ => rfl)) (pe_gc (by rfl) T.v_WORDS) (by rfl))))) (pss_one (ps_ret pe_bl)) pss_nil)
    (pss_one (ps_ret (pe_ifExp (pt_cmpR op_eq (pe_ix (r := rIx K) ix_seq (pv 0) pe_int (fun _ _ => rfl)) pe_str (nomark _)) (pe_and (pe_cmpR op_eq (pe_callB (r := rLenQ K) call_lenQ (by rfl) T.b_len (by decide +kernel) (pa_cons (pv 0) pa_nil)) pe_int (nomark _)) (pe_one (pe_c F_is_worth hr (by decide) (by rfl) (pa_cons (pe_ix (r := rIx K) ix_seq (pv 0) pe_int (fun _ _ => rfl)) pa_nil)))) (pe_cmpR op_eq (pe_callB (r := rLenQ K) call_lenQ (by rfl) T.b_len (by decide +kernel) (pa_cons (pv 0) pa_nil)) pe_int (nomark _)))))), ?_⟩
  obtain ⟨ms, v, d, rfl, tk, hd, k⟩ := h
  walk_at "rd"
  refine ⟨_, _, _, _, rfl, tk, hd, fun H1 s1 => ?_⟩
  walk_at "rd"
  replace hd := Dp.mono same_show (Dp.mono (Same.hide s1 ms) hd)
  cases d <;> simp only [tupleOf, if_true, Bool.not_false]
  case tuple ds =>
    cases ds with
    | nil => exact k H1 s1
    | cons x xs =>
      cases x <;> simp only [tupleOf, isStr, Bool.and_false, Bool.and_true, Bool.not_false, if_true]
      case str z =>
        have k2 := fun H' s1 => k H' s1
        simp only [rowD] at k2
        by_cases h1 : xs.length ≤ 1
        · have h2 : ((xs.length + 1 : Nat) : Int) ≤ 2 := by omega
          simp only [decide_eq_true h1, Bool.true_and] at k2
          simp only [decide_eq_true h2, Bool.not_true, Bool.false_eq_true, if_false]
          refine a_ixT hd atI_0 fun u hu => ?_
          cases hu
          refine a_in_strs (.inr (T.t_WORDS _)) ?_
          walk_at "rd"
          by_cases h3 : z ∈ c_WORDS
          · rw [decide_eq_true h3, Bool.true_and] at k2
            have h4 : (!decide (z ∈ c_WORDS)) = false := by rw [decide_eq_true h3]; rfl
            rw [if_neg (by rw [h4]; exact Bool.false_ne_true)]
            refine a_ixT hd atI_0 fun u hu => ?_
            cases hu
            walk_at "rd"
            by_cases h5 : z = Str.ofString "put"
            · rw [if_pos h5] at k2 ⊢
              refine a_lenT hd ?_
              walk_at "rd"
              match xs, hd, h1, k2 with
              | [], hd, _, k2 =>
                rw [if_neg (by decide)]
                exact k2 _ s1
              | [y], hd, _, k2 =>
                rw [if_pos (by rfl)]
                refine a_ixT hd atI_1 fun u hu => ?_
                exact ⟨[], u, y, rfl, Tk.nil, by rw [hide_nil]; exact hu, fun H' s2 => k2 H' (s1.trans s2)⟩
              | _ :: _ :: _, _, h1, _ => exact absurd h1 (by simp)
            · rw [if_neg h5] at k2 ⊢
              refine a_lenT hd ?_
              walk_at "rd"
              have k3 := k2 H1 s1
              have e : decide (((PyData.str z :: xs).length : Int) = 1) = decide (xs.length = 0) := by
                rw [List.length_cons]
                by_cases q : xs.length = 0
                · rw [decide_eq_true q, decide_eq_true (by omega)]
                · rw [decide_eq_false q, decide_eq_false (by omega)]
              rw [← e] at k3
              exact k3
          · rw [decide_eq_false h3, Bool.false_and] at k2
            have h4 : (!decide (z ∈ c_WORDS)) = true := by rw [decide_eq_false h3]; rfl
            rw [if_pos h4]
            exact k2 _ s1
        · have h2 : ¬ ((xs.length + 1 : Nat) : Int) ≤ 2 := by omega
          simp only [decide_eq_false h1, Bool.false_and] at k2
          simp only [decide_eq_false h2, Bool.not_false, if_true]
          exact k2 _ s1
      all_goals exact k H1 s1
  all_goals exact k H1 s1
theorem ok_touches (T : Tx w K mg) : Cal P w K mg base 1 "touches" (sp_touches K) [] := by
  refine cal_of T.D_touches T.g_touches sc_touches (fun _ _ _ _ _ _ us hl => match us, hl with | [_], _ => rfl) (by walk_at "len") fun cdv A outer s H vs Q E hr h => ?_
  refine ⟨_, (pss_one (ps_ret (pe_ifExp (pt_cmpR (r := rIn K false) op_in_seq (pe_ix (r := rIx K) ix_seq (pv 0) pe_int (fun _ _ => rfl)) (pe_gc (by rfl) T.v_SUMS) (by rfl)) pe_int (pe_kdget T.k_TOUCHES (pe_gc (by rfl) T.v_TOUCHES) (pe_ix (r := rIx K) ix_seq (pv 0) pe_int (fun _ _ => rfl)) (fun _ _ => rfl))))), ?_⟩
  obtain ⟨ms, v, x, xs, rfl, tk, hd, hw, k⟩ := h
  replace hd := Dp.mono same_show hd
  walk_at "rd"
  refine a_ixT hd atI_0 fun u hu => ?_
  cases hu
  refine a_in_strs (.inr (T.t_SUMS _)) ?_
  walk_at "rd"
  unfold touchN at k
  by_cases h1 : x ∈ c_SUMS
  · rw [if_pos h1] at k ⊢
    exact k
  · rw [if_neg h1] at k ⊢
    refine a_ixT hd atI_0 fun u hu => ?_
    cases hu
    obtain ⟨q, hq, e⟩ := List.mem_map.mp (hw.resolve_left h1)
    obtain ⟨n, en⟩ : ∃ n, (x, n) ∈ c_TOUCHES := mem_touches hq e
    obtain ⟨u, e1, e2⟩ := T.x_TOUCHES _ en
    refine ⟨x, rfl, u, e1, .int n, e2, ?_⟩
    have e3 : ((c_TOUCHES.find? fun q => decide (q.1 = x)).map (·.2)).getD 0 = n := find_touches en
    rw [e3] at k
    exact k
theorem ok_change (T : Tx w K mg) : Cal P w K mg base 1 "change" (sp_change K) [] := by
  refine cal_of T.D_change T.g_change sc_change (fun _ _ _ _ _ _ us hl => match us, hl with | [_], _ => rfl) (by walk_at "len") fun cdv A outer s H vs Q E hr h => ?_
  refine ⟨_, (pss_one (ps_ret (pe_ifExp (pt_cmpR (r := rIn K false) op_in_seq (pe_ix (r := rIx K) ix_seq (pv 0) pe_int (fun _ _ => rfl)) (pe_gc (by rfl) T.v_SUMS) (by rfl)) (pe_un un_neg pe_int) (pe_kdget T.k_CHANGES (pe_gc (by rfl) T.v_CHANGES) (pe_ix (r := rIx K) ix_seq (pv 0) pe_int (fun _ _ => rfl)) (fun _ _ => rfl))))), ?_⟩
  obtain ⟨ms, v, x, xs, rfl, tk, hd, hw, k⟩ := h
  replace hd := Dp.mono same_show hd
  walk_at "rd"
  refine a_ixT hd atI_0 fun u hu => ?_
  cases hu
  refine a_in_strs (.inr (T.t_SUMS _)) ?_
  walk_at "rd"
  unfold changeN at k
  by_cases h1 : x ∈ c_SUMS
  · rw [if_pos h1] at k ⊢
    exact k
  · rw [if_neg h1] at k ⊢
    refine a_ixT hd atI_0 fun u hu => ?_
    cases hu
    obtain ⟨q, hq, e⟩ := List.mem_map.mp (hw.resolve_left h1)
    obtain ⟨n, en⟩ : ∃ n, (x, n) ∈ c_CHANGES := mem_change hq e
    obtain ⟨u, e1, e2⟩ := T.x_CHANGES _ en
    refine ⟨x, rfl, u, e1, .int n, e2, ?_⟩
    have e3 : ((c_CHANGES.find? fun q => decide (q.1 = x)).map (·.2)).getD 0 = n := find_change en
    rw [e3] at k
    exact k
theorem ok_brought_back (T : Tx w K mg) : Cal P w K mg base 1 "brought_back" (sp_brought_back K) [] := by
  refine cal_of T.D_brought_back T.g_brought_back sc_brought_back (fun _ _ _ _ _ _ us hl => match us, hl with | [_], _ => rfl) (by walk_at "len") fun cdv A outer s H vs Q E hr h => ?_
  refine ⟨_, (pss_one (ps_ret (pe_op op_add (pe_op op_mod (pe_op op_sub (pv 0) (pe_gc (by rfl) T.v_LEAST)) (pe_gc (by rfl) T.v_ROUND)) (pe_gc (by rfl) T.v_LEAST)))), ?_⟩
  obtain ⟨n, rfl, k⟩ := h
  walk_at "rd"
  exact ⟨by decide, k⟩
end
end Pb

/-! W2 -/
set_option Elab.async false
set_option linter.all false
set_option maxRecDepth 100000
set_option maxHeartbeats 4000000
namespace Pb
open PySem PySem.Spec PyProof.Rows L2
open C8 (Cal Mak Met pe_c pe_mk pe_mt pe_mt0 pe_gc fnScope_by)
/-! short words -/
local macro_rules | `(tactic| walk_at "rd") => `(tactic| try simp only [tVar, tC, tAdd, tSub, t2I, tIsN, tNotN, tB, tAnd, tOr, tNot, tAndV, tOrV, tNotV, tIf, tSeq, tPar, tPar3, tNext, tBreak, tCont, tDrop, tRet, tRetN, tIfS, gName, gNil, gCons, gTup, gSub, tAsg, tAug, ipI, iList, iTup, iRng1, iRng2, iStr, iEnum, iZip,
  tOp, tUn, rI, rI0, rU, tTest, tChain, tFld, sFld, sFldAug, L2.rAdd, L2.rSub, tNil, tCons, tTup, tLst, tCall, tMeth, tMake, tCB, tNoPart, tPart, tSl, tBM0, tBM, tDGet, tDGet1, tDGet2, tDIn, tDNotIn, sDPut, tDNewK, rEq, rNe, scal_ii, scal_ss, scal_bb, scal_nn, scal_ni, scal_in, scal_ns, scal_sn, scal_is, scal_si, List.take_succ_cons, List.take_zero, List.drop_succ_cons, List.drop_zero, upd_same, upd_upd, and_assoc, tKGet, gStar, tDisp, tPairs, tYes,
  L2.start, List.map_cons, List.map_nil, List.length_cons, List.length_nil, List.cons_append, List.nil_append, List.append_nil, List.replicate, Nat.sub_self, Nat.add_sub_cancel, Nat.reduceAdd, Nat.reduceSub, List.set_cons_zero, List.set_cons_succ, List.getElem?_cons_zero, List.getElem?_cons_succ,
  Option.some.injEq, V.int.injEq, V.bl.injEq, V.str.injEq, V.ref.injEq, exists_eq_left', exists_eq_left, exists_eq', exists_eq, true_and, and_true, if_true, if_false, Bool.false_eq_true, List.cons.injEq, Bool.not_true, Bool.not_false, cxK, cxP, cxW, ite_true, ite_false, wipe, reduceCtorEq, and_self, decide_true, decide_false, exists_and_left, exists_const, decide_eq_true_eq])
local macro_rules | `(tactic| walk_at "len") => `(tactic| (intro vs H Q E h; repeat (first | (obtain ⟨e, _⟩ := h; subst e; rfl) | (obtain ⟨_, h⟩ := h))))
local macro_rules | `(tactic| walk_at "wd") => `(tactic| simp (config := {decide := true}) only [V.str.injEq, scal_ss, true_and, if_true, if_false])

def endN (w : Str) : Option Nat := if w = "go" then some 1 else if w = "if" then some 2 else if w = "stop" then some 0 else none
def endD : PyData → Bool
  | .tuple (.str w :: xs) => decide (xs.length ≤ 2) && ((match endN w with
    | some n => decide (xs.length = n)
    | none => false) && xs.all nameD)
  | _ => false
def shortT : PyData → Prop
  | .tuple xs => ∀ x ∈ xs, short x
  | _ => True
def sp_is_end (K : PySem.W.Frag) : Sp := fun vs H Q _ => ∃ ms v d, vs = [v] ∧ Tk H ms ∧ Dp K (hide H ms) v d ∧ shortT d ∧ ∀ H', Same H H' → Q (.bl (endD d)) H'
def summedI (w : Str) (a b : Int) : Int := if w = "plus" then back (a + b) else if w = "less" then back (a - b) else if w = "times" then back (a * b) else if a < b then 1 else 0
def small (a : Int) : Prop := -(2 ^ 64) < a ∧ a < 2 ^ 64
def sp_summed (K : PySem.W.Frag) : Sp := fun vs H Q _ => ∃ w a b, vs = [.str w, .int a, .int b] ∧ small a ∧ Q (.int (summedI w a b)) H
def endTab : List (Key × V) := [(Sum.inr (Str.ofString "go"), .int 1), (Sum.inr (Str.ofString "if"), .int 2), (Sum.inr (Str.ofString "stop"), .int 0)]
theorem inr_ne {a b : Str} (h : ¬ a = b) : ¬ (Sum.inr a : Key) = Sum.inr b := fun z => h (Sum.inr.inj z)
theorem endTab_at (z : Str) : valV endTab (Sum.inr z) = (endN z).map fun n => V.int (n : Nat) := by
  unfold valV endTab endN
  by_cases h1 : z = Str.ofString "go"
  · subst h1; decide +kernel
  rw [if_neg h1]
  by_cases h2 : z = Str.ofString "if"
  · subst h2; decide +kernel
  rw [if_neg h2]
  by_cases h3 : z = Str.ofString "stop"
  · subst h3; decide +kernel
  rw [if_neg h3]
  simp only [List.find?_cons, decide_eq_false (inr_ne (Ne.symm h1)), decide_eq_false (inr_ne (Ne.symm h2)), decide_eq_false (inr_ne (Ne.symm h3)), List.find?_nil]
  rfl
section
variable {P : Program} {w : World} {K : PySem.W.Frag} {mg : Str → Option Value} {base : Heap}
theorem ok_summed (T : Tx w K mg) (F_brought_back : Cal P w K mg base 1 "brought_back" (sp_brought_back K) []) : Cal P w K mg base 2 "summed" (sp_summed K) [] := by
  refine cal_of T.D_summed T.g_summed sc_summed (fun _ _ _ _ _ _ us hl => match us, hl with | [_, _, _], _ => rfl) (by walk_at "len") fun cdv A outer s H vs Q E hr h => ?_
  refine ⟨_, (pss_cons (ps_if (pt_cmpR op_eq (pv 0) pe_str (nomark _)) (pss_one (ps_ret (pe_c F_brought_back hr (by decide) (by rfl) (pa_cons (pe_op op_add (pv 1) (pv 2)) pa_nil)))) pss_nil)
    (pss_cons (ps_if (pt_cmpR op_eq (pv 0) pe_str (nomark _)) (pss_one (ps_ret (pe_c F_brought_back hr (by decide) (by rfl) (pa_cons (pe_op op_sub (pv 1) (pv 2)) pa_nil)))) pss_nil)
    (pss_cons (ps_if (pt_cmpR op_eq (pv 0) pe_str (nomark _)) (pss_one (ps_ret (pe_c F_brought_back hr (by decide) (by rfl) (pa_cons (pe_op op_mul (pv 1) (pv 2)) pa_nil)))) pss_nil)
    (pss_one (ps_ret (pe_ifExp (pt_cmpR op_lt (pv 1) (pv 2) (nomark _)) pe_int pe_int)))))), ?_⟩
  obtain ⟨x, a, b, rfl, hs, k⟩ := h
  walk_at "rd"
  unfold summedI at k
  by_cases h1 : x = Str.ofString "plus"
  · rw [if_pos h1] at k ⊢
    exact ⟨_, rfl, k⟩
  rw [if_neg h1] at k ⊢
  by_cases h2 : x = Str.ofString "less"
  · rw [if_pos h2] at k ⊢
    exact ⟨_, rfl, k⟩
  rw [if_neg h2] at k ⊢
  by_cases h3 : x = Str.ofString "times"
  · rw [if_pos h3] at k ⊢
    exact ⟨.inl hs, _, rfl, k⟩
  rw [if_neg h3] at k ⊢
  split
  next h4 => rw [if_pos h4] at k; exact k
  next h4 => rw [if_neg h4] at k; exact k
theorem ok_is_end (T : Tx w K mg) (F_is_tuple_of : Cal P w K mg base 1 "is_tuple_of" (sp_is_tuple_of K) []) (F_is_name : Cal P w K mg base 1 "is_name" (sp_is_name K) []) : Cal P w K mg base 2 "is_end" (sp_is_end K) [] := by
  refine cal_of T.D_is_end T.g_is_end sc_is_end (fun _ _ _ _ _ _ us hl => match us, hl with | [_], _ => rfl) (by walk_at "len") fun cdv A outer s H vs Q E hr h => ?_
  refine ⟨_, (pss_cons (ps_if (pt_not (pt_val (pe_c F_is_tuple_of hr (by decide) (by rfl) (pa_cons (pv 0) (pa_cons pe_int pa_nil))))) (pss_one (ps_ret pe_bl)) pss_nil)
    (pss_cons (ps_asg (pv 0) (pg_starK (K := K) (i := 1) rfl (pgs_cons (pg_name (i := 1) sc_is_end.nd rfl (by first | exact Or.inl rfl | exact Or.inr rfl)) (pgs_star (pg_name (i := 2) sc_is_end.nd rfl (by first | exact Or.inl rfl | exact Or.inr rfl)) pgs_nil))))
    (pss_cons (ps_set (i := 3) sc_is_end.nd rfl (by first | exact Or.inl rfl | exact Or.inr rfl) (pe_disp (pps_cons pe_str pe_int (pps_cons pe_str pe_int (pps_cons pe_str pe_int pps_nil))) (by rfl) (by rfl) (fun z => by cases z) (by decide)))
    (pss_one (ps_ret (pe_and (pe_cmp (pc_din (hu_of hr) (pv 1) (pv 3)) rfl) (pe_and (pe_cmpR op_eq (pe_callB (r := rLenQ K) call_lenQ (by rfl) T.b_len (by decide +kernel) (pa_cons (pv 2) pa_nil)) (pe_dget (hu_of hr) (pv 3) (pv 1) (fun _ _ => rfl)) (nomark _)) (pe_one (pe_callB (r := rAll K) (cr_all rfl) (by rfl) T.b_all (by decide +kernel) (pa_cons (pe_lc rfl sc_is_end.nd (pi_listK (K := K) (pv 2)) (blkOk_by (own := [("label", 4)]) (N := ["thing", "word", "labels", "counts", "label"]) (sc := L2.defScope s_is_end) (by decide +kernel)) (fun _ _ _ _ _ => (pg_m (pg_name (i := 4) sc_is_end.nd rfl (by first | exact Or.inl rfl | exact Or.inr rfl)))) (fun _ _ _ _ _ => pts_nilM) (fun _ _ _ _ _ => (pe_m (pe_c F_is_name hr (by decide) (by rfl) (pa_cons (pv 4) pa_nil))))) pa_nil)))))))))), ?_⟩
  obtain ⟨ms, v, d, rfl, tk, hd, hsh, k⟩ := h
  walk_at "rd"
  refine ⟨_, _, _, _, rfl, tk, hd, fun H1 s1 => ?_⟩
  walk_at "rd"
  replace hd := Dp.mono same_show (Dp.mono (Same.hide s1 ms) hd)
  cases d <;> simp only [tupleOf, if_true, Bool.not_false]
  case tuple ds =>
    cases ds with
    | nil => exact k H1 s1
    | cons x xs =>
      cases x <;> simp only [tupleOf, isStr, Bool.and_false, Bool.and_true, Bool.not_false, if_true]
      case str z =>
        have k2 := fun H' s1 => k H' s1
        simp only [endD] at k2
        by_cases h1 : xs.length ≤ 2
        · have h2 : ((xs.length + 1 : Nat) : Int) ≤ 3 := by omega
          simp only [decide_eq_true h2, Bool.not_true, Bool.false_eq_true, if_false]
          simp only [decide_eq_true h1, Bool.true_and] at k2
          obtain ⟨a, vs, rfl, hs, ha⟩ := dp_tuple hd
          cases ha with
          | cons hz hw =>
            rename_i v0 ws
            cases hz
            have hl := DpAll.length hw
            refine ⟨a, rfl, _, .inl hs, by rw [List.length_cons]; omega, by rw [List.length_cons]; omega, fun D hD => ?_⟩
            walk_at "rd"
            refine fun p hp => ⟨endTab, rfl, by decide, ?_⟩
            have hDp : D ≠ p := fun z => by rw [← z, upd_same] at hp; cases hp
            have hp1 : H1 p = none := by rw [upd_ne hDp.symm] at hp; exact hp
            have hm : mergeK [] endTab = endTab := by decide +kernel
            refine ⟨_, DGet.k (k := Sum.inr z) upd_same, ?_⟩
            rw [hm, endTab_at]
            cases hn : endN z with
            | none =>
              rw [hn] at k2
              walk_at "rd"
              exact k2 _ (s1.trans ((same_new hD).trans (same_new hp)))
            | some n =>
              rw [hn] at k2
              have hL : upd (upd H1 D (HO.lst ws)) p (HO.dK endTab) D = some (.lst ws) := by rw [upd_ne hDp, upd_same]
              have s2 : Same H1 (upd (upd H1 D (HO.lst ws)) p (HO.dK endTab)) := (same_new hD).trans (same_new hp)
              simp only [Option.map_some, Option.isSome_some, if_true]
              refine ⟨D, ws, rfl, .inl (SqL.of hL), .int (n : Nat), ?_, ?_⟩
              · have q := DGet.k (k := Sum.inr z) (upd_same (H := upd H1 D (HO.lst ws)) (a := p) (o := HO.dK endTab))
                rw [endTab_at, hn] at q
                exact q
              walk_at "rd"
              by_cases h5 : xs.length = n
              · rw [if_pos (by omega)]
                simp only [decide_eq_true h5, Bool.true_and] at k2
                refine a_lc ?_
                walk_at "rd"
                refine ⟨⟨ws, SqL.of hL⟩, fun D2 hD2 => ?_⟩
                refine lc_data (K := K) (ds := xs) (ms := []) walk_list hD2 Tk.nil (by rw [sizeLine_eq]; omega) (by rw [hide_nil]; exact DpAll.mono s2 hw) (fun H3 s3 => SqL.of (s3 _ _ hL)) (fun _ => true) (fun d => .bool (nameD d)) (fun y d H3 hd3 s3 hD3 hy => ?_) (fun H3 ys s3 e1 e2 => ?_)
                · walk_at "rd"
                  refine ⟨fun z => z.elim, fun _ => ⟨[], y, d, rfl, Tk.nil, by rw [hide_nil]; exact Dp.mono same_show hy, hsh d (List.mem_cons_of_mem _ hd3), fun H4 s4 => ⟨s4, .bl _⟩⟩⟩
                · rw [List.filter_eq_self.mpr fun _ _ => rfl] at e2
                  refine a_all (bs := xs.map nameD) (.lst (SqL.of e1) (DpAll.mono same_show (by rw [List.map_map]; exact e2))) ?_
                  rw [List.all_map]
                  exact k2 _ (s1.trans (s2.trans s3))
              · rw [if_neg (by omega)]
                simp only [decide_eq_false h5, Bool.false_and] at k2
                exact k2 _ (s1.trans s2)
        · have h2 : ¬ ((xs.length + 1 : Nat) : Int) ≤ 3 := by omega
          simp only [decide_eq_false h2, Bool.not_false, if_true]
          simp only [decide_eq_false h1, Bool.false_and] at k2
          exact k2 _ s1
      all_goals exact k H1 s1
  all_goals exact k H1 s1
end
end Pb

/-! W3 -/
set_option Elab.async false
set_option linter.all false
set_option maxRecDepth 100000
set_option maxHeartbeats 4000000
namespace Pb
open PySem PySem.Spec PyProof.Rows L2
open C8 (Cal Mak Met pe_c pe_mk pe_mt pe_mt0 pe_gc fnScope_by)
/-! short words -/
local macro_rules | `(tactic| walk_at "rd") => `(tactic| try simp only [tVar, tC, tAdd, tSub, t2I, tIsN, tNotN, tB, tAnd, tOr, tNot, tAndV, tOrV, tNotV, tIf, tSeq, tPar, tPar3, tNext, tBreak, tCont, tDrop, tRet, tRetN, tIfS, gName, gNil, gCons, gTup, gSub, tAsg, tAug, ipI, iList, iTup, iRng1, iRng2, iStr, iEnum, iZip,
  tOp, tUn, rI, rI0, rU, tTest, tChain, tFld, sFld, sFldAug, L2.rAdd, L2.rSub, tNil, tCons, tTup, tLst, tCall, tMeth, tMake, tCB, tNoPart, tPart, tSl, tBM0, tBM, tDGet, tDGet1, tDGet2, tDIn, tDNotIn, sDPut, tDNewK, rEq, rNe, scal_ii, scal_ss, scal_bb, scal_nn, scal_ni, scal_in, scal_ns, scal_sn, scal_is, scal_si, List.take_succ_cons, List.take_zero, List.drop_succ_cons, List.drop_zero, upd_same, upd_upd, and_assoc, tKGet, gStar, tDisp, tPairs, tYes,
  L2.start, List.map_cons, List.map_nil, List.length_cons, List.length_nil, List.cons_append, List.nil_append, List.append_nil, List.replicate, Nat.sub_self, Nat.add_sub_cancel, Nat.reduceAdd, Nat.reduceSub, List.set_cons_zero, List.set_cons_succ, List.getElem?_cons_zero, List.getElem?_cons_succ,
  Option.some.injEq, V.int.injEq, V.bl.injEq, V.str.injEq, V.ref.injEq, exists_eq_left', exists_eq_left, exists_eq', exists_eq, true_and, and_true, if_true, if_false, Bool.false_eq_true, List.cons.injEq, Bool.not_true, Bool.not_false, cxK, cxP, cxW, ite_true, ite_false, wipe, reduceCtorEq, and_self, decide_true, decide_false, exists_and_left, exists_const, decide_eq_true_eq])
local macro_rules | `(tactic| walk_at "len") => `(tactic| (intro vs H Q E h; repeat (first | (obtain ⟨e, _⟩ := h; subst e; rfl) | (obtain ⟨_, h⟩ := h))))
local macro_rules | `(tactic| walk_at "wd") => `(tactic| simp (config := {decide := true}) only [V.str.injEq, scal_ss, true_and, if_true, if_false])

/-! ### rows, ends, blocks as data of their own -/
inductive Row where
  | put (n : Int) | plus | less | times | under | same | over | swap | drop | tell | hear
  deriving DecidableEq
def Row.word : Row → Str
  | .put _ => "put"
  | .plus => "plus"
  | .less => "less"
  | .times => "times"
  | .under => "under"
  | .same => "same"
  | .over => "over"
  | .swap => "swap"
  | .drop => "drop"
  | .tell => "tell"
  | .hear => "hear"
def Row.args : Row → List PyData
  | .put n => [.int n]
  | _ => []
def Row.d (r : Row) : PyData := .tuple (.str r.word :: r.args)
inductive Fin where
  | go (l : Str) | iff (a b : Str) | stop
  deriving DecidableEq
def Fin.word : Fin → Str
  | .go _ => "go"
  | .iff _ _ => "if"
  | .stop => "stop"
def Fin.labels : Fin → List Str
  | .go l => [l]
  | .iff a b => [a, b]
  | .stop => []
def Fin.d (e : Fin) : PyData := .tuple (.str e.word :: e.labels.map PyData.str)
structure Blk where
  label : Str
  rows : List Row
  fin : Fin
  deriving DecidableEq
def rowsD (rs : List Row) : PyData := .list (rs.map Row.d)
def Blk.d (b : Blk) : PyData := .tuple [.str b.label, rowsD b.rows, b.fin.d]
def blocksD (bs : List Blk) : PyData := .list (bs.map Blk.d)
/-- how many of the top worths are touched, how many more there are behind -/
def Row.touch : Row → Nat
  | .put _ | .hear => 0
  | .same | .drop | .tell => 1
  | _ => 2
def Row.more : Row → Int
  | .put _ | .hear | .same | .over => 1
  | .swap => 0
  | _ => -1
def Fin.touch : Fin → Nat
  | .iff _ _ => 1
  | _ => 0
def Fin.more : Fin → Int
  | .iff _ _ => -1
  | _ => 0
theorem Row.touch_eq (r : Row) : touchN r.word = r.touch := by cases r <;> rfl
theorem Row.more_eq (r : Row) : changeN r.word = r.more := by cases r <;> rfl
theorem Fin.touch_eq (r : Fin) : touchN r.word = r.touch := by cases r <;> rfl
theorem Fin.more_eq (r : Fin) : changeN r.word = r.more := by cases r <;> rfl
theorem Row.known (r : Row) : r.word ∈ c_SUMS ∨ r.word ∈ c_TOUCHES.map (·.1) := by
  cases r <;> simp only [Row.word] <;> decide +kernel
theorem Fin.known (r : Fin) : r.word ∈ c_SUMS ∨ r.word ∈ c_TOUCHES.map (·.1) := by
  cases r <;> simp only [Fin.word] <;> decide +kernel
/-- the i-th worth from the top -/
def topN (ns : List Int) (i : Nat) : Int := ns.getD (ns.length - 1 - i) 0
def two (ns : List Int) (f : Int → Int → Int) : List Int := ns.take (ns.length - 2) ++ [f (topN ns 1) (topN ns 0)]
def doneOn (ns : List Int) : Row → List Int
  | .put n => ns ++ [n]
  | .same => ns ++ [topN ns 0]
  | .over => ns ++ [topN ns 1]
  | .swap => ns.take (ns.length - 2) ++ [topN ns 0, topN ns 1]
  | .drop => ns.take (ns.length - 1)
  | .plus => two ns fun a b => back (a + b)
  | .less => two ns fun a b => back (a - b)
  | .times => two ns fun a b => back (a * b)
  | .under => two ns fun a b => if a < b then 1 else 0
  | _ => ns
def Row.plain : Row → Bool
  | .tell | .hear => false
  | _ => true
theorem cut_from {xs : List V} {k : Nat} (h : k ≤ xs.length) (h0 : 0 < k) : cutV xs (some (-(k : Int))) none = xs.drop (xs.length - k) := by
  unfold cutV HT.sIx
  have e : (-(k : Int) + (xs.length : Int)).toNat = xs.length - k := by omega
  simp only [show -(k : Int) < 0 by omega, if_true, e]
  rw [List.take_of_length_le (by rw [List.length_drop]; omega)]
theorem cut_to {xs : List V} {k : Nat} (h : k ≤ xs.length) (h0 : 0 < k) : cutV xs none (some (-(k : Int))) = xs.take (xs.length - k) := by
  unfold cutV HT.sIx
  have e : (-(k : Int) + (xs.length : Int)).toNat = xs.length - k := by omega
  simp only [show -(k : Int) < 0 by omega, if_true, e, List.drop_zero, Nat.sub_zero]
theorem cut_mid {xs : List V} (h : 2 ≤ xs.length) : cutV xs (some (-2)) (some (-1)) = (xs.drop (xs.length - 2)).take 1 := by
  unfold cutV HT.sIx
  have e1 : ((-2 : Int) + (xs.length : Int)).toNat = xs.length - 2 := by omega
  have e2 : ((-1 : Int) + (xs.length : Int)).toNat = xs.length - 1 := by omega
  simp only [show (-2 : Int) < 0 by omega, show (-1 : Int) < 0 by omega, if_true, e1, e2]
  congr 1
  omega
theorem top_drop {ns : List Int} {i : Nat} (h : i < ns.length) : (ns.drop (ns.length - 1 - i)).take 1 = [topN ns i] := by
  have h2 : ns.length - 1 - i < ns.length := by omega
  rw [List.drop_eq_getElem_cons h2, List.take_succ_cons, List.take_zero]
  unfold topN
  rw [List.getD_eq_getElem?_getD, List.getElem?_eq_getElem h2]
  rfl
theorem atI_neg {ns : List Int} {i : Nat} (h : i < ns.length) : atI (ns.map V.int) (-((i + 1 : Nat) : Int)) = some (V.int (topN ns i)) := by
  unfold atI ixN
  rw [if_neg (by omega), if_pos (by rw [List.length_map]; omega), List.length_map]
  have e : (-((i + 1 : Nat) : Int) + (ns.length : Int)).toNat = ns.length - 1 - i := by omega
  have h2 : ns.length - 1 - i < ns.length := by omega
  show (ns.map V.int)[(-((i + 1 : Nat) : Int) + (ns.length : Int)).toNat]? = _
  rw [e, List.getElem?_map, List.getElem?_eq_getElem h2]
  unfold topN
  rw [List.getD_eq_getElem?_getD, List.getElem?_eq_getElem h2]
  rfl
theorem topN_mem {ns : List Int} {i : Nat} (h : i < ns.length) : topN ns i ∈ ns := by
  have h2 : ns.length - 1 - i < ns.length := by omega
  unfold topN
  rw [List.getD_eq_getElem?_getD, List.getElem?_eq_getElem h2]
  exact List.getElem_mem h2
def sp_done_on (K : PySem.W.Frag) : Sp := fun vs H Q _ => ∃ ms p ns v r, vs = [.ref p, v] ∧ H p = some (.lst (ns.map V.int)) ∧ Tk H ms ∧ Dp K (hide H ms) v (Row.d r) ∧ r.plain = true ∧ r.touch ≤ ns.length ∧ ns.length ≤ 1000 ∧ (∀ n ∈ ns, small n) ∧
  ∀ H' q, Same H H' → H q = none → H' q = some (.lst ((doneOn ns r).map V.int)) → Q (.ref q) H'
section
variable {P : Program} {w : World} {K : PySem.W.Frag} {mg : Str → Option Value} {base : Heap}
theorem ok_done_on (T : Tx w K mg) (F_summed : Cal P w K mg base 2 "summed" (sp_summed K) []) : Cal P w K mg base 3 "done_on" (sp_done_on K) [] := by
  refine cal_of T.D_done_on T.g_done_on sc_done_on (fun _ _ _ _ _ _ us hl => match us, hl with | [_, _], _ => rfl) (by walk_at "len") fun cdv A outer s H vs Q E hr h => ?_
  refine ⟨_, (pss_cons (ps_set (i := 2) sc_done_on.nd rfl (by first | exact Or.inl rfl | exact Or.inr rfl) (pe_ix (r := rIx K) ix_seq (pv 1) pe_int (fun _ _ => rfl)))
    (pss_cons (ps_if (pt_cmpR op_eq (pv 2) pe_str (nomark _)) (pss_one (ps_ret (pe_op op_cat (pv 0) (pe_lst (pa_cons (pe_ix (r := rIx K) ix_seq (pv 1) pe_int (fun _ _ => rfl)) pa_nil))))) pss_nil)
    (pss_cons (ps_if (pt_cmpR op_eq (pv 2) pe_str (nomark _)) (pss_one (ps_ret (pe_op op_cat (pv 0) (pe_slice (r := rSlL K) sl_list (pv 0) (po_some (pe_un un_neg pe_int)) po_none)))) pss_nil)
    (pss_cons (ps_if (pt_cmpR op_eq (pv 2) pe_str (nomark _)) (pss_one (ps_ret (pe_op op_cat (pv 0) (pe_slice (r := rSlL K) sl_list (pv 0) (po_some (pe_un un_neg pe_int)) (po_some (pe_un un_neg pe_int)))))) pss_nil)
    (pss_cons (ps_if (pt_cmpR op_eq (pv 2) pe_str (nomark _)) (pss_one (ps_ret (pe_op op_cat (pe_slice (r := rSlL K) sl_list (pv 0) po_none (po_some (pe_un un_neg pe_int))) (pe_lst (pa_cons (pe_ix (r := rIx K) ix_seq (pv 0) (pe_un un_neg pe_int) (fun _ _ => rfl)) (pa_cons (pe_ix (r := rIx K) ix_seq (pv 0) (pe_un un_neg pe_int) (fun _ _ => rfl)) pa_nil)))))) pss_nil)
    (pss_one (ps_ret (pe_ifExp (pt_cmpR op_eq (pv 2) pe_str (nomark _)) (pe_slice (r := rSlL K) sl_list (pv 0) po_none (po_some (pe_un un_neg pe_int))) (pe_op op_cat (pe_slice (r := rSlL K) sl_list (pv 0) po_none (po_some (pe_un un_neg pe_int))) (pe_lst (pa_cons (pe_c F_summed hr (by decide) (by rfl) (pa_cons (pv 2) (pa_cons (pe_ix (r := rIx K) ix_seq (pv 0) (pe_un un_neg pe_int) (fun _ _ => rfl)) (pa_cons (pe_ix (r := rIx K) ix_seq (pv 0) (pe_un un_neg pe_int) (fun _ _ => rfl)) pa_nil)))) pa_nil))))))))))), ?_⟩
  obtain ⟨ms, p, ns, v, r, rfl, hp, tk, hd, hpl, ht, hl, hs, k⟩ := h
  replace hd := Dp.mono same_show hd
  walk_at "rd"
  have hln : (ns.map V.int).length = ns.length := List.length_map _
  cases r <;> simp only [Row.d, Row.word, Row.args, Row.plain, Row.touch, doneOn, Bool.false_eq_true] at hd hpl ht k <;> refine a_ixT hd atI_0 fun u hu => ?_ <;> cases hu <;> walk_at "wd"
  case put n =>
    refine a_ixT hd atI_1 fun u hu => ?_
    cases hu
    refine fun q hq => ⟨p, q, _, _, rfl, rfl, keep_at hp hq, upd_same, by rw [hln, List.length_singleton, sizeLine_eq]; omega, fun q2 hq2 => ?_⟩
    refine k _ q2 ((same_new hq).trans (same_new hq2)) ((same_new hq).free hq2) ?_
    rw [upd_same, List.map_append]
    rfl
  case same =>
    refine ⟨p, _, rfl, SqL.of hp, fun q hq => ⟨p, q, _, _, rfl, rfl, keep_at hp hq, upd_same, ?_, fun q2 hq2 => ?_⟩⟩
    · rw [show (-1 : Int) = -((1 : Nat) : Int) from rfl, cut_from (by rw [hln]; exact ht) (by decide), List.length_drop, hln, sizeLine_eq]; omega
    refine k _ q2 ((same_new hq).trans (same_new hq2)) ((same_new hq).free hq2) ?_
    rw [upd_same, show (-1 : Int) = -((1 : Nat) : Int) from rfl, cut_from (by rw [hln]; exact ht) (by decide), hln, List.map_append, ← List.map_drop]
    have e := top_drop (ns := ns) (i := 0) ht
    rw [Nat.sub_zero, List.take_of_length_le (by rw [List.length_drop]; omega)] at e
    rw [e]
  case over =>
    refine ⟨p, _, rfl, SqL.of hp, fun q hq => ⟨p, q, _, _, rfl, rfl, keep_at hp hq, upd_same, ?_, fun q2 hq2 => ?_⟩⟩
    · rw [cut_mid (by rw [hln]; exact ht), List.length_take, hln, sizeLine_eq]; omega
    refine k _ q2 ((same_new hq).trans (same_new hq2)) ((same_new hq).free hq2) ?_
    rw [upd_same, cut_mid (by rw [hln]; exact ht), hln, List.map_append, ← List.map_drop, ← List.map_take]
    have e := top_drop (ns := ns) (i := 1) ht
    rw [show ns.length - 1 - 1 = ns.length - 2 by omega] at e
    rw [e]
  case swap =>
    refine ⟨p, _, rfl, SqL.of hp, fun q hq => ?_⟩
    have s1 := same_new (o := HO.lst (cutV (ns.map V.int) none (some (-2)))) hq
    refine .inl ⟨p, _, _, _, rfl, rfl, SqL.of (s1 _ _ hp), atI_neg (i := 0) (by omega), ?_⟩
    refine .inl ⟨p, _, _, _, rfl, rfl, SqL.of (s1 _ _ hp), atI_neg (i := 1) (by omega), ?_⟩
    refine fun q1 hq1 => ⟨q, q1, _, _, rfl, rfl, keep_at upd_same hq1, upd_same, ?_, fun q2 hq2 => ?_⟩
    · rw [show (-2 : Int) = -((2 : Nat) : Int) from rfl, cut_to (by rw [hln]; exact ht) (by decide), List.length_take, hln, sizeLine_eq]; simp only [List.length_cons, List.length_nil]; omega
    refine k _ q2 ((s1.trans (same_new hq1)).trans (same_new hq2)) ((s1.trans (same_new hq1)).free hq2) ?_
    rw [upd_same, show (-2 : Int) = -((2 : Nat) : Int) from rfl, cut_to (by rw [hln]; exact ht) (by decide), hln, List.map_append, ← List.map_take]
    rfl
  case drop =>
    refine ⟨p, _, rfl, SqL.of hp, fun q hq => ?_⟩
    refine k _ q (same_new hq) hq ?_
    rw [upd_same, show (-1 : Int) = -((1 : Nat) : Int) from rfl, cut_to (by rw [hln]; exact ht) (by decide), hln, ← List.map_take]
  all_goals
    refine ⟨p, _, rfl, SqL.of hp, fun q hq => ?_⟩
    have s1 := same_new (o := HO.lst (cutV (ns.map V.int) none (some (-2)))) hq
    refine .inl ⟨p, _, _, _, rfl, rfl, SqL.of (s1 _ _ hp), atI_neg (i := 1) (by omega), ?_⟩
    refine .inl ⟨p, _, _, _, rfl, rfl, SqL.of (s1 _ _ hp), atI_neg (i := 0) (by omega), ?_⟩
    refine ⟨_, _, _, rfl, hs _ (topN_mem (by omega)), fun q1 hq1 => ⟨q, q1, _, _, rfl, rfl, keep_at upd_same hq1, upd_same, ?_, fun q2 hq2 => ?_⟩⟩
    · rw [show (-2 : Int) = -((2 : Nat) : Int) from rfl, cut_to (by rw [hln]; exact ht) (by decide), List.length_take, hln, sizeLine_eq]; simp only [List.length_cons, List.length_nil]; omega
    refine k _ q2 ((s1.trans (same_new hq1)).trans (same_new hq2)) ((s1.trans (same_new hq1)).free hq2) ?_
    rw [upd_same, show (-2 : Int) = -((2 : Nat) : Int) from rfl, cut_to (by rw [hln]; exact ht) (by decide), hln]
    unfold two
    rw [List.map_append, ← List.map_take]
    rfl
end
end Pb

/-! W4 -/
set_option Elab.async false
set_option linter.all false
set_option maxRecDepth 100000
set_option maxHeartbeats 4000000
namespace Pb
open PySem PySem.Spec PyProof.Rows L2
open C8 (Cal Mak Met pe_c pe_mk pe_mt pe_mt0 pe_gc fnScope_by)
/-! short words -/
local macro_rules | `(tactic| walk_at "rd") => `(tactic| try simp only [tVar, tC, tAdd, tSub, t2I, tIsN, tNotN, tB, tAnd, tOr, tNot, tAndV, tOrV, tNotV, tIf, tSeq, tPar, tPar3, tNext, tBreak, tCont, tDrop, tRet, tRetN, tIfS, gName, gNil, gCons, gTup, gSub, tAsg, tAug, ipI, iList, iTup, iRng1, iRng2, iStr, iEnum, iZip,
  tOp, tUn, rI, rI0, rU, tTest, tChain, tFld, sFld, sFldAug, L2.rAdd, L2.rSub, tNil, tCons, tTup, tLst, tCall, tMeth, tMake, tCB, tNoPart, tPart, tSl, tBM0, tBM, tDGet, tDGet1, tDGet2, tDIn, tDNotIn, sDPut, tDNewK, rEq, rNe, scal_ii, scal_ss, scal_bb, scal_nn, scal_ni, scal_in, scal_ns, scal_sn, scal_is, scal_si, List.take_succ_cons, List.take_zero, List.drop_succ_cons, List.drop_zero, upd_same, upd_upd, and_assoc, tKGet, gStar, tDisp, tPairs, tYes,
  L2.start, List.map_cons, List.map_nil, List.length_cons, List.length_nil, List.cons_append, List.nil_append, List.append_nil, List.replicate, Nat.sub_self, Nat.add_sub_cancel, Nat.reduceAdd, Nat.reduceSub, List.set_cons_zero, List.set_cons_succ, List.getElem?_cons_zero, List.getElem?_cons_succ,
  Option.some.injEq, V.int.injEq, V.bl.injEq, V.str.injEq, V.ref.injEq, exists_eq_left', exists_eq_left, exists_eq', exists_eq, true_and, and_true, if_true, if_false, Bool.false_eq_true, List.cons.injEq, Bool.not_true, Bool.not_false, cxK, cxP, cxW, ite_true, ite_false, wipe, reduceCtorEq, and_self, decide_true, decide_false, exists_and_left, exists_const, decide_eq_true_eq])
local macro_rules | `(tactic| walk_at "len") => `(tactic| (intro vs H Q E h; repeat (first | (obtain ⟨e, _⟩ := h; subst e; rfl) | (obtain ⟨_, h⟩ := h))))
local macro_rules | `(tactic| walk_at "wd") => `(tactic| simp (config := {decide := true}) only [V.str.injEq, scal_ss, true_and, if_true, if_false])

def rowsOk : PyData → Bool
  | .list rs => decide (rs.length ≤ 12) && rs.all rowD
  | _ => false
def blockD : PyData → Bool
  | .tuple [a, b, c] => nameD a && (rowsOk b && endD c)
  | _ => false
def labelK : PyData → Key
  | .tuple (.str x :: _) => .inr x
  | _ => .inl 0
def areBlocksD : PyData → Bool
  | .list bs => decide (1 ≤ bs.length) && (decide (bs.length ≤ 6) && (bs.all blockD && decide (((bs.map labelK).foldl addKey []).length = bs.length)))
  | _ => false
/-- texts that are not too long to be looked at -/
def shB : PyData → Prop
  | .tuple [a, _, c] => short a ∧ shortT c
  | _ => True
def shBs : PyData → Prop
  | .list bs => ∀ b ∈ bs, shB b
  | _ => True
def sp_are_blocks (K : PySem.W.Frag) : Sp := fun vs H Q _ => ∃ ms v d, vs = [v] ∧ Tk H ms ∧ Dp K (hide H ms) v d ∧ shBs d ∧ ∀ H', Same H H' → Q (.bl (areBlocksD d)) H'
theorem atI_2 {α : Type} {x y z : α} {xs : List α} : atI (x :: y :: z :: xs) 2 = some z := by
  unfold atI ixN
  rw [if_pos (by omega), if_pos (by rw [List.length_cons, List.length_cons, List.length_cons]; omega)]
  rfl
theorem blockD_form {d : PyData} (h : blockD d = true) : ∃ x c2 c3, d = .tuple [.str x, c2, c3] := by
  unfold blockD at h
  split at h
  next a b c =>
    cases a <;> simp only [nameD, Bool.false_and, Bool.false_eq_true] at h
    exact ⟨_, _, _, rfl⟩
  next => cases h
section
variable {P : Program} {w : World} {K : PySem.W.Frag} {mg : Str → Option Value} {base : Heap}
theorem ok_are_blocks (T : Tx w K mg) (F_is_name : Cal P w K mg base 1 "is_name" (sp_is_name K) []) (F_is_row : Cal P w K mg base 4 "is_row" (sp_is_row K) []) (F_is_end : Cal P w K mg base 2 "is_end" (sp_is_end K) []) : Cal P w K mg base 5 "are_blocks" (sp_are_blocks K) [] := by
  refine cal_of T.D_are_blocks T.g_are_blocks sc_are_blocks (fun _ _ _ _ _ _ us hl => match us, hl with | [_], _ => rfl) (by walk_at "len") fun cdv A outer s H vs Q E hr h => ?_
  refine ⟨_, (pss_cons (ps_if (PW.pt (pw_or (pt_not (pt_val (pe_callB (r := rIsi K) call_isi (by rfl) T.b_isinstance (by decide +kernel) (pa_cons (pv 0) (pa_cons (pe_bltn (v := .ty "list") (by rfl) T.b_list (by decide +kernel) rfl) pa_nil))))) (pw_or1 (pt_not (pt_chain op_le op_le pe_int (pe_callB (r := rLenQ K) call_lenQ (by rfl) T.b_len (by decide +kernel) (pa_cons (pv 0) pa_nil)) (pe_gc (by rfl) T.v_MOST_BLOCKS)))))) (pss_one (ps_ret pe_bl)) pss_nil)
    (pss_cons (ps_for PassesOwn.never rfl (pi_listK (K := K) (pv 0)) (pg_name (i := 1) sc_are_blocks.nd rfl (by first | exact Or.inl rfl | exact Or.inr rfl)) (pss_cons (ps_if (PW.pt (pw_or (pt_not (pt_val (pe_callB (r := rIsi K) call_isi (by rfl) T.b_isinstance (by decide +kernel) (pa_cons (pv 1) (pa_cons (pe_bltn (v := .ty "tuple") (by rfl) T.b_tuple (by decide +kernel) rfl) pa_nil))))) (pw_or (pt_cmpR op_ne (pe_callB (r := rLenQ K) call_lenQ (by rfl) T.b_len (by decide +kernel) (pa_cons (pv 1) pa_nil)) pe_int (nomark _)) (pw_or (pt_not (pt_val (pe_c F_is_name hr (by decide) (by rfl) (pa_cons (pe_ix (r := rIx K) ix_seq (pv 1) pe_int (fun _ _ => rfl)) pa_nil)))) (pw_or1 (pt_not (pt_val (pe_callB (r := rIsi K) call_isi (by rfl) T.b_isinstance (by decide +kernel) (pa_cons (pe_ix (r := rIx K) ix_seq (pv 1) pe_int (fun _ _ => rfl)) (pa_cons (pe_bltn (v := .ty "list") (by rfl) T.b_list (by decide +kernel) rfl) pa_nil)))))))))) (pss_one (ps_ret pe_bl)) pss_nil)
    (pss_one (ps_if (PW.pt (pw_or (pt_cmpR op_gt (pe_callB (r := rLenQ K) call_lenQ (by rfl) T.b_len (by decide +kernel) (pa_cons (pe_ix (r := rIx K) ix_seq (pv 1) pe_int (fun _ _ => rfl)) pa_nil)) (pe_gc (by rfl) T.v_MOST_ROWS) (nomark _)) (pw_or (pt_not (pt_val (pe_callB (r := rAll K) (cr_all rfl) (by rfl) T.b_all (by decide +kernel) (pa_cons (pe_lc rfl sc_are_blocks.nd (pi_listK (K := K) (pe_ix (r := rIx K) ix_seq (pv 1) pe_int (fun _ _ => rfl))) (blkOk_by (own := [("row", 2)]) (N := ["thing", "block", "row"]) (sc := L2.defScope s_are_blocks) (by decide +kernel)) (fun _ _ _ _ _ => (pg_m (pg_name (i := 2) sc_are_blocks.nd rfl (by first | exact Or.inl rfl | exact Or.inr rfl)))) (fun _ _ _ _ _ => pts_nilM) (fun _ _ _ _ _ => (pe_m (pe_c F_is_row hr (by decide) (by rfl) (pa_cons (pv 2) pa_nil))))) pa_nil)))) (pw_or1 (pt_not (pt_val (pe_c F_is_end hr (by decide) (by rfl) (pa_cons (pe_ix (r := rIx K) ix_seq (pv 1) pe_int (fun _ _ => rfl)) pa_nil)))))))) (pss_one (ps_ret pe_bl)) pss_nil))))
    (pss_one (ps_ret (pe_cmpR op_eq (pe_callB (r := rLenK P w) call_lenK (by rfl) T.b_len (by decide +kernel) (pa_cons (pe_scB bagKey rfl sc_are_blocks.nd (pi_listK (K := K) (pv 0)) (blkOk_by (own := [("block", 1)]) (N := ["thing", "block", "row"]) (sc := L2.defScope s_are_blocks) (by decide +kernel)) (fun _ _ _ _ _ => (pg_name (i := 1) sc_are_blocks.nd rfl (by first | exact Or.inl rfl | exact Or.inr rfl))) (fun _ _ _ _ _ => (pe_ix (r := rIx K) ix_seq (pv 1) pe_int (fun _ _ => rfl)))) pa_nil)) (pe_callB (r := rLenQ K) call_lenQ (by rfl) T.b_len (by decide +kernel) (pa_cons (pv 0) pa_nil)) (nomark _)))))), ?_⟩
  obtain ⟨ms, v, d, rfl, tk, hd, hsh, k⟩ := h
  replace hd := Dp.mono same_show hd
  walk_at "rd"
  refine a_isi hd (kit_list _) ?_
  walk_at "rd"
  cases d <;> simp only [isList, Bool.not_true, Bool.not_false, if_true, if_false, Bool.false_eq_true]
  case list ds =>
    refine a_lenL hd ?_
    walk_at "rd"
    have k2 := fun H' s1 => k H' s1
    simp only [areBlocksD] at k2
    by_cases h1 : 1 ≤ ds.length
    · rw [if_pos (by omega)]
      by_cases h2 : ds.length ≤ 6
      · have e2 : (!decide ((ds.length : Int) ≤ 6)) = false := by rw [decide_eq_true (by omega)]; rfl
        simp only [e2, Bool.false_eq_true, if_false]
        simp only [decide_eq_true h1, decide_eq_true h2, Bool.true_and] at k2
        have no : ∀ e ∈ ds, blockD e = false → ∀ H', Same H H' → Q (.bl false) H' := fun e he hb H' s1 => by
          have q : ds.all blockD = false := by
            cases q : ds.all blockD with
            | false => rfl
            | true => rw [List.all_eq_true.mp q e he] at hb; cases hb
          have k3 := k2 H' s1
          rw [q, Bool.false_and] at k3
          exact k3
        obtain ⟨a, vs, rfl, hs, ha⟩ := dp_list hd
        have hl := DpAll.length ha
        refine a_for ?_
        walk_at "rd"
        refine ⟨⟨vs, hs⟩, ?_⟩
        refine for_go (walk_list (xs := vs)) (fun i σ H1 => Same H H1 ∧ (∃ o, σ = [some (.ref a), o, none]) ∧ (ds.take i).all blockD = true) ⟨Same.refl _, ⟨_, rfl⟩, by rw [List.take_zero]; rfl⟩ (fun i σ H1 _ q => sqL_same q.1 hs) ?_ ?_
        · rintro i x σ H1 H1' hi ⟨s1, ⟨o, rfl⟩, hall⟩ ⟨e0, ex⟩
          subst e0
          obtain ⟨e, ee, he⟩ := DpAll.at ha ex
          have hmem := List.mem_of_getElem? ee
          replace he := Dp.mono s1 he
          have yes : blockD e = true → (ds.take (i + 1)).all blockD = true := fun hb => by
            rw [List.take_succ, List.all_append, hall, ee]
            simp [hb]
          walk_at "rd"
          refine a_isi he (kit_tuple _) ?_
          walk_at "rd"
          cases e <;> simp only [isTuple, Bool.not_true, Bool.not_false, if_true, if_false, Bool.false_eq_true]
          case tuple es =>
            refine a_lenT he ?_
            walk_at "rd"
            by_cases h3 : es.length = 3
            · rw [if_neg (by rw [decide_eq_true (by omega)]; decide)]
              obtain ⟨c1, c2, c3, rfl⟩ : ∃ c1 c2 c3, es = [c1, c2, c3] := by
                match es, h3 with
                | [c1, c2, c3], _ => exact ⟨_, _, _, rfl⟩
              have hsh2 : shB (.tuple [c1, c2, c3]) := hsh _ hmem
              refine a_ixT he atI_0 fun u hu => ?_
              refine ⟨[], u, c1, rfl, Tk.nil, by rw [hide_nil]; exact hu, hsh2.1, fun H2 s2 => ?_⟩
              walk_at "rd"
              cases hn : nameD c1 with
              | false =>
                rw [if_pos (by decide)]
                exact no _ hmem (by simp [blockD, hn]) _ (s1.trans s2)
              | true =>
                rw [if_neg (by decide)]
                replace he := Dp.mono s2 he
                refine a_ixT he atI_1 fun u1 hu1 => ?_
                refine a_isi hu1 (kit_list _) ?_
                walk_at "rd"
                cases c2 <;> simp only [isList, Bool.not_true, Bool.not_false, if_true, if_false, Bool.false_eq_true]
                case list rs =>
                  refine a_ixT he atI_1 fun u2 hu2 => ?_
                  refine a_lenL hu2 ?_
                  walk_at "rd"
                  by_cases h4 : rs.length ≤ 12
                  · rw [if_neg (by omega)]
                    refine a_lc ?_
                    walk_at "rd"
                    refine a_ixT he atI_1 fun u3 hu3 => ?_
                    obtain ⟨ra, rvs, rfl, hrs, hra⟩ := dp_list hu3
                    refine ⟨ra, rfl, ⟨rvs, hrs⟩, fun D hD => ?_⟩
                    refine lc_data (K := K) (ds := rs) (ms := []) walk_list hD Tk.nil (by rw [sizeLine_eq]; omega) (by rw [hide_nil]; exact hra) (fun H3 s3 => sqL_same s3 hrs) (fun _ => true) (fun d => .bool (rowD d)) (fun y d H3 hd3 s3 hD3 hy => ?_) (fun H3 ys s3 e1 e2 => ?_)
                    · walk_at "rd"
                      exact ⟨fun z => z.elim, fun _ => ⟨[], y, d, rfl, Tk.nil, by rw [hide_nil]; exact Dp.mono same_show hy, fun H4 s4 => ⟨s4, .bl _⟩⟩⟩
                    · rw [List.filter_eq_self.mpr fun _ _ => rfl] at e2
                      refine a_all (bs := rs.map rowD) (.lst (SqL.of e1) (DpAll.mono same_show (by rw [List.map_map]; exact e2))) ?_
                      rw [List.all_map]
                      walk_at "rd"
                      have e5 : (rs.all (id ∘ rowD)) = rs.all rowD := rfl
                      rw [e5]
                      cases hr5 : rs.all rowD with
                      | false =>
                        rw [if_pos (by decide)]
                        exact no _ hmem (by simp [blockD, rowsOk, hr5]) _ (s1.trans (s2.trans s3))
                      | true =>
                        rw [if_neg (by decide)]
                        refine a_ixT (Dp.mono s3 he) atI_2 fun u4 hu4 => ?_
                        refine ⟨[], u4, c3, rfl, Tk.nil, by rw [hide_nil]; exact hu4, hsh2.2, fun H4 s4 => ?_⟩
                        walk_at "rd"
                        cases hf5 : endD c3 with
                        | false =>
                          rw [if_pos (by decide)]
                          exact no _ hmem (by simp [blockD, hf5]) _ (s1.trans (s2.trans (s3.trans s4)))
                        | true =>
                          rw [if_neg (by decide)]
                          exact ⟨s1.trans (s2.trans (s3.trans s4)), yes (by simp [blockD, rowsOk, hn, hr5, hf5, h4])⟩
                  · rw [if_pos (by omega)]
                    exact no _ hmem (by simp [blockD, rowsOk, h4]) _ (s1.trans s2)
                all_goals exact no _ hmem (by simp [blockD, rowsOk]) _ (s1.trans s2)
            · rw [if_pos (by rw [decide_eq_false (by omega)]; rfl)]
              refine no _ hmem ?_ _ s1
              unfold blockD
              split
              next z => cases z; exact absurd rfl h3
              next => rfl
          all_goals exact no _ hmem rfl _ s1
        · rintro σ H1 ⟨s1, ⟨o, rfl⟩, hall⟩
          rw [hl, List.take_length] at hall
          simp only [hall, Bool.true_and] at k2
          walk_at "rd"
          refine a_sc ?_
          walk_at "rd"
          refine ⟨⟨vs, sqL_same s1 hs⟩, fun D hD => ?_⟩
          refine sc_keys (P := P) (w := w) (K := K) (ds := ds) (ms := []) walk_list hD (by omega) (by rw [hide_nil]; exact DpAll.mono s1 ha) (fun H2 s2 => sqL_same (s1.trans s2) hs) labelK (fun x e H2 Q2 he s2 hx hq => ?_) (fun H2 s2 hK => ?_)
          · walk_at "rd"
            rw [hide_nil] at hx
            have hb := List.all_eq_true.mp hall e he
            obtain ⟨x1, c2, c3, rfl⟩ := blockD_form hb
            refine a_ixT hx atI_0 fun u hu => ?_
            cases hu
            exact hq _ (Same.refl _)
          · refine ⟨D, _, rfl, hK, ?_⟩
            refine a_lenL (Dp.mono (s1.trans s2) hd) ?_
            walk_at "rd"
            have k3 := k2 H2 (s1.trans s2)
            have e6 : decide ((((ds.map labelK).foldl addKey []).length : Int) = (ds.length : Int)) = decide (((ds.map labelK).foldl addKey []).length = ds.length) := by
              by_cases q : ((ds.map labelK).foldl addKey []).length = ds.length
              · rw [decide_eq_true q, decide_eq_true (by omega)]
              · rw [decide_eq_false q, decide_eq_false (by omega)]
            rw [e6]
            exact k3
      · have e2 : (!decide ((ds.length : Int) ≤ 6)) = true := by rw [decide_eq_false (by omega)]; rfl
        simp only [e2, if_true]
        simp only [decide_eq_false h2, Bool.false_and, Bool.and_false] at k2
        exact k2 _ (Same.refl _)
    · rw [if_neg (by omega)]
      simp only [decide_eq_false h1, Bool.false_and] at k2
      exact k2 _ (Same.refl _)
  all_goals exact k _ (Same.refl _)
end
end Pb

/-! W5a -/
set_option Elab.async false
set_option linter.all false
set_option maxRecDepth 100000
set_option maxHeartbeats 4000000
namespace Pb
open PySem PySem.Spec PyProof.Rows L2
open C8 (Cal Mak Met pe_c pe_mk pe_mt pe_mt0 pe_gc fnScope_by)
/-! short words -/
local macro_rules | `(tactic| walk_at "rd") => `(tactic| try simp only [tVar, tC, tAdd, tSub, t2I, tIsN, tNotN, tB, tAnd, tOr, tNot, tAndV, tOrV, tNotV, tIf, tSeq, tPar, tPar3, tNext, tBreak, tCont, tDrop, tRet, tRetN, tIfS, gName, gNil, gCons, gTup, gSub, tAsg, tAug, ipI, iList, iTup, iRng1, iRng2, iStr, iEnum, iZip,
  tOp, tUn, rI, rI0, rU, tTest, tChain, tFld, sFld, sFldAug, L2.rAdd, L2.rSub, tNil, tCons, tTup, tLst, tCall, tMeth, tMake, tCB, tNoPart, tPart, tSl, tBM0, tBM, tDGet, tDGet1, tDGet2, tDIn, tDNotIn, sDPut, tDNewK, rEq, rNe, scal_ii, scal_ss, scal_bb, scal_nn, scal_ni, scal_in, scal_ns, scal_sn, scal_is, scal_si, List.take_succ_cons, List.take_zero, List.drop_succ_cons, List.drop_zero, upd_same, upd_upd, and_assoc, tKGet, gStar, tDisp, tPairs, tYes,
  L2.start, List.map_cons, List.map_nil, List.length_cons, List.length_nil, List.cons_append, List.nil_append, List.append_nil, List.replicate, Nat.sub_self, Nat.add_sub_cancel, Nat.reduceAdd, Nat.reduceSub, List.set_cons_zero, List.set_cons_succ, List.getElem?_cons_zero, List.getElem?_cons_succ,
  Option.some.injEq, V.int.injEq, V.bl.injEq, V.str.injEq, V.ref.injEq, exists_eq_left', exists_eq_left, exists_eq', exists_eq, true_and, and_true, if_true, if_false, Bool.false_eq_true, List.cons.injEq, Bool.not_true, Bool.not_false, cxK, cxP, cxW, ite_true, ite_false, wipe, reduceCtorEq, and_self, decide_true, decide_false, exists_and_left, exists_const, decide_eq_true_eq])
local macro_rules | `(tactic| walk_at "len") => `(tactic| (intro vs H Q E h; repeat (first | (obtain ⟨e, _⟩ := h; subst e; rfl) | (obtain ⟨_, h⟩ := h))))
local macro_rules | `(tactic| walk_at "wd") => `(tactic| simp (config := {decide := true}) only [V.str.injEq, scal_ss, true_and, if_true, if_false])

/-! ### code: what holds of blocks that are code -/
def Blk.words (b : Blk) : List Str := b.rows.map Row.word ++ [b.fin.word]
def Blk.stepD (b : Blk) : List PyData := b.rows.map Row.d ++ [b.fin.d]
def after (h : Int) (ws : List Str) : Int := h + (ws.map changeN).sum
def wok : Int → List Str → Prop
  | _, [] => True
  | h, w :: ws => ((touchN w : Int) ≤ h ∧ h + changeN w ≤ 12) ∧ wok (h + changeN w) ws
theorem after_cons {h : Int} {w : Str} {ws : List Str} : after h (w :: ws) = after (h + changeN w) ws := by
  unfold after
  rw [List.map_cons, List.sum_cons]
  omega
theorem after_snoc {h : Int} {w : Str} {ws : List Str} : after h (ws ++ [w]) = after h ws + changeN w := by
  unfold after
  rw [List.map_append, List.sum_append]
  simp
  omega
theorem after_nil {h : Int} : after h [] = h := by
  unfold after
  simp
theorem wok_at : ∀ {ws : List Str} {h : Int} {i : Nat} {w : Str}, wok h ws → ws[i]? = some w → (touchN w : Int) ≤ after h (ws.take i) ∧ after h (ws.take i) + changeN w ≤ 12
  | [], _, _, _, _, e => by simp at e
  | w :: ws, h, 0, x, k, e => by
    simp at e
    subst e
    rw [List.take_zero, after_nil]
    exact k.1
  | w :: ws, h, i + 1, x, k, e => by
    rw [List.take_succ_cons, after_cons]
    exact wok_at (i := i) k.2 (by simpa using e)
def out (h : Str → Int) (b : Blk) : Int := after (h b.label) b.words
inductive Reach (bs : List Blk) : Str → Prop where
  | first {b : Blk} (e : bs.head? = some b) : Reach bs b.label
  | step {b : Blk} {l : Str} (hb : b ∈ bs) (r : Reach bs b.label) (hl : l ∈ b.fin.labels) : Reach bs l
structure Good (bs : List Blk) (h : Str → Int) : Prop where
  one : 1 ≤ bs.length
  six : bs.length ≤ 6
  names : ∀ b ∈ bs, nameS b.label = true
  many : ∀ b ∈ bs, b.rows.length ≤ 12
  puts : ∀ b ∈ bs, ∀ r ∈ b.rows, ∀ n, r = .put n → -32768 ≤ n ∧ n ≤ 32767
  nodup : (bs.map Blk.label).Nodup
  zero : ∀ b, bs.head? = some b → h b.label = 0
  rows : ∀ b ∈ bs, wok (h b.label) b.words
  ends : ∀ b ∈ bs, ∀ l ∈ b.fin.labels, l ∈ bs.map Blk.label ∧ h l = out h b
  all : ∀ b ∈ bs, Reach bs b.label
theorem nameS_ok {x : Str} (h : nameS x = true) : PyData.strOk x = true := by
  unfold nameS at h
  have q := (Bool.and_eq_true_iff.mp h).2
  unfold PyData.strOk
  rw [← Array.all_toList, List.all_eq_true]
  intro c hc
  have m := of_decide_eq_true (List.all_eq_true.mp q c hc)
  have big : lettersS.cps.toList.all (fun c => decide (c < 0x110000)) = true := by decide +kernel
  exact List.all_eq_true.mp big c m
theorem Good.label_ok {bs : List Blk} {h : Str → Int} (G : Good bs h) {l : Str} (m : l ∈ bs.map Blk.label) : PyData.strOk l = true := by
  obtain ⟨b, hb, e⟩ := List.mem_map.mp m
  rw [← e]
  exact nameS_ok (G.names b hb)
theorem addKey_new {l : List Key} {k : Key} (h : k ∉ l) : addKey l k = l ++ [k] := by
  unfold addKey
  rw [if_neg]
  intro z
  exact h (by
    unfold kMem at z
    simpa using z)
theorem addKeys_nodup : ∀ (l acc : List Key), (acc ++ l).Nodup → l.foldl addKey acc = acc ++ l
  | [], acc, _ => by rw [List.foldl_nil, List.append_nil]
  | k :: l, acc, h => by
    rw [List.foldl_cons, addKey_new (fun z => (List.nodup_append.mp h).2.2 k z k (List.mem_cons_self ..) rfl), addKeys_nodup l (acc ++ [k]) (by rw [List.append_assoc]; exact h), List.append_assoc]
    rfl
theorem Row.row_ok {r : Row} (h : ∀ n, r = .put n → -32768 ≤ n ∧ n ≤ 32767) : rowD r.d = true := by
  cases r with
  | put n =>
    have q := h n rfl
    show (decide (([PyData.int n] : List PyData).length ≤ 1) && (decide (Str.ofString "put" ∈ c_WORDS) && if Str.ofString "put" = "put" then within (.int n) (-32768) 32767 else decide (([PyData.int n] : List PyData).length = 0))) = true
    have e : within (.int n) (-32768) 32767 = true := by
      show (decide (-32768 ≤ n) && decide (n ≤ 32767)) = true
      rw [decide_eq_true q.1, decide_eq_true q.2]; rfl
    rw [e]
    have e2 : decide (Str.ofString "put" ∈ c_WORDS) = true := by decide +kernel
    rw [e2, if_pos rfl]
    rfl
  | _ => decide +kernel
theorem Fin.end_ok {e : Fin} (h : ∀ l ∈ e.labels, nameS l = true) : endD e.d = true := by
  cases e with
  | go l =>
    have q := h l (List.mem_singleton.mpr rfl)
    have e1 : endN "go" = some 1 := by decide +kernel
    show (decide (([PyData.str l] : List PyData).length ≤ 2) && ((match endN "go" with
      | some n => decide (([PyData.str l] : List PyData).length = n)
      | none => false) && (nameS l && true))) = true
    rw [e1, q]
    rfl
  | iff a b =>
    have q := h a (List.mem_cons_self ..)
    have q2 := h b (List.mem_cons_of_mem _ (List.mem_singleton.mpr rfl))
    have e1 : endN "if" = some 2 := by decide +kernel
    show (decide (([PyData.str a, PyData.str b] : List PyData).length ≤ 2) && ((match endN "if" with
      | some n => decide (([PyData.str a, PyData.str b] : List PyData).length = n)
      | none => false) && (nameS a && (nameS b && true)))) = true
    rw [e1, q, q2]
    rfl
  | stop => decide +kernel
theorem Good.blocks_ok {bs : List Blk} {h : Str → Int} (G : Good bs h) : areBlocksD (blocksD bs) = true := by
  unfold blocksD areBlocksD
  have e1 : ((bs.map Blk.d).map labelK) = bs.map fun b => Sum.inr b.label := by rw [List.map_map]; rfl
  have e2 : (bs.map fun b => (Sum.inr b.label : Key)).Nodup := by
    have q := G.nodup
    have q2 : bs.map (fun b => (Sum.inr b.label : Key)) = (bs.map Blk.label).map Sum.inr := by rw [List.map_map]; rfl
    rw [q2]
    exact List.Pairwise.map _ (fun a b z y => z (Sum.inr.inj y)) q
  have e3 : ((bs.map Blk.d).map labelK).foldl addKey [] = bs.map fun b => Sum.inr b.label := by
    rw [e1, addKeys_nodup _ _ (by rw [List.nil_append]; exact e2), List.nil_append]
  have e4 : (bs.map Blk.d).all blockD = true := by
    rw [List.all_map, List.all_eq_true]
    intro b hb
    have r1 : nameD (.str b.label) = true := G.names b hb
    have r2 : rowsOk (rowsD b.rows) = true := by
      show (decide ((b.rows.map Row.d).length ≤ 12) && (b.rows.map Row.d).all rowD) = true
      have q1 : (b.rows.map Row.d).length ≤ 12 := by rw [List.length_map]; exact G.many b hb
      rw [decide_eq_true q1, Bool.true_and, List.all_map, List.all_eq_true]
      exact fun r hr => Row.row_ok (G.puts b hb r hr)
    have r3 : endD b.fin.d = true := Fin.end_ok fun l hl => by
      obtain ⟨b2, hb2, e⟩ := List.mem_map.mp (G.ends b hb l hl).1
      rw [← e]
      exact G.names b2 hb2
    show blockD (.tuple [.str b.label, rowsD b.rows, b.fin.d]) = true
    show (nameD (.str b.label) && (rowsOk (rowsD b.rows) && endD b.fin.d)) = true
    rw [r1, r2, r3]; rfl
  have e5 : (List.foldl addKey [] (List.map labelK (List.map Blk.d bs))).length = bs.length := by rw [e3, List.length_map]
  simp only [List.length_map, e4, e5, decide_eq_true G.one, decide_eq_true G.six, decide_eq_true rfl, Bool.and_true, decide_true, Bool.true_and]
/-- a closed list of labels holds all -/
theorem Good.closed {bs : List Blk} {h : Str → Int} (G : Good bs h) {KL : List Str} (h1 : ∀ b, bs.head? = some b → b.label ∈ KL) (h2 : ∀ b ∈ bs, b.label ∈ KL → ∀ l ∈ b.fin.labels, l ∈ KL) : ∀ b ∈ bs, b.label ∈ KL := by
  have q : ∀ l, Reach bs l → l ∈ KL := fun l r => by
    induction r with
    | first e => exact h1 _ e
    | step hb _ hl ih => exact h2 _ hb ih _ hl
  exact fun b hb => q _ (G.all b hb)
theorem nodup_sub_length {α : Type} [DecidableEq α] : ∀ {xs ys : List α}, xs.Nodup → (∀ x ∈ xs, x ∈ ys) → xs.length ≤ ys.length
  | [], _, _, _ => Nat.zero_le _
  | x :: xs, ys, h, s => by
    have hx := List.nodup_cons.mp h
    have m := s x (List.mem_cons_self ..)
    have q := nodup_sub_length (ys := ys.erase x) hx.2 fun y hy => (List.mem_erase_of_ne fun z => hx.1 (by rw [← z]; exact hy)).mpr (s y (List.mem_cons_of_mem _ hy))
    rw [List.length_erase_of_mem m] at q
    have := List.length_pos_of_mem m
    rw [List.length_cons]
    omega
def tableD (bs : List Blk) : List (Key × PyData) := bs.map fun b => (Sum.inr b.label, PyData.tuple [rowsD b.rows, b.fin.d])
theorem look_table : ∀ {bs : List Blk} {b : Blk}, (bs.map Blk.label).Nodup → b ∈ bs → look (tableD bs) (Sum.inr b.label) = some (.tuple [rowsD b.rows, b.fin.d])
  | c :: bs, b, nd, hb => by
    rcases List.mem_cons.mp hb with e | hb
    · subst e
      unfold look tableD
      rw [List.map_cons, List.find?_cons_of_pos (by exact decide_eq_true rfl)]
      rfl
    · have nd2 := List.nodup_cons.mp nd
      have ne : ¬ ((Sum.inr c.label : Key) = Sum.inr b.label) := fun z => nd2.1 (by rw [Sum.inr.inj z]; exact List.mem_map.mpr ⟨b, hb, rfl⟩)
      have ih := look_table nd2.2 hb
      unfold look tableD at ih ⊢
      rw [List.map_cons, List.find?_cons_of_neg (by show ¬ decide ((Sum.inr c.label : Key) = Sum.inr b.label) = true; rw [decide_eq_false ne]; exact Bool.false_ne_true)]
      exact ih
def highs (ls : List Str) (h : Str → Int) : List (Key × V) := ls.map fun l => (Sum.inr l, V.int (h l))
theorem highs_at {h : Str → Int} : ∀ {ls : List Str} {l : Str}, l ∈ ls → valV (highs ls h) (Sum.inr l) = some (.int (h l))
  | c :: ls, l, hb => by
    by_cases e : c = l
    · subst e
      exact valV_pos rfl
    · have ih := highs_at (h := h) ((List.mem_cons.mp hb).resolve_left fun z => e z.symm)
      exact (valV_neg fun z => e (Sum.inr.inj z)).trans ih
theorem highs_off {h : Str → Int} : ∀ {ls : List Str} {l : Str}, l ∉ ls → valV (highs ls h) (Sum.inr l) = none
  | [], l, _ => rfl
  | c :: ls, l, hb => by
    have e : ¬ c = l := fun z => hb (by rw [z]; exact List.mem_cons_self ..)
    have ih := highs_off (h := h) (fun z => hb (List.mem_cons_of_mem _ z))
    exact (valV_neg fun z => e (Sum.inr.inj z)).trans ih
theorem highs_put {h : Str → Int} {ls : List Str} {l : Str} (hb : l ∉ ls) : putK (highs ls h) (Sum.inr l) (.int (h l)) = highs (ls ++ [l]) h := by
  rw [putK_new _ (highs_off hb)]
  unfold highs
  rw [List.map_append]
  rfl
theorem KvD.ints_inv {K : PySem.W.Frag} {H : Hp} : ∀ {ps : List (Key × Int)} {vs : List (Key × V)}, KvD K H vs (ps.map fun q => (q.1, PyData.int q.2)) → vs = ps.map fun q => (q.1, V.int q.2)
  | [], _, h => by cases h; rfl
  | (k, i) :: ps, _, h => by
    cases h with
    | cons h1 h2 =>
      cases h1
      rw [KvD.ints_inv h2]
      rfl
end Pb

/-! W5 -/
set_option Elab.async false
set_option linter.all false
set_option maxRecDepth 100000
set_option maxHeartbeats 4000000
namespace Pb
open PySem PySem.Spec PyProof.Rows L2
open C8 (Cal Mak Met pe_c pe_mk pe_mt pe_mt0 pe_gc fnScope_by)
/-! short words -/
local macro_rules | `(tactic| walk_at "rd") => `(tactic| try simp only [tVar, tC, tAdd, tSub, t2I, tIsN, tNotN, tB, tAnd, tOr, tNot, tAndV, tOrV, tNotV, tIf, tSeq, tPar, tPar3, tNext, tBreak, tCont, tDrop, tRet, tRetN, tIfS, gName, gNil, gCons, gTup, gSub, tAsg, tAug, ipI, iList, iTup, iRng1, iRng2, iStr, iEnum, iZip,
  tOp, tUn, rI, rI0, rU, tTest, tChain, tFld, sFld, sFldAug, L2.rAdd, L2.rSub, tNil, tCons, tTup, tLst, tCall, tMeth, tMake, tCB, tNoPart, tPart, tSl, tBM0, tBM, tDGet, tDGet1, tDGet2, tDIn, tDNotIn, sDPut, tDNewK, rEq, rNe, scal_ii, scal_ss, scal_bb, scal_nn, scal_ni, scal_in, scal_ns, scal_sn, scal_is, scal_si, List.take_succ_cons, List.take_zero, List.drop_succ_cons, List.drop_zero, upd_same, upd_upd, and_assoc, tKGet, gStar, tDisp, tPairs, tYes,
  L2.start, List.map_cons, List.map_nil, List.length_cons, List.length_nil, List.cons_append, List.nil_append, List.append_nil, List.replicate, Nat.sub_self, Nat.add_sub_cancel, Nat.reduceAdd, Nat.reduceSub, List.set_cons_zero, List.set_cons_succ, List.getElem?_cons_zero, List.getElem?_cons_succ,
  Option.some.injEq, V.int.injEq, V.bl.injEq, V.str.injEq, V.ref.injEq, exists_eq_left', exists_eq_left, exists_eq', exists_eq, true_and, and_true, if_true, if_false, Bool.false_eq_true, List.cons.injEq, Bool.not_true, Bool.not_false, cxK, cxP, cxW, ite_true, ite_false, wipe, reduceCtorEq, and_self, decide_true, decide_false, exists_and_left, exists_const, decide_eq_true_eq])
local macro_rules | `(tactic| walk_at "len") => `(tactic| (intro vs H Q E h; repeat (first | (obtain ⟨e, _⟩ := h; subst e; rfl) | (obtain ⟨_, h⟩ := h))))
local macro_rules | `(tactic| walk_at "wd") => `(tactic| simp (config := {decide := true}) only [V.str.injEq, scal_ss, true_and, if_true, if_false])

def codeF (pa ta : Addr) (x : V) : List (Str × V) := [("parts", .ref pa), ("table", .ref ta), ("high", x)]
def IsCode (K : PySem.W.Frag) (H : Hp) (p : Addr) (bs : List Blk) (h : Str → Int) : Prop := ∃ dx pa ta ha kvs, H p = some (.ins (He.ga K "Code") dx (codeF pa ta (.ref ha))) ∧ Dp K H (.ref pa) (blocksD bs) ∧
  H ta = some (.dK kvs) ∧ KvD K H kvs (tableD bs) ∧ H ha = some (.dK (highs (bs.map Blk.label) h))
def sp_Code_find_heights (K : PySem.W.Frag) : Sp := fun vs H Q _ => ∃ ms p dx pa ta x kvs bs h, vs = [.ref p] ∧ H p = some (.ins (He.ga K "Code") dx (codeF pa ta x)) ∧ Tk H ms ∧ p ∈ ms ∧ Dp K (hide H ms) (.ref pa) (blocksD bs) ∧
  hide H ms ta = some (.dK kvs) ∧ KvD K (hide H ms) kvs (tableD bs) ∧ Good bs h ∧ ∀ H' ha, Sx [p] H H' → H' p = some (.ins (He.ga K "Code") dx (codeF pa ta (.ref ha))) → hide H' ms ha = some (.dK (highs (bs.map Blk.label) h)) → Q .non H'
theorem get_label {bs : List Blk} {l : Str} (h : l ∈ bs.map Blk.label) : ∃ b ∈ bs, b.label = l := by
  obtain ⟨b, hb, e⟩ := List.mem_map.mp h
  exact ⟨b, hb, e⟩
theorem nodup_label : ∀ {bs : List Blk} {c b : Blk}, (bs.map Blk.label).Nodup → c ∈ bs → b ∈ bs → c.label = b.label → c = b
  | x :: bs, c, b, nd, hc, hb, e => by
    have q := List.nodup_cons.mp nd
    rcases List.mem_cons.mp hc with h1 | h1
    · rcases List.mem_cons.mp hb with h2 | h2
      · rw [h1, h2]
      · subst h1
        exact absurd (List.mem_map.mpr ⟨b, h2, e.symm⟩) q.1
    · rcases List.mem_cons.mp hb with h2 | h2
      · subst h2
        exact absurd (List.mem_map.mpr ⟨c, h1, e⟩) q.1
      · exact nodup_label q.2 h1 h2 e
theorem known_word {b : Blk} {w : Str} (h : w ∈ b.words) : w ∈ c_SUMS ∨ w ∈ c_TOUCHES.map (·.1) := by
  unfold Blk.words at h
  rcases List.mem_append.mp h with h | h
  · obtain ⟨r, _, e⟩ := List.mem_map.mp h
    rw [← e]; exact r.known
  · rw [List.mem_singleton.mp h]; exact b.fin.known
theorem stepD_at {b : Blk} {i : Nat} {d : PyData} (h : b.stepD[i]? = some d) : ∃ w xs, d = .tuple (.str w :: xs) ∧ b.words[i]? = some w := by
  unfold Blk.stepD at h
  unfold Blk.words
  have hl : (b.rows.map Row.d).length = (b.rows.map Row.word).length := by rw [List.length_map, List.length_map]
  by_cases hi : i < (b.rows.map Row.d).length
  · rw [List.getElem?_append_left hi] at h
    rw [List.getElem?_append_left (by omega)]
    rw [List.getElem?_map] at h ⊢
    cases e : b.rows[i]? with
    | none => rw [e] at h; cases h
    | some r => rw [e] at h; cases h; exact ⟨_, _, rfl, rfl⟩
  · rw [List.getElem?_append_right (by omega)] at h
    rw [List.getElem?_append_right (by omega)]
    rw [hl] at h
    cases e : i - (b.rows.map Row.word).length with
    | zero => rw [e] at h; cases h; exact ⟨_, _, rfl, rfl⟩
    | succ n => rw [e] at h; cases h
def FhInv (H : Hp) (p kd : Addr) (l0 : Str) (bs : List Blk) (h : Str → Int) (m : Nat) (σ : L2.St) (H2 : Hp) : Prop := ∃ DL TL t o4 o5 o6 o7 o8 o9 o10, m = bs.length - DL.length ∧ σ = [some (.ref p), some (.str l0), some (.ref t), some (.ref kd), o4, o5, o6, o7, o8, o9, o10] ∧ Same H H2 ∧ H2 t = some (.lst (TL.map V.str)) ∧
    H2 kd = some (.dK (highs (DL ++ TL) h)) ∧ (DL ++ TL).Nodup ∧ (∀ l ∈ DL ++ TL, l ∈ bs.map Blk.label) ∧ l0 ∈ DL ++ TL ∧ ∀ b ∈ bs, b.label ∈ DL → ∀ l ∈ b.fin.labels, l ∈ DL ++ TL
section
variable {P : Program} {w : World} {K : PySem.W.Frag} {mg : Str → Option Value} {base : Heap}
theorem ok_find_heights (T : Tx w K mg) (F_touches : Cal P w K mg base 1 "touches" (sp_touches K) []) (F_change : Cal P w K mg base 1 "change" (sp_change K) []) : Met P w K mg base 3 (He.ga K "Code") "find_heights" (sp_Code_find_heights K) [] := by
  refine met_of T.c_Code T.me_Code_find_heights T.D_Code_find_heights sc_Code_find_heights (fun _ _ _ _ _ _ us hl => match us, hl with | [_], _ => rfl) (by walk_at "len") fun cdv A outer s H vs Q E hr h => ?_
  refine ⟨_, (pss_cons (ps_set (i := 1) sc_Code_find_heights.nd rfl (by first | exact Or.inl rfl | exact Or.inr rfl) (pe_ix (r := rIx K) ix_seq (pe_ix (r := rIx K) ix_seq (pe_fldK (K := K) (pv 0) rfl) pe_int (fun _ _ => rfl)) pe_int (fun _ _ => rfl)))
    (pss_cons (ps_asg (pe_tup (pa_cons (pe_lst (pa_cons (pv 1) pa_nil)) (pa_cons (pe_disp (pps_cons (pv 1) pe_int pps_nil) (by rfl) (by rfl) (fun z => by cases z) (by decide)) pa_nil))) (pg_tupK (K := K) (n := 2) rfl (pgs_cons (pg_name (i := 2) sc_Code_find_heights.nd rfl (by first | exact Or.inl rfl | exact Or.inr rfl)) (pgs_cons (pg_name (i := 3) sc_Code_find_heights.nd rfl (by first | exact Or.inl rfl | exact Or.inr rfl)) pgs_nil))))
    (pss_cons (ps_while PassesOwn.never (pt_cmpR (r := rNeD K) (op_neD hr.units) (pv 2) (pe_lst pa_nil) (nomark _)) (pss_cons (ps_asg (pv 2) (pg_starK (K := K) (i := 1) rfl (pgs_cons (pg_name (i := 4) sc_Code_find_heights.nd rfl (by first | exact Or.inl rfl | exact Or.inr rfl)) (pgs_star (pg_name (i := 2) sc_Code_find_heights.nd rfl (by first | exact Or.inl rfl | exact Or.inr rfl)) pgs_nil))))
    (pss_cons (ps_asg (pe_dget (hu_of hr) (pe_fldK (K := K) (pv 0) rfl) (pv 4) (fun _ _ => rfl)) (pg_tupK (K := K) (n := 2) rfl (pgs_cons (pg_name (i := 5) sc_Code_find_heights.nd rfl (by first | exact Or.inl rfl | exact Or.inr rfl)) (pgs_cons (pg_name (i := 6) sc_Code_find_heights.nd rfl (by first | exact Or.inl rfl | exact Or.inr rfl)) pgs_nil))))
    (pss_cons (ps_set (i := 7) sc_Code_find_heights.nd rfl (by first | exact Or.inl rfl | exact Or.inr rfl) (pe_dget (hu_of hr) (pv 3) (pv 4) (fun _ _ => rfl)))
    (pss_cons (ps_for PassesOwn.never rfl (pi_enum (by rfl) T.b_enumerate (pa_cons (pe_op (r := rCatS K) op_catS (pv 5) (pe_lst (pa_cons (pv 6) pa_nil))) pa_nil)) (pg_tupK (K := K) (n := 2) rfl (pgs_cons (pg_name (i := 8) sc_Code_find_heights.nd rfl (by first | exact Or.inl rfl | exact Or.inr rfl)) (pgs_cons (pg_name (i := 9) sc_Code_find_heights.nd rfl (by first | exact Or.inl rfl | exact Or.inr rfl)) pgs_nil))) (pss_cons (ps_if (PW.pt (pw_or (pt_cmpR op_gt (pe_c F_touches hr (by decide) (by rfl) (pa_cons (pv 9) pa_nil)) (pv 7) (nomark _)) (pw_or1 (pt_cmpR op_gt (pe_op op_add (pv 7) (pe_c F_change hr (by decide) (by rfl) (pa_cons (pv 9) pa_nil))) (pe_gc (by rfl) T.v_DEEPEST) (nomark _))))) (pss_one ps_never) pss_nil)
    (pss_one (ps_aug (i := 7) sc_Code_find_heights.nd rfl (by first | exact Or.inl rfl | exact Or.inr rfl) (pe_c F_change hr (by decide) (by rfl) (pa_cons (pv 9) pa_nil)) ip_add))))
    (pss_one (ps_for PassesOwn.never rfl (pi_tup (pe_slice (r := rSlT K) sl_tup (pv 6) (po_some pe_int) po_none)) (pg_name (i := 10) sc_Code_find_heights.nd rfl (by first | exact Or.inl rfl | exact Or.inr rfl)) (pss_cons (ps_if (PW.pt (pw_or (pt_cmp (pc_dnotin (hu_of hr) (pv 10) (pe_fldK (K := K) (pv 0) rfl)) rfl) (pw_or1 (pt_cmpR op_ne (pe_dget2 (hu_of hr) (pv 3) (pv 10) (pv 7) ⟨rfl, rfl, rfl, rfl⟩) (pv 7) (nomark _))))) (pss_one ps_never) pss_nil)
    (pss_one (ps_if (pt_cmp (pc_dnotin (hu_of hr) (pv 10) (pv 3)) rfl) (pss_cons (ps_dput (hu_of hr) (pv 3) (pv 10) (pv 7) rfl)
    (pss_one (ps_set (i := 2) sc_Code_find_heights.nd rfl (by first | exact Or.inl rfl | exact Or.inr rfl) (pe_op (r := rCatS K) op_catS (pv 2) (pe_lst (pa_cons (pv 10) pa_nil)))))) pss_nil))))))))))
    (pss_cons (ps_if (pt_cmpR op_lt (pe_callB call_lenDK (by rfl) T.b_len (by decide +kernel) (pa_cons (pv 3) pa_nil)) (pe_callB (r := rLenQ K) call_lenQ (by rfl) T.b_len (by decide +kernel) (pa_cons (pe_fldK (K := K) (pv 0) rfl) pa_nil)) (nomark _)) (pss_one ps_never) pss_nil)
    (pss_one (ps_fld (pv 0) (pe_dc rfl sc_Code_find_heights.nd (pi_listK (K := K) (pe_fldK (K := K) (pv 0) rfl)) (blkOk_by (own := [("label", 4), ("rows", 5), ("end", 6)]) (N := ["self", "first", "turn", "known", "label", "rows", "end", "high", "at", "row", "there"]) (sc := L2.defScope s_Code_find_heights) (by decide +kernel)) (fun _ _ _ _ _ => (pg_m (pg_tupK (K := K) (n := 3) rfl (pgs_cons (pg_name (i := 4) sc_Code_find_heights.nd rfl (by first | exact Or.inl rfl | exact Or.inr rfl)) (pgs_cons (pg_name (i := 5) sc_Code_find_heights.nd rfl (by first | exact Or.inl rfl | exact Or.inr rfl)) (pgs_cons (pg_name (i := 6) sc_Code_find_heights.nd rfl (by first | exact Or.inl rfl | exact Or.inr rfl)) pgs_nil)))))) (fun _ _ _ _ _ => pts_nilM) (fun _ _ _ _ _ => (pe_m (pv 4))) (fun _ _ _ _ _ => (pe_m (pe_dget (hu_of hr) (pv 3) (pv 4) (fun _ _ => rfl))))) rfl)))))), ?_⟩
  obtain ⟨ms, p, dx, pa, ta, x, kvs, bs, h, rfl, hp, tk, hpm, hd, hta, hkv, G, k⟩ := h
  have hd0 := Dp.mono same_show hd
  have hta0 : H ta = some (.dK kvs) := same_show _ _ hta
  have hkv0 := KvD.mono same_show hkv
  obtain ⟨b0, tl, rfl⟩ : ∃ b0 tl, bs = b0 :: tl := by
    cases bs with
    | nil => exact absurd G.one (by simp)
    | cons b tl => exact ⟨b, tl, rfl⟩
  generalize hbs : b0 :: tl = bs at *
  have hlab0 : b0.label ∈ bs.map Blk.label := by rw [← hbs]; exact List.mem_cons_self ..
  have hz : h b0.label = 0 := G.zero b0 (by rw [← hbs]; rfl)
  walk_at "rd"
  refine ⟨_, _, _, hp, T.c_Code, T.n_Code_parts, _, rfl, ?_⟩
  refine a_ixL hd0 (by rw [← hbs]; exact atI_0) fun u hu => ?_
  refine a_ixT hu atI_0 fun v hv => ?_
  cases hv
  refine ⟨by rw [sizeLine_eq]; omega, fun t0 ht0 kd hkd => ⟨[(Sum.inr b0.label, .int 0)], rfl, by exact (by decide : 1 ≤ 15), by rw [sizeLine_eq]; omega, fun pr hpr => ?_⟩⟩
  have hm : mergeK [] [((Sum.inr b0.label : Key), V.int 0)] = highs [b0.label] h := by
    unfold highs
    rw [List.map_cons, List.map_nil, hz]
    rfl
  rw [hm] at hpr ⊢
  have s1 : Same H (upd (upd (upd H t0 (.lst [.str b0.label])) kd (.dK (highs [b0.label] h))) pr (.tup [.ref t0, .ref kd])) := ((same_new ht0).trans (same_new hkd)).trans (same_new hpr)
  have e1 : upd (upd (upd H t0 (.lst [.str b0.label])) kd (.dK (highs [b0.label] h))) pr (.tup [.ref t0, .ref kd]) t0 = some (.lst [.str b0.label]) := keep_at (keep_at upd_same hkd) hpr
  have e2 : upd (upd (upd H t0 (.lst [.str b0.label])) kd (.dK (highs [b0.label] h))) pr (.tup [.ref t0, .ref kd]) kd = some (.dK (highs [b0.label] h)) := keep_at upd_same hpr
  have hkd0 : H kd = none := (same_new ht0).free hkd
  refine a_t2V (.inl (.inl upd_same)) ?_
  walk_at "rd"
  generalize upd (upd (upd H t0 (.lst [.str b0.label])) kd (.dK (highs [b0.label] h))) pr (.tup [.ref t0, .ref kd]) = H1 at *
  refine ⟨FhInv H p kd b0.label bs h,
    ⟨_, [], [b0.label], t0, _, _, _, _, _, _, _, rfl, rfl, s1, e1, e2, by simp, by simpa using hlab0, by simp, by simp⟩, ?_⟩
  rintro m σ H2 ⟨DL, TL, t, o4, o5, o6, o7, o8, o9, o10, rfl, rfl, s2, ht, hk, nd, sub, h0, cl⟩
  walk_at "rd"
  refine ⟨by rw [sizeLine_eq]; omega, fun q hq => ?_⟩
  have s3 := s2.trans (same_new (o := HO.lst []) hq)
  have ht3 := keep_at (u := HO.lst []) ht hq
  have hk3 := keep_at (u := HO.lst []) hk hq
  refine a_neD (d := .list (TL.map PyData.str)) (e := .list []) (.lst (SqL.of ht3) (DpAll.strs TL)) (.lst (SqL.of upd_same) .nil) (shaped_strs fun l hl => G.label_ok (sub l (List.mem_append_right _ hl))) rfl ?_
  rw [eqv_nil_strs]
  generalize upd H2 q (HO.lst []) = H3 at *
  cases TL with
  | nil =>
    refine ⟨_, rfl, ?_⟩
    rw [if_neg (by decide)]
    rw [List.append_nil] at hk3 nd sub h0 cl
    have cov := G.closed (KL := DL) (fun b e => by
      rw [← hbs] at e
      cases e
      exact h0) cl
    have hlen : bs.length ≤ DL.length := by
      have q := nodup_sub_length G.nodup fun l hl => by
        obtain ⟨b, hb, e⟩ := get_label hl
        rw [← e]
        exact cov b hb
      rw [List.length_map] at q
      exact q
    refine ⟨kd, _, rfl, hk3, ?_⟩
    refine ⟨_, _, _, s3 _ _ hp, T.c_Code, T.n_Code_parts, _, rfl, ?_⟩
    refine a_lenL (Dp.mono s3 hd0) ?_
    walk_at "rd"
    have hhl : (highs DL h).length = DL.length := List.length_map _
    rw [if_neg (by rw [hhl, List.length_map]; omega)]
    refine a_dc ?_
    walk_at "rd"
    refine ⟨_, _, _, s3 _ _ hp, T.c_Code, T.n_Code_parts, _, rfl, ?_⟩
    obtain ⟨aa, xs, e3, hxs, hda⟩ := dp_list hd
    cases e3
    have hxs3 : SqL K H3 pa xs := sqL_same s3 (sqL_same same_show hxs)
    refine ⟨pa, rfl, ⟨xs, hxs3⟩, fun D hD => ?_⟩
    refine dc_data (K := K) (ms := ms) walk_list hD (by rw [List.length_map, sizeLine_eq]; have := G.six; omega) (DpAll.mono (Same.hide s3 ms) hda) (fun H4 s4 => sqL_same s4 hxs3) labelK (fun d => .int (match d with
      | .tuple (.str z :: _) => h z
      | _ => 0)) (by
        have e1 : ((bs.map Blk.d).map labelK) = (bs.map Blk.label).map Sum.inr := by rw [List.map_map, List.map_map]; rfl
        rw [e1]
        exact List.Pairwise.map _ (fun a b z y => z (Sum.inr.inj y)) G.nodup) (fun y d H4 hd4 s4 hD4 hy => ?_) (fun H4 kvs4 s4 e4 hkv4 => ?_)
    · obtain ⟨b, hb, rfl⟩ := List.mem_map.mp hd4
      have hy2 : Dp K H4 y b.d := Dp.mono same_show hy
      walk_at "rd"
      refine a_t3 hy2 fun u v x hl _ _ => ?_
      cases hl
      walk_at "rd"
      refine ⟨rfl, _, ?_, Same.refl _, .int _⟩
      have q := DGet.k (k := Sum.inr b.label) (s4 _ _ hk3)
      rw [highs_at (cov b hb)] at q
      exact q
    · walk_at "rd"
      have s5 := s3.trans s4
      have eD : kvs4 = highs (bs.map Blk.label) h := by
        have q : (bs.map Blk.d).map (fun d => (labelK d, PyData.int (match d with
            | .tuple (.str z :: _) => h z
            | _ => 0))) = ((bs.map Blk.label).map fun l => ((Sum.inr l : Key), h l)).map fun q => (q.1, PyData.int q.2) := by
          rw [List.map_map, List.map_map, List.map_map]
          rfl
        rw [q] at hkv4
        rw [KvD.ints_inv hkv4]
        unfold highs
        rw [List.map_map]
        rfl
      have hDp : D ≠ p := ne_of e4 (s5 _ _ hp) (by intro z; cases z)
      refine ⟨_, _, _, s5 _ _ hp, T.c_Code, T.n_Code_high, by show 3 < 1000; decide, ?_⟩
      refine k _ D (fun c o hc e => ?_) (upd_same.trans ?_) ?_
      · rw [upd_ne fun z => hc (List.mem_singleton.mpr z)]
        exact s5 _ _ e
      · rfl
      · rw [hide_at ((tk.same s3).out hD), upd_ne hDp, e4, eD]
  | cons l TL =>
    refine ⟨_, rfl, ?_⟩
    rw [if_pos (by simp)]
    refine ⟨_, fun σ' H' q => q, ?_⟩
    walk_at "rd"
    have few : (DL ++ l :: TL).length ≤ 6 := by
      have q := nodup_sub_length nd sub
      rw [List.length_map] at q
      have := G.six
      omega
    rw [List.length_append, List.length_cons] at few
    refine ⟨_, .inr (SqL.of ht3), by rw [List.length_map, List.length_cons]; omega, by rw [List.length_map, List.length_cons]; omega, fun D hD => ⟨_, _, rfl, _, _, rfl, rfl, ?_⟩⟩
    have s4 : Same H _ := s3.trans (same_new (o := HO.lst (TL.map V.str)) hD)
    have ht4 : upd H3 D (HO.lst (TL.map V.str)) D = some (.lst (TL.map V.str)) := upd_same
    have hk4 := keep_at (u := HO.lst (TL.map V.str)) hk3 hD
    show ∃ _, _
    generalize hH4 : upd H3 D (HO.lst (TL.map V.str)) = H4 at s4 ht4 hk4
    have hH4' : upd H3 D (HO.lst (List.drop 1 ((l :: TL).map V.str))) = H4 := hH4
    rw [hH4']
    obtain ⟨b, hb, hbl⟩ := get_label (sub l (List.mem_append_right _ (List.mem_cons_self ..)))
    subst hbl
    refine ⟨_, _, _, s4 _ _ hp, T.c_Code, T.n_Code_table, _, rfl, ta, rfl, ?_⟩
    obtain ⟨tv, htv, hdv⟩ := KvD.get hkv0 (look_table G.nodup hb)
    have q := DGet.k (k := Sum.inr b.label) (s4 _ _ hta0)
    rw [htv] at q
    refine ⟨tv, q, ?_⟩
    refine a_t2 (Dp.mono s4 hdv) fun ur ue hur hue => ?_
    walk_at "rd"
    have q := DGet.k (k := Sum.inr b.label) hk4
    rw [highs_at (List.mem_append_right _ (List.mem_cons_self ..))] at q
    refine ⟨_, q, ?_⟩
    refine a_for ?_
    walk_at "rd"
    refine ⟨by rw [sizeLine_eq]; omega, fun p1 hp1 => ?_⟩
    have s5 := s4.trans (same_new (o := HO.lst [ue]) hp1)
    have ht5 := keep_at (u := HO.lst [ue]) ht4 hp1
    have hk5 := keep_at (u := HO.lst [ue]) hk4 hp1
    have hr5 := Dp.mono (same_new (o := HO.lst [ue]) hp1) hur
    have he5 := Dp.mono (same_new (o := HO.lst [ue]) hp1) hue
    have hl5 : Dp K (upd H4 p1 (.lst [ue])) (.ref p1) (.list [b.fin.d]) := .lst (SqL.of upd_same) (.cons he5 .nil)
    generalize upd H4 p1 (HO.lst [ue]) = H5 at *
    refine a_cat hr5 hl5 (by have := G.many b hb; rw [List.length_map, sizeLine_eq]; simp only [List.length_cons, List.length_nil]; omega) fun p2 ws hp2 hws => ?_
    have s6 := s5.trans (same_new (o := HO.lst ws) hp2)
    have ht6 := keep_at (u := HO.lst ws) ht5 hp2
    have hk6 := keep_at (u := HO.lst ws) hk5 hp2
    have hw6 := DpAll.mono (same_new (o := HO.lst ws) hp2) hws
    have he6 := Dp.mono (same_new (o := HO.lst ws) hp2) he5
    have hp6 : upd H5 p2 (HO.lst ws) p2 = some (.lst ws) := upd_same
    walk_at "rd"
    refine ⟨_, SqL.of upd_same, ?_⟩
    generalize upd H5 p2 (HO.lst ws) = H6 at *
    change DpAll K H6 ws b.stepD at hw6
    have hlw := DpAll.length hw6
    have hlsw : b.stepD.length = b.words.length := by unfold Blk.stepD Blk.words; simp
    refine for_go (walk_enum (xs := ws)) (fun i σ H7 => Same H6 H7 ∧ ∃ o8 o9, σ = [some (V.ref p), some (V.str b0.label), some (V.ref D), some (V.ref kd), some (V.str b.label), some ur, some ue, some (V.int (after (h b.label) (b.words.take i))), o8, o9, o10]) ⟨Same.refl _, _, _, by rw [List.take_zero, after_nil]⟩ (fun i σ H7 _ q => SqL.of (q.1 _ _ hp6)) ?_ ?_
    · rintro i y σ H7 H8 hi ⟨s7, o8, o9, rfl⟩ yy
      obtain ⟨p3, y1, y2, rfl, hp3, rfl, ey1, ey2⟩ := yy
      cases ey1
      obtain ⟨d, ed, hdd⟩ := DpAll.at hw6 ey2
      obtain ⟨wd, wx, rfl, ew⟩ := stepD_at ed
      have hkn := known_word (List.mem_of_getElem? ew)
      have hok := wok_at (G.rows b hb) ew
      have hdd8 := Dp.mono (s7.trans (same_new (o := HO.tup [V.int (i : Nat), y2]) hp3)) hdd
      refine a_t2V (.inl (.inl upd_same)) ?_
      have s8 := s7.trans (same_new (o := HO.tup [V.int (i : Nat), y2]) hp3)
      generalize upd H7 p3 (HO.tup [V.int (i : Nat), y2]) = H8 at *
      walk_at "rd"
      have nx : after (h b.label) (b.words.take (i + 1)) = after (h b.label) (b.words.take i) + changeN wd := by
        rw [List.take_succ, ew]
        exact after_snoc
      refine ⟨[], y2, wd, wx, rfl, Tk.nil, by rw [hide_nil]; exact hdd8, hkn, ?_⟩
      walk_at "rd"
      rw [if_neg (by have := hok.1; omega)]
      refine ⟨[], y2, wd, wx, rfl, Tk.nil, by rw [hide_nil]; exact hdd8, hkn, _, rfl, ?_⟩
      rw [if_neg (by have := hok.2; omega)]
      refine ⟨[], y2, wd, wx, rfl, Tk.nil, by rw [hide_nil]; exact hdd8, hkn, ?_⟩
      walk_at "rd"
      exact ⟨s8, nx.symm⟩
    · rintro σ H7 ⟨s7, o8, o9, rfl⟩
      rw [hlw, hlsw, List.take_length]
      walk_at "rd"
      refine a_for ?_
      walk_at "rd"
      obtain ⟨ea, es, rfl, hes, hea⟩ := dp_tuple (Dp.mono s7 he6)
      cases hea with
      | cons hwd hel =>
        cases hwd
        cases DpAll.strs_inv hel
        refine ⟨ea, _, rfl, hes, cut1_not, fun p4 hp4 => ?_⟩
        · rw [cut1]
          walk_at "rd"
          refine ⟨⟨_, SqT.of upd_same⟩, ?_⟩
          have s8 := (s6.trans s7).trans (same_new (o := HO.tup (b.fin.labels.map V.str)) hp4)
          have ht8 := keep_at (u := HO.tup (b.fin.labels.map V.str)) (s7 _ _ ht6) hp4
          have hk8 := keep_at (u := HO.tup (b.fin.labels.map V.str)) (s7 _ _ hk6) hp4
          have hp8 : upd H7 p4 (HO.tup (b.fin.labels.map V.str)) p4 = some (.tup (b.fin.labels.map V.str)) := upd_same
          generalize upd H7 p4 (HO.tup (b.fin.labels.map V.str)) = H8 at *
          refine for_go2 (walk_tup (xs := b.fin.labels.map V.str)) (fun i σ H9 => ∃ AL t o10, σ = [some (V.ref p), some (V.str b0.label), some (V.ref t), some (V.ref kd), some (V.str b.label), some ur, some (.ref ea), some (V.int (after (h b.label) b.words)), o8, o9, o10] ∧ Same H H9 ∧ H9 p4 = some (.tup (b.fin.labels.map V.str)) ∧
            H9 t = some (.lst ((TL ++ AL).map V.str)) ∧ H9 kd = some (.dK (highs (DL ++ b.label :: (TL ++ AL)) h)) ∧ (DL ++ b.label :: (TL ++ AL)).Nodup ∧ (∀ l ∈ DL ++ b.label :: (TL ++ AL), l ∈ bs.map Blk.label) ∧ ∀ l ∈ b.fin.labels.take i, l ∈ DL ++ b.label :: (TL ++ AL))
            ⟨[], D, o10, rfl, s8, hp8, by rw [List.append_nil]; exact ht8, by rw [List.append_nil]; exact hk8, by rw [List.append_nil]; exact nd, by rw [List.append_nil]; exact sub, by simp⟩ (fun i σ H9 _ q => by
              obtain ⟨_, _, _, _, _, q, _⟩ := q
              exact SqT.of q) ?_ ?_
          · rintro Pw yes i y σ H9 H10 hi ⟨AL, t2, o10, rfl, s9, hp9, ht9, hk9, nd9, sub9, in9⟩ ⟨e0, ey⟩
            subst e0
            rw [List.getElem?_map] at ey
            cases ethere : b.fin.labels[i]? with
            | none => rw [ethere] at ey; cases ey
            | some there =>
              rw [ethere] at ey
              cases ey
              have hth := G.ends b hb there (List.mem_of_getElem? ethere)
              obtain ⟨b2, hb2, hb2l⟩ := get_label hth.1
              have hout : after (h b.label) b.words = h there := hth.2.symm
              have in10 : ∀ X : List Str, there ∈ X → (∀ l ∈ b.fin.labels.take i, l ∈ X) → ∀ l ∈ b.fin.labels.take (i + 1), l ∈ X := fun X h1 h2 l hl => by
                rw [List.take_succ, ethere] at hl
                rcases List.mem_append.mp hl with hl | hl
                · exact h2 l hl
                · rw [List.mem_singleton.mp hl]; exact h1
              rw [hout]
              walk_at "rd"
              refine ⟨_, _, _, s9 _ _ hp, T.c_Code, T.n_Code_table, _, rfl, ta, rfl, ?_⟩
              obtain ⟨tv2, htv2, _⟩ := KvD.get hkv0 (look_table G.nodup hb2)
              have q2 := DGet.k (k := Sum.inr there) (s9 _ _ hta0)
              rw [← hb2l, htv2] at q2
              rw [hb2l] at q2
              refine ⟨_, q2, ?_⟩
              rw [if_neg (by exact Bool.false_ne_true)]
              have isd : IsD H10 kd := .inl ⟨_, .inl hk9⟩
              have gk := DGet.k (k := Sum.inr there) hk9
              by_cases hin : there ∈ DL ++ b.label :: (TL ++ AL)
              · rw [highs_at hin] at gk
                refine ⟨isd, _, gk, rfl, ?_⟩
                simp only [Option.getD_some, decide_true, Bool.not_true, Bool.false_eq_true, if_false]
                refine ⟨_, gk, ?_⟩
                simp only [Option.isSome_some, Bool.not_true, Bool.false_eq_true, if_false]
                exact yes _ _ _ ⟨AL, t2, _, by rw [hout], s9, hp9, ht9, hk9, nd9, sub9, in10 _ hin in9⟩
              · rw [highs_off hin] at gk
                refine ⟨isd, _, gk, rfl, ?_⟩
                simp only [Option.getD_none, decide_true, Bool.not_true, Bool.false_eq_true, if_false]
                refine ⟨_, gk, ?_⟩
                simp only [Option.isSome_none, Bool.not_false, if_true]
                have hlen9 : (highs (DL ++ b.label :: (TL ++ AL)) h).length ≤ 6 := by
                  have q := nodup_sub_length nd9 sub9
                  rw [List.length_map] at q
                  have := G.six
                  unfold highs
                  rw [List.length_map]
                  omega
                have dp := DPut.k (k := Sum.inr there) (v := V.int (h there)) hk9 (by rw [sizeLine_eq]; omega)
                refine ⟨_, dp, ?_⟩
                rw [highs_put hin]
                have nkp : p4 ≠ kd := ne_of hp9 hk9 (by intro z; cases z)
                have nkt : t2 ≠ kd := ne_of ht9 hk9 (by intro z; cases z)
                have s10 : Same H (upd H10 kd (.dK (highs (DL ++ b.label :: (TL ++ AL) ++ [there]) h))) := fun c o e => by
                  rw [upd_ne (ne_of_none e hkd0)]
                  exact s9 _ _ e
                have hp10 : upd H10 kd (.dK (highs (DL ++ b.label :: (TL ++ AL) ++ [there]) h)) p4 = some (.tup (b.fin.labels.map V.str)) := by rw [upd_ne nkp]; exact hp9
                have ht10 : upd H10 kd (.dK (highs (DL ++ b.label :: (TL ++ AL) ++ [there]) h)) t2 = some (.lst ((TL ++ AL).map V.str)) := by rw [upd_ne nkt]; exact ht9
                have hk10 : upd H10 kd (.dK (highs (DL ++ b.label :: (TL ++ AL) ++ [there]) h)) kd = some (.dK (highs (DL ++ b.label :: (TL ++ AL) ++ [there]) h)) := upd_same
                generalize upd H10 kd (.dK (highs (DL ++ b.label :: (TL ++ AL) ++ [there]) h)) = H11 at *
                walk_at "rd"
                refine ⟨by rw [sizeLine_eq]; omega, fun p6 hp6 => ?_⟩
                have s12 := s10.trans (same_new (o := HO.lst [V.str there]) hp6)
                have hp12 := keep_at (u := HO.lst [V.str there]) hp10 hp6
                have ht12 := keep_at (u := HO.lst [V.str there]) ht10 hp6
                have hk12 := keep_at (u := HO.lst [V.str there]) hk10 hp6
                have e12 : upd H11 p6 (HO.lst [V.str there]) p6 = some (.lst [V.str there]) := upd_same
                generalize upd H11 p6 (HO.lst [V.str there]) = H12 at *
                have few9 : (TL ++ AL).length ≤ 6 := by
                  unfold highs at hlen9
                  rw [List.length_map, List.length_append, List.length_cons] at hlen9
                  omega
                refine ⟨t2, p6, _, _, rfl, rfl, SqL.of ht12, SqL.of e12, by rw [List.length_map, sizeLine_eq, List.length_singleton]; omega, fun p7 hp7 => ?_⟩
                refine yes _ _ _ ⟨AL ++ [there], p7, _, by rw [hout], s12.trans (same_new hp7), keep_at hp12 hp7, ?_, ?_, ?_, ?_, ?_⟩
                · rw [upd_same, ← List.append_assoc, List.map_append (l₁ := TL ++ AL)]; rfl
                · rw [← List.append_assoc TL AL, ← List.cons_append, ← List.append_assoc]
                  exact keep_at hk12 hp7
                · rw [← List.append_assoc TL AL, ← List.cons_append, ← List.append_assoc]
                  exact List.nodup_append.mpr ⟨nd9, by simp, fun a ha c hc z => hin (by rw [← List.mem_singleton.mp hc, ← z]; exact ha)⟩
                · rw [← List.append_assoc TL AL, ← List.cons_append, ← List.append_assoc]
                  intro l hl
                  rcases List.mem_append.mp hl with hl | hl
                  · exact sub9 l hl
                  · rw [List.mem_singleton.mp hl]; exact hth.1
                · rw [← List.append_assoc TL AL, ← List.cons_append, ← List.append_assoc]
                  exact in10 _ (List.mem_append_right _ (List.mem_singleton.mpr rfl)) fun l hl => List.mem_append_left _ (in9 l hl)
          · rintro σ H9 ⟨AL, t2, o10, rfl, s9, hp9, ht9, hk9, nd9, sub9, in9⟩
            rw [List.length_map, List.take_length] at in9
            walk_at "rd"
            have e9 : DL ++ b.label :: (TL ++ AL) = (DL ++ [b.label]) ++ (TL ++ AL) := by simp
            rw [e9] at hk9 nd9 sub9 in9
            refine ⟨bs.length - (DL ++ [b.label]).length, ?_, DL ++ [b.label], TL ++ AL, t2, _, _, _, _, _, _, _, rfl, rfl, s9, ht9, hk9, nd9, sub9, ?_, ?_⟩
            · have q := nodup_sub_length nd9 sub9
              rw [List.length_map] at q
              simp only [List.length_append, List.length_singleton] at q ⊢
              omega
            · rcases List.mem_append.mp h0 with m0 | m0
              · exact List.mem_append_left _ (List.mem_append_left _ m0)
              · rcases List.mem_cons.mp m0 with m0 | m0
                · exact List.mem_append_left _ (List.mem_append_right _ (List.mem_singleton.mpr m0))
                · exact List.mem_append_right _ (List.mem_append_left _ m0)
            · intro c hc hcl l hl
              rcases List.mem_append.mp hcl with hcl | hcl
              · rcases List.mem_append.mp (cl c hc hcl l hl) with m0 | m0
                · exact List.mem_append_left _ (List.mem_append_left _ m0)
                · rcases List.mem_cons.mp m0 with m0 | m0
                  · exact List.mem_append_left _ (List.mem_append_right _ (List.mem_singleton.mpr m0))
                  · exact List.mem_append_right _ (List.mem_append_left _ m0)
              · have ecb : c = b := nodup_label G.nodup hc hb (List.mem_singleton.mp hcl)
                subst ecb
                exact in9 l hl
end
end Pb

/-! W6 -/
set_option Elab.async false
set_option linter.all false
set_option maxRecDepth 100000
set_option maxHeartbeats 4000000
namespace Pb
open PySem PySem.Spec PyProof.Rows L2
open C8 (Cal Mak Met pe_c pe_mk pe_mt pe_mt0 pe_gc fnScope_by)
/-! short words -/
local macro_rules | `(tactic| walk_at "rd") => `(tactic| try simp only [tVar, tC, tAdd, tSub, t2I, tIsN, tNotN, tB, tAnd, tOr, tNot, tAndV, tOrV, tNotV, tIf, tSeq, tPar, tPar3, tNext, tBreak, tCont, tDrop, tRet, tRetN, tIfS, gName, gNil, gCons, gTup, gSub, tAsg, tAug, ipI, iList, iTup, iRng1, iRng2, iStr, iEnum, iZip,
  tOp, tUn, rI, rI0, rU, tTest, tChain, tFld, sFld, sFldAug, L2.rAdd, L2.rSub, tNil, tCons, tTup, tLst, tCall, tMeth, tMake, tCB, tNoPart, tPart, tSl, tBM0, tBM, tDGet, tDGet1, tDGet2, tDIn, tDNotIn, sDPut, tDNewK, rEq, rNe, scal_ii, scal_ss, scal_bb, scal_nn, scal_ni, scal_in, scal_ns, scal_sn, scal_is, scal_si, List.take_succ_cons, List.take_zero, List.drop_succ_cons, List.drop_zero, upd_same, upd_upd, and_assoc, tKGet, gStar, tDisp, tPairs, tYes,
  L2.start, List.map_cons, List.map_nil, List.length_cons, List.length_nil, List.cons_append, List.nil_append, List.append_nil, List.replicate, Nat.sub_self, Nat.add_sub_cancel, Nat.reduceAdd, Nat.reduceSub, List.set_cons_zero, List.set_cons_succ, List.getElem?_cons_zero, List.getElem?_cons_succ,
  Option.some.injEq, V.int.injEq, V.bl.injEq, V.str.injEq, V.ref.injEq, exists_eq_left', exists_eq_left, exists_eq', exists_eq, true_and, and_true, if_true, if_false, Bool.false_eq_true, List.cons.injEq, Bool.not_true, Bool.not_false, cxK, cxP, cxW, ite_true, ite_false, wipe, reduceCtorEq, and_self, decide_true, decide_false, exists_and_left, exists_const, decide_eq_true_eq])
local macro_rules | `(tactic| walk_at "len") => `(tactic| (intro vs H Q E h; repeat (first | (obtain ⟨e, _⟩ := h; subst e; rfl) | (obtain ⟨_, h⟩ := h))))
local macro_rules | `(tactic| walk_at "wd") => `(tactic| simp (config := {decide := true}) only [V.str.injEq, scal_ss, true_and, if_true, if_false])

def sp_Code___init__ (K : PySem.W.Frag) : Sp := fun vs H Q _ => ∃ ms p dx H0 v bs h, vs = [.ref p, v] ∧ H = upd (upd H0 dx (.own p)) p (.ins (He.ga K "Code") dx []) ∧ H0 p = none ∧ H0 dx = none ∧ dx ≠ p ∧ Tk H0 ms ∧ Dp K (hide H0 ms) v (blocksD bs) ∧ Good bs h ∧
  ∀ H', Same H0 H' → IsCode K (hide H' ms) p bs h → Q .non H'
def sp_Code_first (K : PySem.W.Frag) : Sp := fun vs H Q _ => ∃ ms p b bs h, vs = [.ref p] ∧ Tk H ms ∧ IsCode K (hide H ms) p (b :: bs) h ∧ Q (.str b.label) H
def sp_Code_blocks (K : PySem.W.Frag) : Sp := fun vs H Q _ => ∃ ms p bs h, vs = [.ref p] ∧ Tk H ms ∧ IsCode K (hide H ms) p bs h ∧ Good bs h ∧ ∀ H' v, Same H H' → Dp K (hide H' ms) v (blocksD bs) → Q v H'
def sp_Code_heights (K : PySem.W.Frag) : Sp := fun vs H Q _ => ∃ ms p bs h, vs = [.ref p] ∧ Tk H ms ∧ IsCode K (hide H ms) p bs h ∧ Good bs h ∧ ∀ q, H q = none → Q (.ref q) (upd H q (.dK (highs (bs.map Blk.label) h)))
def sp_Code___len__ (K : PySem.W.Frag) : Sp := fun vs H Q _ => ∃ ms p bs h, vs = [.ref p] ∧ Tk H ms ∧ IsCode K (hide H ms) p bs h ∧ Good bs h ∧ ∀ H', Same H H' → Q (.int ((bs.map fun b => b.rows.length + 1).sum : Nat)) H'
theorem IsCode.mono {K : PySem.W.Frag} {H H' : Hp} {p : Addr} {bs : List Blk} {h : Str → Int} (s : Same H H') (c : IsCode K H p bs h) : IsCode K H' p bs h := by
  obtain ⟨dx, pa, ta, ha, kvs, h1, h2, h3, h4, h5⟩ := c
  exact ⟨dx, pa, ta, ha, kvs, s _ _ h1, Dp.mono s h2, s _ _ h3, KvD.mono s h4, s _ _ h5⟩
theorem short_name {x : Str} (h : nameS x = true) : short (.str x) := by
  unfold nameS at h
  have q := of_decide_eq_true (Bool.and_eq_true_iff.mp (Bool.and_eq_true_iff.mp h).1).2
  show x.length ≤ sizeLine
  rw [sizeLine_eq]
  omega
theorem Good.short {bs : List Blk} {h : Str → Int} (G : Good bs h) : shBs (blocksD bs) := by
  intro d hd
  obtain ⟨b, hb, rfl⟩ := List.mem_map.mp hd
  refine ⟨short_name (G.names b hb), fun x hx => ?_⟩
  rcases List.mem_cons.mp hx with e | hx
  · rw [e]
    show b.fin.word.length ≤ sizeLine
    have q : b.fin.word.length ≤ 8 := by cases b.fin <;> (simp only [Fin.word]; decide +kernel)
    rw [sizeLine_eq]
    omega
  · obtain ⟨l, hl, rfl⟩ := List.mem_map.mp hx
    obtain ⟨b2, hb2, rfl⟩ := get_label (G.ends b hb l hl).1
    exact short_name (G.names b2 hb2)
section
variable {P : Program} {w : World} {K : PySem.W.Frag} {mg : Str → Option Value} {base : Heap}
theorem ok_Code_init (T : Tx w K mg) (F_are_blocks : Cal P w K mg base 5 "are_blocks" (sp_are_blocks K) []) (F_Code_find_heights : Met P w K mg base 3 (He.ga K "Code") "find_heights" (sp_Code_find_heights K) []) : Mak P w K mg base 6 "Code" (He.ga K "Code") (sp_Code___init__ K) [] := by
  refine mak_of T.mk_Code T.g_Code T.D_Code___init__ sc_Code___init__ (fun _ _ _ _ _ _ us hl => match us, hl with | [_, _], _ => rfl) (by walk_at "len") fun cdv A outer s H vs Q E hr h => ?_
  refine ⟨_, (pss_cons (ps_if (pt_not (pt_val (pe_c F_are_blocks hr (by decide) (by rfl) (pa_cons (pv 1) pa_nil)))) (pss_one ps_never) pss_nil)
    (pss_cons (ps_fld (pv 0) (pe_lc rfl sc_Code___init__.nd (pi_listK (K := K) (pv 1)) (blkOk_by (own := [("label", 2), ("rows", 3), ("end", 4)]) (N := ["self", "blocks", "label", "rows", "end"]) (sc := L2.defScope s_Code___init__) (by decide +kernel)) (fun _ _ _ _ _ => (pg_m (pg_tupK (K := K) (n := 3) rfl (pgs_cons (pg_name (i := 2) sc_Code___init__.nd rfl (by first | exact Or.inl rfl | exact Or.inr rfl)) (pgs_cons (pg_name (i := 3) sc_Code___init__.nd rfl (by first | exact Or.inl rfl | exact Or.inr rfl)) (pgs_cons (pg_name (i := 4) sc_Code___init__.nd rfl (by first | exact Or.inl rfl | exact Or.inr rfl)) pgs_nil)))))) (fun _ _ _ _ _ => pts_nilM) (fun _ _ _ _ _ => (pe_m (pe_tup (pa_cons (pv 2) (pa_cons (pe_callTy (r := rListOf K) call_listOf (by rfl) T.b_list (by decide +kernel) (pa_cons (pv 3) pa_nil)) (pa_cons (pv 4) pa_nil))))))) rfl)
    (pss_cons (ps_fld (pv 0) (pe_dc rfl sc_Code___init__.nd (pi_listK (K := K) (pe_fldK (K := K) (pv 0) rfl)) (blkOk_by (own := [("label", 2), ("rows", 3), ("end", 4)]) (N := ["self", "blocks", "label", "rows", "end"]) (sc := L2.defScope s_Code___init__) (by decide +kernel)) (fun _ _ _ _ _ => (pg_m (pg_tupK (K := K) (n := 3) rfl (pgs_cons (pg_name (i := 2) sc_Code___init__.nd rfl (by first | exact Or.inl rfl | exact Or.inr rfl)) (pgs_cons (pg_name (i := 3) sc_Code___init__.nd rfl (by first | exact Or.inl rfl | exact Or.inr rfl)) (pgs_cons (pg_name (i := 4) sc_Code___init__.nd rfl (by first | exact Or.inl rfl | exact Or.inr rfl)) pgs_nil)))))) (fun _ _ _ _ _ => pts_nilM) (fun _ _ _ _ _ => (pe_m (pv 2))) (fun _ _ _ _ _ => (pe_m (pe_tup (pa_cons (pv 3) (pa_cons (pv 4) pa_nil)))))) rfl)
    (pss_cons (ps_fld (pv 0) pe_dnewK rfl)
    (pss_one (ps_expr (pe_mt0 F_Code_find_heights hr (by decide) (pv 0)))))))), ?_⟩
  obtain ⟨ms, p, dx, H0, v, bs, h, rfl, rfl, hp0, hdx0, hne, tk, hd, G, k⟩ := h
  have s0 : Same H0 (upd (upd H0 dx (.own p)) p (.ins (He.ga K "Code") dx [])) := (same_new hdx0).trans (same_new (by rw [upd_ne (Ne.symm hne)]; exact hp0))
  have hp1 : upd (upd H0 dx (.own p)) p (.ins (He.ga K "Code") dx []) p = some (.ins (He.ga K "Code") dx []) := upd_same
  generalize upd (upd H0 dx (.own p)) p (.ins (He.ga K "Code") dx []) = H1 at *
  have tk1 : Tk H1 ms := tk.same s0
  have hpm : p ∉ ms := tk.out hp0
  have tkp : Tk H1 (p :: ms) := Tk.cons hp1 tk1
  have hd1 : Dp K (hide H1 (p :: ms)) v (blocksD bs) := Dp.mono (fun b o e => by
    obtain ⟨q1, q2⟩ := hide_of e
    rw [hide_at (fun z => (List.mem_cons.mp z).elim (fun k => by rw [k, hp0] at q1; cases q1) q2)]
    exact s0 _ _ q1) hd
  walk_at "rd"
  refine ⟨p :: ms, v, _, rfl, tkp, hd1, G.short, fun H2 s2 => ?_⟩
  walk_at "rd"
  rw [G.blocks_ok, if_neg (by decide)]
  have hp2 := s2 _ _ hp1
  have hd2 := Dp.mono (Same.hide s2 _) hd1
  have s02 := s0.trans s2
  refine a_lc ?_
  walk_at "rd"
  obtain ⟨va, vs, rfl, hvs, hva⟩ := dp_list hd2
  have hvs2 : SqL K H2 va vs := sqL_same same_show hvs
  refine ⟨va, rfl, ⟨vs, hvs2⟩, fun D hD => ?_⟩
  refine lc_data (K := K) (ds := bs.map Blk.d) (ms := p :: ms) walk_list hD (tkp.same s2) (by rw [List.length_map, sizeLine_eq]; have := G.six; omega) hva (fun H4 s4 => sqL_same s4 hvs2) (fun _ => true) id (fun y d H4 hd4 s4 hD4 hy => ?_) (fun H4 ys s4 e4 hys => ?_)
  · obtain ⟨b, hb, rfl⟩ := List.mem_map.mp hd4
    refine a_t3h hy fun x1 x2 x3 h1 h2 h3 => ?_
    walk_at "rd"
    refine ⟨fun z => z.elim, fun _ => ?_⟩
    obtain ⟨la, ls, rfl, hls, hla⟩ := dp_list h2
    refine ⟨la, ls, rfl, .inl (sqL_same same_show hls), fun l hl => ⟨by rw [sizeLine_eq]; omega, fun q hq => ?_⟩⟩
    have s5 := (same_new (o := HO.lst ls) hl).trans (same_new (o := HO.tup [x1, .ref l, x3]) hq)
    have tkD : Tk H4 (D :: p :: ms) := fun m hm => (List.mem_cons.mp hm).elim (fun z => by rw [z]; exact hD4) (tkp.same (s2.trans s4) m)
    refine ⟨s5, .tup (.inl (.inl (new_at (tkD.same (same_new hl)) hq))) (.cons (Dp.mono (Same.hide s5 _) h1) (.cons (.lst (.inl (.inl ?_)) (DpAll.mono (Same.hide s5 _) hla)) (.cons (Dp.mono (Same.hide s5 _) h3) .nil)))⟩
    exact Same.hide (same_new hq) _ _ _ (new_at tkD hl)
  · rw [List.filter_eq_self.mpr fun _ _ => rfl, List.map_id] at hys
    walk_at "rd"
    have hp4 := s4 _ _ hp2
    refine ⟨_, _, _, hp4, T.c_Code, T.n_Code_parts, by show 0 < 1000; decide, ?_⟩
    have eF : putF (Str.ofString "parts") (V.ref D) [] = [(Str.ofString "parts", V.ref D)] := rfl
    rw [eF]
    have nDp : D ≠ p := ne_of e4 hp4 (by intro z; cases z)
    have nDm : D ∉ p :: ms := (tkp.same s2).out hD
    have e5 : upd H4 p (HO.ins (He.ga K "Code") dx [(Str.ofString "parts", V.ref D)]) D = some (.lst ys) := by rw [upd_ne nDp]; exact e4
    have hys5 : DpAll K (hide (upd H4 p (HO.ins (He.ga K "Code") dx [(Str.ofString "parts", V.ref D)])) (p :: ms)) ys (bs.map Blk.d) := by
      rw [hide_upd (List.mem_cons_self ..)]
      exact DpAll.mono (same_less fun a ha => List.mem_cons_of_mem _ ha) hys
    have hp5 : upd H4 p (HO.ins (He.ga K "Code") dx [(Str.ofString "parts", V.ref D)]) p = some (HO.ins (He.ga K "Code") dx [(Str.ofString "parts", V.ref D)]) := upd_same
    have s05 : Same H0 (upd H4 p (HO.ins (He.ga K "Code") dx [(Str.ofString "parts", V.ref D)])) := fun b o e => by
      rw [upd_ne (ne_of_none e hp0)]
      exact s4 _ _ (s02 _ _ e)
    have tk5 : Tk (upd H4 p (HO.ins (He.ga K "Code") dx [(Str.ofString "parts", V.ref D)])) (p :: ms) := ((tkp.same s2).same s4).upd
    generalize upd H4 p (HO.ins (He.ga K "Code") dx [(Str.ofString "parts", V.ref D)]) = H5 at *
    refine a_dc ?_
    walk_at "rd"
    refine ⟨_, _, _, hp5, T.c_Code, T.n_Code_parts, _, rfl, D, rfl, ⟨_, SqL.of e5⟩, fun D2 hD2 => ?_⟩
    refine dc_data (K := K) (ds := bs.map Blk.d) (ms := p :: ms) walk_list hD2 (by rw [List.length_map, sizeLine_eq]; have := G.six; omega) hys5 (fun H6 s6 => SqL.of (s6 _ _ e5)) labelK (fun d => match d with
      | .tuple [_, a, b] => .tuple [a, b]
      | _ => .none) (by
        have e1 : ((bs.map Blk.d).map labelK) = (bs.map Blk.label).map Sum.inr := by rw [List.map_map, List.map_map]; rfl
        rw [e1]
        exact List.Pairwise.map _ (fun a b z y => z (Sum.inr.inj y)) G.nodup) (fun y d H6 hd6 s6 hD6 hy => ?_) (fun H6 kvs s6 e6 hkv => ?_)
    · obtain ⟨b, hb, rfl⟩ := List.mem_map.mp hd6
      refine a_t3h hy fun x1 x2 x3 h1 h2 h3 => ?_
      cases h1
      walk_at "rd"
      refine ⟨rfl, by rw [sizeLine_eq]; omega, fun q hq => ?_⟩
      have s7 := same_new (o := HO.tup [x2, x3]) hq
      have tkD : Tk H6 (D2 :: p :: ms) := fun m hm => (List.mem_cons.mp hm).elim (fun z => by rw [z]; exact hD6) (tk5.same s6 m)
      exact ⟨s7, .tup (.inl (.inl (new_at tkD hq))) (.cons (Dp.mono (Same.hide s7 _) h2) (.cons (Dp.mono (Same.hide s7 _) h3) .nil))⟩
    · walk_at "rd"
      have hp6 := s6 _ _ hp5
      refine ⟨_, _, _, hp6, T.c_Code, T.n_Code_table, by show 1 < 1000; decide, ?_⟩
      have eF : putF (Str.ofString "table") (V.ref D2) [(Str.ofString "parts", V.ref D)] = [(Str.ofString "parts", V.ref D), (Str.ofString "table", V.ref D2)] := rfl
      rw [eF]
      have nDp2 : D2 ≠ p := ne_of e6 hp6 (by intro z; cases z)
      have nDm2 : D2 ∉ p :: ms := tk5.out hD2
      have eT : (bs.map Blk.d).map (fun d => (labelK d, (match d with
          | .tuple [_, a, b] => PyData.tuple [a, b]
          | _ => .none))) = tableD bs := by
        rw [List.map_map]
        rfl
      rw [eT] at hkv
      refine fun D3 hD3 => ⟨_, _, _, keep_at upd_same hD3, T.c_Code, T.n_Code_high, by show 2 < 1000; decide, ?_⟩
      have eF : putF (Str.ofString "high") (V.ref D3) [(Str.ofString "parts", V.ref D), (Str.ofString "table", V.ref D2)] = codeF D D2 (V.ref D3) := rfl
      rw [eF]
      have n32 : D3 ≠ p := fun z => by rw [z, upd_same] at hD3; cases hD3
      have s58 : Sx [p] H6 (upd (upd (upd H6 p (HO.ins (He.ga K "Code") dx [(Str.ofString "parts", V.ref D), (Str.ofString "table", V.ref D2)])) D3 (HO.dK [])) p (HO.ins (He.ga K "Code") dx (codeF D D2 (V.ref D3)))) :=
        ((Sx.upd (List.mem_singleton.mpr rfl)).trans (Sx.of (same_new hD3))).trans (Sx.upd (List.mem_singleton.mpr rfl))
      have hp8 : upd (upd (upd H6 p (HO.ins (He.ga K "Code") dx [(Str.ofString "parts", V.ref D), (Str.ofString "table", V.ref D2)])) D3 (HO.dK [])) p (HO.ins (He.ga K "Code") dx (codeF D D2 (V.ref D3))) p = some (HO.ins (He.ga K "Code") dx (codeF D D2 (V.ref D3))) := upd_same
      generalize upd (upd (upd H6 p (HO.ins (He.ga K "Code") dx [(Str.ofString "parts", V.ref D), (Str.ofString "table", V.ref D2)])) D3 (HO.dK [])) p (HO.ins (He.ga K "Code") dx (codeF D D2 (V.ref D3))) = H8 at *
      have sh8 : Same (hide H6 (p :: ms)) (hide H8 (p :: ms)) := s58.hide fun a ha => by rw [List.mem_singleton.mp ha]; exact List.mem_cons_self ..
      have tk8 : Tk H8 (p :: ms) := fun m hm => by
        rcases List.mem_cons.mp hm with z | hm
        · rw [z, hp8]; exact fun z => nomatch z
        · have q := (tk5.same s6) m (List.mem_cons_of_mem _ hm)
          have nmp : m ∉ [p] := fun z => hpm (by rw [← List.mem_singleton.mp z]; exact hm)
          cases e : H6 m with
          | none => exact absurd e q
          | some o => rw [s58 m o nmp e]; exact fun z => nomatch z
      have hparts : Dp K (hide H6 (p :: ms)) (.ref D) (blocksD bs) := by
        refine .lst (.inl (.inl ?_)) (DpAll.mono (Same.hide s6 _) hys5)
        rw [hide_at nDm]
        exact s6 _ _ e5
      have htab : hide H6 (p :: ms) D2 = some (.dK kvs) := by rw [hide_at nDm2]; exact e6
      have hkv6 : KvD K (hide H6 (p :: ms)) kvs (tableD bs) := KvD.mono (same_less fun a ha => List.mem_cons_of_mem _ ha) hkv
      refine ⟨_, _, rfl, rfl, p :: ms, p, dx, D, D2, _, kvs, bs, h, rfl, hp8, tk8, List.mem_cons_self .., Dp.mono sh8 hparts, sh8 _ _ htab, KvD.mono sh8 hkv6, G, fun H9 ha s9 hp9 hha => ?_⟩
      walk_at "rd"
      have sh9 : Same (hide H8 (p :: ms)) (hide H9 (p :: ms)) := s9.hide fun a ha => by rw [List.mem_singleton.mp ha]; exact List.mem_cons_self ..
      have sl9 : Same (hide H9 (p :: ms)) (hide H9 ms) := same_less fun a ha => List.mem_cons_of_mem _ ha
      have sh69 := (sh8.trans sh9).trans sl9
      refine k _ (fun b o e => ?_) ⟨dx, D, D2, ha, kvs, ?_, Dp.mono sh69 hparts, sh69 _ _ htab, KvD.mono sh69 hkv6, sl9 _ _ hha⟩
      · have nb : b ∉ [p] := fun z => by rw [List.mem_singleton.mp z, hp0] at e; cases e
        exact s9 _ _ nb (s58 _ _ nb (s6 _ _ (s05 _ _ e)))
      · rw [hide_at hpm]; exact hp9
end
end Pb

/-! W7 -/
set_option Elab.async false
set_option linter.all false
set_option maxRecDepth 100000
set_option maxHeartbeats 4000000
namespace Pb
open PySem PySem.Spec PyProof.Rows L2
open C8 (Cal Mak Met pe_c pe_mk pe_mt pe_mt0 pe_gc fnScope_by)
/-! short words -/
local macro_rules | `(tactic| walk_at "rd") => `(tactic| try simp only [tVar, tC, tAdd, tSub, t2I, tIsN, tNotN, tB, tAnd, tOr, tNot, tAndV, tOrV, tNotV, tIf, tSeq, tPar, tPar3, tNext, tBreak, tCont, tDrop, tRet, tRetN, tIfS, gName, gNil, gCons, gTup, gSub, tAsg, tAug, ipI, iList, iTup, iRng1, iRng2, iStr, iEnum, iZip,
  tOp, tUn, rI, rI0, rU, tTest, tChain, tFld, sFld, sFldAug, L2.rAdd, L2.rSub, tNil, tCons, tTup, tLst, tCall, tMeth, tMake, tCB, tNoPart, tPart, tSl, tBM0, tBM, tDGet, tDGet1, tDGet2, tDIn, tDNotIn, sDPut, tDNewK, rEq, rNe, scal_ii, scal_ss, scal_bb, scal_nn, scal_ni, scal_in, scal_ns, scal_sn, scal_is, scal_si, List.take_succ_cons, List.take_zero, List.drop_succ_cons, List.drop_zero, upd_same, upd_upd, and_assoc, tKGet, gStar, tDisp, tPairs, tYes,
  L2.start, List.map_cons, List.map_nil, List.length_cons, List.length_nil, List.cons_append, List.nil_append, List.append_nil, List.replicate, Nat.sub_self, Nat.add_sub_cancel, Nat.reduceAdd, Nat.reduceSub, List.set_cons_zero, List.set_cons_succ, List.getElem?_cons_zero, List.getElem?_cons_succ,
  Option.some.injEq, V.int.injEq, V.bl.injEq, V.str.injEq, V.ref.injEq, exists_eq_left', exists_eq_left, exists_eq', exists_eq, true_and, and_true, if_true, if_false, Bool.false_eq_true, List.cons.injEq, Bool.not_true, Bool.not_false, cxK, cxP, cxW, ite_true, ite_false, wipe, reduceCtorEq, and_self, decide_true, decide_false, exists_and_left, exists_const, decide_eq_true_eq])
local macro_rules | `(tactic| walk_at "len") => `(tactic| (intro vs H Q E h; repeat (first | (obtain ⟨e, _⟩ := h; subst e; rfl) | (obtain ⟨_, h⟩ := h))))
local macro_rules | `(tactic| walk_at "wd") => `(tactic| simp (config := {decide := true}) only [V.str.injEq, scal_ss, true_and, if_true, if_false])

def sp_Code___eq__ (K : PySem.W.Frag) : Sp := fun vs H Q _ => ∃ ms p q bs cs h g, vs = [.ref p, .ref q] ∧ Tk H ms ∧ IsCode K (hide H ms) p bs h ∧ IsCode K (hide H ms) q cs g ∧ Good bs h ∧ Good cs g ∧ Q (.bl (PyData.eqv (blocksD bs) (blocksD cs))) H
theorem shp_row (r : Row) : Shp 1 r.d := by
  refine shp_tup fun d hd => ?_
  rcases List.mem_cons.mp hd with e | hd
  · rw [e]
    refine shp_str ?_
    cases r <;> (simp only [Row.word]; decide +kernel)
  · cases r <;> simp only [Row.args] at hd
    case put n => rw [List.mem_singleton.mp hd]; exact shp_int
    all_goals exact absurd hd (by simp)
theorem shp_fin {e : Fin} (h : ∀ l ∈ e.labels, PyData.strOk l = true) : Shp 1 e.d := by
  refine shp_tup fun d hd => ?_
  rcases List.mem_cons.mp hd with q | hd
  · rw [q]
    refine shp_str ?_
    cases e <;> (simp only [Fin.word]; decide +kernel)
  · obtain ⟨l, hl, rfl⟩ := List.mem_map.mp hd
    exact shp_str (h l hl)
theorem Good.shaped {bs : List Blk} {h : Str → Int} (G : Good bs h) : SeqAt.shaped (blocksD bs) = true := by
  refine shaped_of (n := 4) (shp_list fun d hd => ?_) (by decide)
  obtain ⟨b, hb, rfl⟩ := List.mem_map.mp hd
  refine shp_tup fun d hd => ?_
  rcases List.mem_cons.mp hd with e | hd
  · rw [e]
    exact shp_str (G.label_ok (List.mem_map.mpr ⟨b, hb, rfl⟩))
  rcases List.mem_cons.mp hd with e | hd
  · rw [e]
    refine shp_list fun d hd => ?_
    obtain ⟨r, _, rfl⟩ := List.mem_map.mp hd
    exact shp_row r
  rw [List.mem_singleton.mp hd]
  exact (shp_fin fun l hl => G.label_ok (G.ends b hb l hl).1).mono (by decide)
section
variable {P : Program} {w : World} {K : PySem.W.Frag} {mg : Str → Option Value} {base : Heap}
theorem ok_Code_first (T : Tx w K mg) : Met P w K mg base 1 (He.ga K "Code") "first" (sp_Code_first K) [] := by
  refine met_of T.c_Code T.me_Code_first T.D_Code_first sc_Code_first (fun _ _ _ _ _ _ us hl => match us, hl with | [_], _ => rfl) (by walk_at "len") fun cdv A outer s H vs Q E hr h => ?_
  refine ⟨_, (pss_one (ps_ret (pe_ix (r := rIx K) ix_seq (pe_ix (r := rIx K) ix_seq (pe_fldK (K := K) (pv 0) rfl) pe_int (fun _ _ => rfl)) pe_int (fun _ _ => rfl)))), ?_⟩
  obtain ⟨ms, p, b, bs, h, rfl, tk, c, k⟩ := h
  obtain ⟨dx, pa, ta, ha, kvs, h1, h2, h3, h4, h5⟩ := IsCode.mono same_show c
  walk_at "rd"
  refine ⟨_, _, _, h1, T.c_Code, T.n_Code_parts, _, rfl, ?_⟩
  refine a_ixL h2 atI_0 fun u hu => ?_
  refine a_ixT hu atI_0 fun v hv => ?_
  cases hv
  exact k
theorem ok_Code_heights (T : Tx w K mg) : Met P w K mg base 1 (He.ga K "Code") "heights" (sp_Code_heights K) [] := by
  refine met_of T.c_Code T.me_Code_heights T.D_Code_heights sc_Code_heights (fun _ _ _ _ _ _ us hl => match us, hl with | [_], _ => rfl) (by walk_at "len") fun cdv A outer s H vs Q E hr h => ?_
  refine ⟨_, (pss_one (ps_ret (pe_callTy call_dictD (by rfl) T.b_dict (by decide +kernel) (pa_cons (pe_fldK (K := K) (pv 0) rfl) pa_nil)))), ?_⟩
  obtain ⟨ms, p, bs, h, rfl, tk, c, G, k⟩ := h
  obtain ⟨dx, pa, ta, ha, kvs, h1, h2, h3, h4, h5⟩ := IsCode.mono same_show c
  walk_at "rd"
  exact ⟨_, _, _, h1, T.c_Code, T.n_Code_high, _, rfl, _, rfl, _, .inl h5, k⟩
theorem ok_Code_eq (T : Tx w K mg) : Met P w K mg base 8 (He.ga K "Code") "__eq__" (sp_Code___eq__ K) [] := by
  refine met_of T.c_Code T.me_Code___eq__ T.D_Code___eq__ sc_Code___eq__ (fun _ _ _ _ _ _ us hl => match us, hl with | [_, _], _ => rfl) (by walk_at "len") fun cdv A outer s H vs Q E hr h => ?_
  refine ⟨_, (pss_one (ps_ret (pe_and (pe_callB (r := rIsi K) call_isi (by rfl) T.b_isinstance (by decide +kernel) (pa_cons (pv 1) (pa_cons (pe_gc (v := .ref (He.ga K "Code")) (by rfl) ⟨_, T.g_Code, rfl⟩) pa_nil))) (pe_one (pe_cmpR (r := rEqD K) (op_eqD hr.units) (pe_fldK (K := K) (pv 0) rfl) (pe_fldK (K := K) (pv 1) rfl) (nomark _)))))), ?_⟩
  obtain ⟨ms, p, q, bs, cs, h, g, rfl, tk, c, d, G, J, k⟩ := h
  obtain ⟨dx, pa, ta, ha, kvs, h1, h2, h3, h4, h5⟩ := IsCode.mono same_show c
  obtain ⟨dx2, pa2, ta2, ha2, kvs2, g1, g2, g3, g4, g5⟩ := IsCode.mono same_show d
  walk_at "rd"
  refine a_isO g1 T.c_Code T.i_Code T.q_Code_Code ?_
  walk_at "rd"
  refine ⟨_, _, _, h1, T.c_Code, T.n_Code_parts, _, rfl, _, _, _, g1, T.c_Code, T.n_Code_parts, _, rfl, ?_⟩
  exact a_eqD h2 g2 G.shaped J.shaped k
theorem ok_Code_blocks (T : Tx w K mg) : Met P w K mg base 1 (He.ga K "Code") "blocks" (sp_Code_blocks K) [] := by
  refine met_of T.c_Code T.me_Code_blocks T.D_Code_blocks sc_Code_blocks (fun _ _ _ _ _ _ us hl => match us, hl with | [_], _ => rfl) (by walk_at "len") fun cdv A outer s H vs Q E hr h => ?_
  refine ⟨_, (pss_one (ps_ret (pe_lc rfl sc_Code_blocks.nd (pi_listK (K := K) (pe_fldK (K := K) (pv 0) rfl)) (blkOk_by (own := [("label", 1), ("rows", 2), ("end", 3)]) (N := ["self", "label", "rows", "end"]) (sc := L2.defScope s_Code_blocks) (by decide +kernel)) (fun _ _ _ _ _ => (pg_m (pg_tupK (K := K) (n := 3) rfl (pgs_cons (pg_name (i := 1) sc_Code_blocks.nd rfl (by first | exact Or.inl rfl | exact Or.inr rfl)) (pgs_cons (pg_name (i := 2) sc_Code_blocks.nd rfl (by first | exact Or.inl rfl | exact Or.inr rfl)) (pgs_cons (pg_name (i := 3) sc_Code_blocks.nd rfl (by first | exact Or.inl rfl | exact Or.inr rfl)) pgs_nil)))))) (fun _ _ _ _ _ => pts_nilM) (fun _ _ _ _ _ => (pe_m (pe_tup (pa_cons (pv 1) (pa_cons (pe_callTy (r := rListOf K) call_listOf (by rfl) T.b_list (by decide +kernel) (pa_cons (pv 2) pa_nil)) (pa_cons (pv 3) pa_nil))))))))), ?_⟩
  obtain ⟨ms, p, bs, h, rfl, tk, c, G, k⟩ := h
  obtain ⟨dx, pa, ta, ha, kvs, h1, h2, h3, h4, h5⟩ := c
  walk_at "rd"
  refine a_lc ?_
  walk_at "rd"
  obtain ⟨va, vs, e, hvs, hva⟩ := dp_list h2
  cases e
  have hvs2 : SqL K H pa vs := sqL_same same_show hvs
  refine ⟨_, _, _, same_show _ _ h1, T.c_Code, T.n_Code_parts, _, rfl, pa, rfl, ⟨vs, hvs2⟩, fun D hD => ?_⟩
  refine lc_data (K := K) (ds := bs.map Blk.d) (ms := ms) walk_list hD tk (by rw [List.length_map, sizeLine_eq]; have := G.six; omega) hva (fun H4 s4 => sqL_same s4 hvs2) (fun _ => true) id (fun y d H4 hd4 s4 hD4 hy => ?_) (fun H4 ys s4 e4 hys => ?_)
  · obtain ⟨b, hb, rfl⟩ := List.mem_map.mp hd4
    refine a_t3h hy fun x1 x2 x3 h1 h2 h3 => ?_
    walk_at "rd"
    refine ⟨fun z => z.elim, fun _ => ?_⟩
    obtain ⟨la, ls, rfl, hls, hla⟩ := dp_list h2
    refine ⟨la, ls, rfl, .inl (sqL_same same_show hls), fun l hl => ⟨by rw [sizeLine_eq]; omega, fun q hq => ?_⟩⟩
    have s5 := (same_new (o := HO.lst ls) hl).trans (same_new (o := HO.tup [x1, .ref l, x3]) hq)
    have tkD : Tk H4 (D :: ms) := fun m hm => (List.mem_cons.mp hm).elim (fun z => by rw [z]; exact hD4) (tk.same s4 m)
    refine ⟨s5, .tup (.inl (.inl (new_at (tkD.same (same_new hl)) hq))) (.cons (Dp.mono (Same.hide s5 _) h1) (.cons (.lst (.inl (.inl ?_)) (DpAll.mono (Same.hide s5 _) hla)) (.cons (Dp.mono (Same.hide s5 _) h3) .nil)))⟩
    exact Same.hide (same_new hq) _ _ _ (new_at tkD hl)
  · rw [List.filter_eq_self.mpr fun _ _ => rfl, List.map_id] at hys
    refine k _ _ s4 (.lst (.inl (.inl ?_)) (DpAll.mono (same_less fun a ha => List.mem_cons_of_mem _ ha) hys))
    rw [hide_at (tk.out hD)]
    exact e4
theorem ok_Code_len (T : Tx w K mg) : Met P w K mg base 1 (He.ga K "Code") "__len__" (sp_Code___len__ K) [] := by
  refine met_of T.c_Code T.me_Code___len__ T.D_Code___len__ sc_Code___len__ (fun _ _ _ _ _ _ us hl => match us, hl with | [_], _ => rfl) (by walk_at "len") fun cdv A outer s H vs Q E hr h => ?_
  refine ⟨_, (pss_one (ps_ret (pe_callB (r := rLenQ K) call_lenQ (by rfl) T.b_len (by decide +kernel) (pa_cons (pe_lc2 (vs1 := [4]) rfl sc_Code___len__.nd (pi_listK (K := K) (pe_fldK (K := K) (pv 0) rfl)) (blkOk_by (own := [("label", 1), ("rows", 2), ("end", 3), ("row", 4)]) (N := ["self", "label", "rows", "end", "row"]) (sc := L2.defScope s_Code___len__) (by decide +kernel)) (by decide) (fun _ _ _ _ _ => (pg_m (pg_tupK (K := K) (n := 3) rfl (pgs_cons (pg_name (i := 1) sc_Code___len__.nd rfl (by first | exact Or.inl rfl | exact Or.inr rfl)) (pgs_cons (pg_name (i := 2) sc_Code___len__.nd rfl (by first | exact Or.inl rfl | exact Or.inr rfl)) (pgs_cons (pg_name (i := 3) sc_Code___len__.nd rfl (by first | exact Or.inl rfl | exact Or.inr rfl)) pgs_nil)))))) (fun _ _ _ _ _ => pts_nilM) (fun _ _ _ _ _ => (pi_m (pi_listK (K := K) (pe_op (r := rCatS K) op_catS (pv 2) (pe_lst (pa_cons (pv 3) pa_nil)))))) (fun _ _ _ _ _ => (pg_m (pg_name (i := 4) sc_Code___len__.nd rfl (by first | exact Or.inl rfl | exact Or.inr rfl)))) (fun _ _ _ _ _ => pts_nilM) (fun _ _ _ _ _ => (pe_m (pv 4)))) pa_nil)))), ?_⟩
  obtain ⟨ms, p, bs, h, rfl, tk, c, G, k⟩ := h
  obtain ⟨dx, pa, ta, ha, kvs, h1, h2, h3, h4, h5⟩ := IsCode.mono same_show c
  walk_at "rd"
  refine a_lc2 ?_
  walk_at "rd"
  obtain ⟨va, vs, e, hvs, hva⟩ := dp_list h2
  cases e
  refine ⟨_, _, _, h1, T.c_Code, T.n_Code_parts, _, rfl, pa, rfl, ⟨vs, hvs⟩, fun D hD => ?_⟩
  refine lc2_data (K := K) (ds := bs.map Blk.d) (ms := []) walk_list hD 13 (by rw [hide_nil]; exact hva) (fun H4 s4 => sqL_same s4 hvs) (fun d => match d with
    | .tuple [_, .list rs, e] => rs ++ [e]
    | _ => []) (fun _ e => e) (fun d hd => ?_) (by rw [List.length_map, sizeLine_eq]; have := G.six; omega) (fun y d H4 hd4 s4 hD4 hy => ?_) (fun H4 ys s4 e4 hys => ?_)
  · obtain ⟨b, hb, rfl⟩ := List.mem_map.mp hd
    show (b.rows.map Row.d ++ [b.fin.d]).length ≤ 13
    have := G.many b hb
    rw [List.length_append, List.length_map, List.length_singleton]
    omega
  · obtain ⟨b, hb, rfl⟩ := List.mem_map.mp hd4
    refine a_t3h hy fun x1 x2 x3 g1 g2 g3 => ?_
    walk_at "rd"
    refine ⟨by rw [sizeLine_eq]; omega, fun q hq => ?_⟩
    have s5 := same_new (o := HO.lst [x3]) hq
    have tkD : Tk H4 [D] := fun m hm => by rw [List.mem_singleton.mp hm]; exact hD4
    have e5 : hide (upd H4 q (HO.lst [x3])) [D] q = some (.lst [x3]) := new_at tkD hq
    have g2' := Dp.mono (Same.hide s5 [D]) g2
    have g3' := Dp.mono (Same.hide s5 [D]) g3
    have tk5 : Tk (upd H4 q (HO.lst [x3])) [D] := tkD.same s5
    generalize upd H4 q (HO.lst [x3]) = H5 at *
    refine a_catH g2' (.lst (SqL.of e5) (.cons g3' .nil)) (by have := G.many b hb; rw [List.length_map, sizeLine_eq]; simp only [List.length_cons, List.length_nil]; omega) fun q2 ws hq2 hws => ?_
    have s6 := same_new (o := HO.lst ws) hq2
    have e6 : hide (upd H5 q2 (HO.lst ws)) [D] q2 = some (.lst ws) := new_at tk5 hq2
    walk_at "rd"
    refine ⟨⟨ws, SqL.of upd_same⟩, s5.trans s6, ws, _, walk_list, DpAll.mono (Same.hide s6 [D]) hws, fun H7 s7 => sqL_same same_show (SqL.of (s7 _ _ e6)), fun y e H7 he s7 hD7 hy => ?_⟩
    walk_at "rd"
    exact ⟨Same.refl _, hy⟩
  · refine ⟨D, ys, rfl, .inl (SqL.of e4), ?_⟩
    have e := DpAll.length hys
    rw [e, List.map_map]
    have q : ((bs.map ((fun d => (match d with
      | .tuple [_, .list rs, e] => rs ++ [e]
      | _ => []).map fun e => e) ∘ Blk.d)).flatten).length = (bs.map fun b => b.rows.length + 1).sum := by
      rw [List.length_flatten, List.map_map]
      congr 1
      refine List.map_congr_left fun b _ => ?_
      show ((b.rows.map Row.d ++ [b.fin.d]).map fun e => e).length = _
      simp
    rw [q]
    exact k _ s4
end
end Pb

/-! W8 -/
set_option Elab.async false
set_option linter.all false
set_option maxRecDepth 100000
set_option maxHeartbeats 4000000
namespace Pb
open PySem PySem.Spec PyProof.Rows L2
open C8 (Cal Mak Met pe_c pe_mk pe_mt pe_mt0 pe_gc fnScope_by)
/-! short words -/
local macro_rules | `(tactic| walk_at "rd") => `(tactic| try simp only [tVar, tC, tAdd, tSub, t2I, tIsN, tNotN, tB, tAnd, tOr, tNot, tAndV, tOrV, tNotV, tIf, tSeq, tPar, tPar3, tNext, tBreak, tCont, tDrop, tRet, tRetN, tIfS, gName, gNil, gCons, gTup, gSub, tAsg, tAug, ipI, iList, iTup, iRng1, iRng2, iStr, iEnum, iZip,
  tOp, tUn, rI, rI0, rU, tTest, tChain, tFld, sFld, sFldAug, L2.rAdd, L2.rSub, tNil, tCons, tTup, tLst, tCall, tMeth, tMake, tCB, tNoPart, tPart, tSl, tBM0, tBM, tDGet, tDGet1, tDGet2, tDIn, tDNotIn, sDPut, tDNewK, rEq, rNe, scal_ii, scal_ss, scal_bb, scal_nn, scal_ni, scal_in, scal_ns, scal_sn, scal_is, scal_si, List.take_succ_cons, List.take_zero, List.drop_succ_cons, List.drop_zero, upd_same, upd_upd, and_assoc, tKGet, gStar, tDisp, tPairs, tYes,
  L2.start, List.map_cons, List.map_nil, List.length_cons, List.length_nil, List.cons_append, List.nil_append, List.append_nil, List.replicate, Nat.sub_self, Nat.add_sub_cancel, Nat.reduceAdd, Nat.reduceSub, List.set_cons_zero, List.set_cons_succ, List.getElem?_cons_zero, List.getElem?_cons_succ,
  Option.some.injEq, V.int.injEq, V.bl.injEq, V.str.injEq, V.ref.injEq, exists_eq_left', exists_eq_left, exists_eq', exists_eq, true_and, and_true, if_true, if_false, Bool.false_eq_true, List.cons.injEq, Bool.not_true, Bool.not_false, cxK, cxP, cxW, ite_true, ite_false, wipe, reduceCtorEq, and_self, decide_true, decide_false, exists_and_left, exists_const, decide_eq_true_eq])
local macro_rules | `(tactic| walk_at "len") => `(tactic| (intro vs H Q E h; repeat (first | (obtain ⟨e, _⟩ := h; subst e; rfl) | (obtain ⟨_, h⟩ := h))))
local macro_rules | `(tactic| walk_at "wd") => `(tactic| simp (config := {decide := true}) only [V.str.injEq, scal_ss, true_and, if_true, if_false])

/-- a list or a tuple of whole numbers -/
def IntSeq (K : PySem.W.Frag) (H : Hp) (v : V) (ns : List Int) : Prop := ∃ a, v = .ref a ∧ (SqL K H a (ns.map V.int) ∨ SqT K H a (ns.map V.int))
theorem IntSeq.mono {K : PySem.W.Frag} {H H' : Hp} {v : V} {ns : List Int} (s : Same H H') (h : IntSeq K H v ns) : IntSeq K H' v ns := by
  obtain ⟨a, e, h⟩ := h
  exact ⟨a, e, h.imp (sqL_same s) (sqT_same s)⟩
def tallyF (wl tl : Addr) (most steps : Int) (hd : V) : List (Str × V) := [("worths", .ref wl), ("most", .int most), ("heard", hd), ("told_so_far", .ref tl), ("steps_done", .int steps)]
def ranF (tl pl : Addr) (steps : Int) : List (Str × V) := [("told", .ref tl), ("pile", .ref pl), ("steps", .int steps)]
def dryF (tl : Addr) (label : Str) (row : Int) : List (Str × V) := [("told", .ref tl), ("label", .str label), ("row", .int row)]
def spentF (tl : Addr) : List (Str × V) := [("told", .ref tl)]
/-- a new instance at p, all fields of it still to be set -/
def NewAt (H0 H : Hp) (C p dx : Addr) : Prop := H = upd (upd H0 dx (.own p)) p (.ins C dx []) ∧ H0 p = none ∧ H0 dx = none ∧ dx ≠ p
theorem NewAt.same {H0 H : Hp} {C p dx : Addr} (h : NewAt H0 H C p dx) : Same H0 H := by
  obtain ⟨rfl, h1, h2, h3⟩ := h
  exact (same_new h2).trans (same_new (by rw [upd_ne (Ne.symm h3)]; exact h1))
theorem NewAt.at {H0 H : Hp} {C p dx : Addr} (h : NewAt H0 H C p dx) : H p = some (.ins C dx []) := by
  obtain ⟨rfl, h1, h2, h3⟩ := h
  exact upd_same
theorem NewAt.keep {H0 H H' : Hp} {C p dx : Addr} (h : NewAt H0 H C p dx) (s : Sx [p] H H') : Same H0 H' := fun b o e => by
  have nb : b ∉ [p] := fun z => by rw [List.mem_singleton.mp z, h.2.1] at e; cases e
  exact s b o nb (h.same b o e)
theorem Sx.new {ms : List Addr} {H : Hp} {p : Addr} {o : HO} (h : H p = none) : Sx ms H (L2.upd H p o) := Sx.of (same_new h)
theorem Sx.at {p : Addr} {H : Hp} {o : HO} : Sx [p] H (L2.upd H p o) := Sx.upd (List.mem_singleton.mpr rfl)
def sp_Ran___init__ (K : PySem.W.Frag) : Sp := fun vs H Q _ => ∃ p dx H0 v u told pile steps, vs = [.ref p, v, u, .int steps] ∧ NewAt H0 H (He.ga K "Ran") p dx ∧ IntSeq K H0 v told ∧ IntSeq K H0 u pile ∧
  ∀ H' tl pl, Same H0 H' → H0 tl = none → H0 pl = none → tl ≠ pl → H' p = some (.ins (He.ga K "Ran") dx (ranF tl pl steps)) → H' tl = some (.lst (told.map V.int)) → H' pl = some (.lst (pile.map V.int)) → Q .non H'
def sp_Dry___init__ (K : PySem.W.Frag) : Sp := fun vs H Q _ => ∃ p dx H0 v told label row, vs = [.ref p, v, .str label, .int row] ∧ NewAt H0 H (He.ga K "Dry") p dx ∧ IntSeq K H0 v told ∧
  ∀ H' tl, Same H0 H' → H0 tl = none → H' p = some (.ins (He.ga K "Dry") dx (dryF tl label row)) → H' tl = some (.lst (told.map V.int)) → Q .non H'
def sp_Spent___init__ (K : PySem.W.Frag) : Sp := fun vs H Q _ => ∃ p dx H0 v told, vs = [.ref p, v] ∧ NewAt H0 H (He.ga K "Spent") p dx ∧ IntSeq K H0 v told ∧
  ∀ H' tl, Same H0 H' → H0 tl = none → H' p = some (.ins (He.ga K "Spent") dx (spentF tl)) → H' tl = some (.lst (told.map V.int)) → Q .non H'
def sp_Tally___init__ (K : PySem.W.Frag) : Sp := fun vs H Q _ => ∃ p dx H0 v ns most hd, vs = [.ref p, v, .int most, hd] ∧ NewAt H0 H (He.ga K "Tally") p dx ∧ IntSeq K H0 v ns ∧
  ∀ H' wl tl, Same H0 H' → H0 wl = none → H0 tl = none → wl ≠ tl → H' p = some (.ins (He.ga K "Tally") dx (tallyF wl tl most 0 hd)) → H' wl = some (.lst (ns.map V.int)) → H' tl = some (.lst []) → Q .non H'
def sp_Tally_step (K : PySem.W.Frag) : Sp := fun vs H Q _ => ∃ p dx wl tl most steps hd, vs = [.ref p] ∧ H p = some (.ins (He.ga K "Tally") dx (tallyF wl tl most steps hd)) ∧
  (if steps = most then Q (.bl false) H else Q (.bl true) (upd H p (.ins (He.ga K "Tally") dx (tallyF wl tl most (steps + 1) hd))))
def sp_Tally_tell (K : PySem.W.Frag) : Sp := fun vs H Q _ => ∃ p dx wl tl most steps told n, vs = [.ref p, .int n] ∧ H p = some (.ins (He.ga K "Tally") dx (tallyF wl tl most steps .non)) ∧ H tl = some (.lst (told.map V.int)) ∧ told.length < sizeLine ∧
  Q .non (upd H tl (.lst ((told ++ [n]).map V.int)))
def sp_Tally_hear (K : PySem.W.Frag) : Sp := fun vs H Q _ => ∃ p dx wl tl most steps hd ns, vs = [.ref p] ∧ H p = some (.ins (He.ga K "Tally") dx (tallyF wl tl most steps hd)) ∧ H wl = some (.lst (ns.map V.int)) ∧
  (match ns with
  | [] => ∀ H', Same H H' → Q .non H'
  | n :: r => ∀ H', Same H H' → Q (.int n) (upd H' wl (.lst (r.map V.int))))
theorem seqIndex_0 {n : Nat} : seqIndex? 0 (n + 1) = some 0 := by
  unfold seqIndex?
  simp
section
variable {P : Program} {w : World} {K : PySem.W.Frag} {mg : Str → Option Value} {base : Heap}
theorem ok_Spent_init (T : Tx w K mg) : Mak P w K mg base 1 "Spent" (He.ga K "Spent") (sp_Spent___init__ K) [] := by
  refine mak_of T.mk_Spent T.g_Spent T.D_Spent___init__ sc_Spent___init__ (fun _ _ _ _ _ _ us hl => match us, hl with | [_, _], _ => rfl) (by walk_at "len") fun cdv A outer s H vs Q E hr h => ?_
  refine ⟨_, (pss_one (ps_fld (pv 0) (pe_callTy (r := rListOf K) call_listOf (by rfl) T.b_list (by decide +kernel) (pa_cons (pv 1) pa_nil)) rfl)), ?_⟩
  obtain ⟨p, dx, H0, v, told, rfl, hn, hv, k⟩ := h
  obtain ⟨a, rfl, ha⟩ := IntSeq.mono hn.same hv
  walk_at "rd"
  refine ⟨a, _, rfl, ha, fun l hl => ?_⟩
  have hp1 := keep_at (u := HO.lst (told.map V.int)) hn.at hl
  refine ⟨_, _, _, hp1, T.c_Spent, T.n_Spent_told, by show 0 < 1000; decide, ?_⟩
  have nlp : l ≠ p := fun z => by rw [z, hn.at] at hl; cases hl
  have hl0 := hn.same.free hl
  refine k _ l (hn.keep ((Sx.new hl).trans Sx.at)) hl0 (upd_same.trans rfl) ?_
  rw [upd_ne nlp, upd_same]
theorem ok_Dry_init (T : Tx w K mg) : Mak P w K mg base 1 "Dry" (He.ga K "Dry") (sp_Dry___init__ K) [] := by
  refine mak_of T.mk_Dry T.g_Dry T.D_Dry___init__ sc_Dry___init__ (fun _ _ _ _ _ _ us hl => match us, hl with | [_, _, _, _], _ => rfl) (by walk_at "len") fun cdv A outer s H vs Q E hr h => ?_
  refine ⟨_, (pss_cons (ps_fld (pv 0) (pe_callTy (r := rListOf K) call_listOf (by rfl) T.b_list (by decide +kernel) (pa_cons (pv 1) pa_nil)) rfl)
    (pss_cons (ps_fld (pv 0) (pv 2) rfl)
    (pss_one (ps_fld (pv 0) (pv 3) rfl)))), ?_⟩
  obtain ⟨p, dx, H0, v, told, label, row, rfl, hn, hv, k⟩ := h
  obtain ⟨a, rfl, ha⟩ := IntSeq.mono hn.same hv
  walk_at "rd"
  refine ⟨a, _, rfl, ha, fun l hl => ?_⟩
  have hp1 := keep_at (u := HO.lst (told.map V.int)) hn.at hl
  have nlp : l ≠ p := fun z => by rw [z, hn.at] at hl; cases hl
  have hl0 := hn.same.free hl
  refine ⟨_, _, _, hp1, T.c_Dry, T.n_Dry_told, by show 0 < 1000; decide, _, _, _, rfl, T.c_Dry, T.n_Dry_label, by show 1 < 1000; decide, _, _, _, rfl, T.c_Dry, T.n_Dry_row, by show 2 < 1000; decide, ?_⟩
  refine k _ l (hn.keep ((Sx.new hl).trans Sx.at)) hl0 (upd_same.trans rfl) ?_
  rw [upd_ne nlp, upd_same]
theorem ok_Ran_init (T : Tx w K mg) : Mak P w K mg base 1 "Ran" (He.ga K "Ran") (sp_Ran___init__ K) [] := by
  refine mak_of T.mk_Ran T.g_Ran T.D_Ran___init__ sc_Ran___init__ (fun _ _ _ _ _ _ us hl => match us, hl with | [_, _, _, _], _ => rfl) (by walk_at "len") fun cdv A outer s H vs Q E hr h => ?_
  refine ⟨_, (pss_cons (ps_fld (pv 0) (pe_callTy (r := rListOf K) call_listOf (by rfl) T.b_list (by decide +kernel) (pa_cons (pv 1) pa_nil)) rfl)
    (pss_cons (ps_fld (pv 0) (pe_callTy (r := rListOf K) call_listOf (by rfl) T.b_list (by decide +kernel) (pa_cons (pv 2) pa_nil)) rfl)
    (pss_one (ps_fld (pv 0) (pv 3) rfl)))), ?_⟩
  obtain ⟨p, dx, H0, v, u, told, pile, steps, rfl, hn, hv, hu, k⟩ := h
  obtain ⟨a, rfl, ha⟩ := IntSeq.mono hn.same hv
  obtain ⟨b, rfl, hb⟩ := hu
  walk_at "rd"
  refine ⟨a, _, rfl, ha, fun l hl => ?_⟩
  have hp1 := keep_at (u := HO.lst (told.map V.int)) hn.at hl
  have nlp : l ≠ p := fun z => by rw [z, hn.at] at hl; cases hl
  have hl0 := hn.same.free hl
  refine ⟨_, _, _, hp1, T.c_Ran, T.n_Ran_told, by show 0 < 1000; decide, ?_⟩
  have s1 : Same H0 (upd (upd H l (.lst (told.map V.int))) p (.ins (He.ga K "Ran") dx (putF (Str.ofString "told") (.ref l) []))) := hn.keep ((Sx.new hl).trans Sx.at)
  have el : upd (upd H l (.lst (told.map V.int))) p (.ins (He.ga K "Ran") dx (putF (Str.ofString "told") (.ref l) [])) l = some (.lst (told.map V.int)) := by rw [upd_ne nlp, upd_same]
  have ep : upd (upd H l (.lst (told.map V.int))) p (.ins (He.ga K "Ran") dx (putF (Str.ofString "told") (.ref l) [])) p = some (.ins (He.ga K "Ran") dx (putF (Str.ofString "told") (.ref l) [])) := upd_same
  refine ⟨b, _, rfl, hb.imp (sqL_same s1) (sqT_same s1), fun l2 hl2 => ⟨_, _, _, keep_at ep hl2, T.c_Ran, T.n_Ran_pile, by show 1 < 1000; decide, _, _, _, rfl, T.c_Ran, T.n_Ran_steps, by show 2 < 1000; decide, ?_⟩⟩
  have n12 : l ≠ l2 := ne_of_none el hl2
  have n2p : l2 ≠ p := (ne_of_none ep hl2).symm
  refine k _ l l2 (fun c o e => ?_) hl0 (s1.free hl2) n12 (upd_same.trans rfl) ?_ ?_
  · rw [upd_ne (ne_of_none e hn.2.1), upd_ne (ne_of_none (s1 _ _ e) hl2)]
    exact s1 _ _ e
  · rw [upd_ne nlp, upd_ne n12, el]
  · rw [upd_ne n2p, upd_same]
theorem ok_Tally_init (T : Tx w K mg) : Mak P w K mg base 1 "Tally" (He.ga K "Tally") (sp_Tally___init__ K) [] := by
  refine mak_of T.mk_Tally T.g_Tally T.D_Tally___init__ sc_Tally___init__ (fun _ _ _ _ _ _ us hl => match us, hl with | [_, _, _, _], _ => rfl) (by walk_at "len") fun cdv A outer s H vs Q E hr h => ?_
  refine ⟨_, (pss_cons (ps_fld (pv 0) (pe_callTy (r := rListOf K) call_listOf (by rfl) T.b_list (by decide +kernel) (pa_cons (pv 1) pa_nil)) rfl)
    (pss_cons (ps_fld (pv 0) (pv 2) rfl)
    (pss_cons (ps_fld (pv 0) (pv 3) rfl)
    (pss_cons (ps_fld (pv 0) (pe_lst pa_nil) rfl)
    (pss_one (ps_fld (pv 0) pe_int rfl)))))), ?_⟩
  obtain ⟨p, dx, H0, v, ns, most, hd, rfl, hn, hv, k⟩ := h
  obtain ⟨a, rfl, ha⟩ := IntSeq.mono hn.same hv
  walk_at "rd"
  refine ⟨a, _, rfl, ha, fun l hl => ?_⟩
  have hp1 := keep_at (u := HO.lst (ns.map V.int)) hn.at hl
  have nlp : l ≠ p := fun z => by rw [z, hn.at] at hl; cases hl
  have hl0 := hn.same.free hl
  refine ⟨_, _, _, hp1, T.c_Tally, T.n_Tally_worths, by show 0 < 1000; decide, _, _, _, rfl, T.c_Tally, T.n_Tally_most, by show 1 < 1000; decide, _, _, _, rfl, T.c_Tally, T.n_Tally_heard, by show 2 < 1000; decide, by rw [sizeLine_eq]; omega, fun l2 hl2 => ?_⟩
  have ep := keep_at (u := HO.lst []) (upd_same (H := upd H l (.lst (ns.map V.int))) (a := p) (o := .ins (He.ga K "Tally") dx [(Str.ofString "worths", .ref l), (Str.ofString "most", .int most), (Str.ofString "heard", hd)])) hl2
  refine ⟨_, _, _, ep, T.c_Tally, T.n_Tally_told_so_far, by show 3 < 1000; decide, _, _, _, rfl, T.c_Tally, T.n_Tally_steps_done, by show 4 < 1000; decide, ?_⟩
  have s1 : Same H0 (upd (upd H l (.lst (ns.map V.int))) p (.ins (He.ga K "Tally") dx [(Str.ofString "worths", .ref l), (Str.ofString "most", .int most), (Str.ofString "heard", hd)])) := hn.keep ((Sx.new hl).trans Sx.at)
  have el : upd (upd H l (.lst (ns.map V.int))) p (.ins (He.ga K "Tally") dx [(Str.ofString "worths", .ref l), (Str.ofString "most", .int most), (Str.ofString "heard", hd)]) l = some (.lst (ns.map V.int)) := by rw [upd_ne nlp, upd_same]
  have n12 : l ≠ l2 := ne_of_none el hl2
  have n2p : l2 ≠ p := (ne_of_none upd_same hl2).symm
  refine k _ l l2 (fun c o e => ?_) hl0 (s1.free hl2) n12 (upd_same.trans rfl) ?_ ?_
  · rw [upd_ne (ne_of_none e hn.2.1)]
    refine (upd_ne (ne_of_none (s1 _ _ e) hl2)).trans ?_
    exact s1 _ _ e
  · rw [upd_ne nlp]
    exact (upd_ne n12).trans el
  · rw [upd_ne n2p]
    exact upd_same
theorem ok_Tally_step (T : Tx w K mg) : Met P w K mg base 1 (He.ga K "Tally") "step" (sp_Tally_step K) [] := by
  refine met_of T.c_Tally T.me_Tally_step T.D_Tally_step sc_Tally_step (fun _ _ _ _ _ _ us hl => match us, hl with | [_], _ => rfl) (by walk_at "len") fun cdv A outer s H vs Q E hr h => ?_
  refine ⟨_, (pss_cons (ps_if (pt_cmpR op_eq (pe_fldK (K := K) (pv 0) rfl) (pe_fldK (K := K) (pv 0) rfl) (nomark _)) (pss_one (ps_ret pe_bl)) pss_nil)
    (pss_cons (ps_fldaug (pv 0) pe_int in_add)
    (pss_one (ps_ret pe_bl)))), ?_⟩
  obtain ⟨p, dx, wl, tl, most, steps, hd, rfl, hp, k⟩ := h
  walk_at "rd"
  refine ⟨_, _, _, hp, T.c_Tally, T.n_Tally_steps_done, _, rfl, _, _, _, hp, T.c_Tally, T.n_Tally_most, _, rfl, rfl, ?_⟩
  by_cases e : steps = most
  · rw [if_pos e] at k
    rw [if_pos (by rw [e])]
    exact k
  · rw [if_neg e] at k
    rw [if_neg fun z => e (V.int.inj z)]
    exact ⟨_, _, _, hp, T.c_Tally, T.n_Tally_steps_done, _, rfl, _, rfl, _, _, hp, by show 5 < 1000; decide, k⟩
theorem ok_Tally_tell (T : Tx w K mg) : Met P w K mg base 1 (He.ga K "Tally") "tell" (sp_Tally_tell K) [] := by
  refine met_of T.c_Tally T.me_Tally_tell T.D_Tally_tell sc_Tally_tell (fun _ _ _ _ _ _ us hl => match us, hl with | [_, _], _ => rfl) (by walk_at "len") fun cdv A outer s H vs Q E hr h => ?_
  refine ⟨_, (pss_cons (ps_expr (pe_bm PySem.F.plainAttrs_list PySem.F.slot_list_append PySem.F.type_list_append mt_append (pe_fldK (K := K) (pv 0) rfl) (pa_cons (pv 1) pa_nil)))
    (pss_one (ps_if (pt_cmpR op_notN (pe_fldK (K := K) (pv 0) rfl) pe_non (nomark _)) (pss_one ps_never) pss_nil))), ?_⟩
  obtain ⟨p, dx, wl, tl, most, steps, told, n, rfl, hp, ht, hz, k⟩ := h
  walk_at "rd"
  refine ⟨_, _, _, hp, T.c_Tally, T.n_Tally_told_so_far, _, rfl, .inl ⟨rfl, _, SqL.of ht⟩, ?_⟩
  have nlp : tl ≠ p := ne_of ht hp (by intro z; cases z)
  refine ⟨tl, _, _, rfl, rfl, ht, by rw [List.length_map]; exact hz, ?_⟩
  refine ⟨_, _, _, (upd_ne (Ne.symm nlp)).trans hp, T.c_Tally, T.n_Tally_heard, _, rfl, ?_⟩
  rw [if_neg (by decide)]
  rw [List.map_append] at k
  exact k
theorem ok_Tally_hear (T : Tx w K mg) : Met P w K mg base 1 (He.ga K "Tally") "hear" (sp_Tally_hear K) [] := by
  refine met_of T.c_Tally T.me_Tally_hear T.D_Tally_hear sc_Tally_hear (fun _ _ _ _ _ _ us hl => match us, hl with | [_], _ => rfl) (by walk_at "len") fun cdv A outer s H vs Q E hr h => ?_
  refine ⟨_, (pss_one (ps_ret (pe_ifExp (pt_cmpR (r := rNeD K) (op_neD hr.units) (pe_fldK (K := K) (pv 0) rfl) (pe_lst pa_nil) (nomark _)) (pe_bm PySem.F.plainAttrs_list PySem.F.slot_list_pop PySem.F.type_list_pop mt_popAt (pe_fldK (K := K) (pv 0) rfl) (pa_cons pe_int pa_nil)) pe_non))), ?_⟩
  obtain ⟨p, dx, wl, tl, most, steps, hd, ns, rfl, hp, hw, k⟩ := h
  walk_at "rd"
  refine ⟨_, _, _, hp, T.c_Tally, T.n_Tally_worths, _, rfl, by rw [sizeLine_eq]; omega, fun q hq => ?_⟩
  have s1 := same_new (o := HO.lst []) hq
  have hp1 := s1 _ _ hp
  have hw1 := s1 _ _ hw
  have hq1 : upd H q (HO.lst []) q = some (.lst []) := upd_same
  generalize upd H q (HO.lst []) = H1 at *
  refine a_neD (d := .list (ns.map PyData.int)) (e := .list []) (.lst (SqL.of hw1) (DpAll.ints ns)) (.lst (SqL.of hq1) .nil) (shaped_of (n := 1) (shp_list fun d hd => ?_) (by decide)) rfl ?_
  · obtain ⟨i, _, rfl⟩ := List.mem_map.mp hd
    exact shp_int
  cases ns with
  | nil => exact ⟨_, rfl, k H1 s1⟩
  | cons n r =>
    refine ⟨_, rfl, ?_⟩
    have e : (!PyData.eqv (.list ((n :: r).map PyData.int)) (.list [])) = true := by simp [PyData.eqv, PyData.eqvAll]
    rw [if_pos e]
    refine ⟨_, _, _, hp1, T.c_Tally, T.n_Tally_worths, _, rfl, .inl ⟨rfl, _, SqL.of hw1⟩, ?_⟩
    exact ⟨wl, _, 0, 0, .int n, rfl, rfl, hw1, by decide, by decide, seqIndex_0, rfl, k H1 s1⟩
end
end Pb

/-! W9 -/
set_option Elab.async false
set_option linter.all false
set_option maxRecDepth 100000
set_option maxHeartbeats 4000000
namespace Pb
open PySem PySem.Spec PyProof.Rows L2
open C8 (Cal Mak Met pe_c pe_mk pe_mt pe_mt0 pe_gc fnScope_by)
/-! short words -/
local macro_rules | `(tactic| walk_at "rd") => `(tactic| try simp only [tVar, tC, tAdd, tSub, t2I, tIsN, tNotN, tB, tAnd, tOr, tNot, tAndV, tOrV, tNotV, tIf, tSeq, tPar, tPar3, tNext, tBreak, tCont, tDrop, tRet, tRetN, tIfS, gName, gNil, gCons, gTup, gSub, tAsg, tAug, ipI, iList, iTup, iRng1, iRng2, iStr, iEnum, iZip,
  tOp, tUn, rI, rI0, rU, tTest, tChain, tFld, sFld, sFldAug, L2.rAdd, L2.rSub, tNil, tCons, tTup, tLst, tCall, tMeth, tMake, tCB, tNoPart, tPart, tSl, tBM0, tBM, tDGet, tDGet1, tDGet2, tDIn, tDNotIn, sDPut, tDNewK, rEq, rNe, scal_ii, scal_ss, scal_bb, scal_nn, scal_ni, scal_in, scal_ns, scal_sn, scal_is, scal_si, List.take_succ_cons, List.take_zero, List.drop_succ_cons, List.drop_zero, upd_same, upd_upd, and_assoc, tKGet, gStar, tDisp, tPairs, tYes,
  L2.start, List.map_cons, List.map_nil, List.length_cons, List.length_nil, List.cons_append, List.nil_append, List.append_nil, List.replicate, Nat.sub_self, Nat.add_sub_cancel, Nat.reduceAdd, Nat.reduceSub, List.set_cons_zero, List.set_cons_succ, List.getElem?_cons_zero, List.getElem?_cons_succ,
  Option.some.injEq, V.int.injEq, V.bl.injEq, V.str.injEq, V.ref.injEq, exists_eq_left', exists_eq_left, exists_eq', exists_eq, true_and, and_true, if_true, if_false, Bool.false_eq_true, List.cons.injEq, Bool.not_true, Bool.not_false, cxK, cxP, cxW, ite_true, ite_false, wipe, reduceCtorEq, and_self, decide_true, decide_false, exists_and_left, exists_const, decide_eq_true_eq])
local macro_rules | `(tactic| walk_at "len") => `(tactic| (intro vs H Q E h; repeat (first | (obtain ⟨e, _⟩ := h; subst e; rfl) | (obtain ⟨_, h⟩ := h))))
local macro_rules | `(tactic| walk_at "wd") => `(tactic| simp (config := {decide := true}) only [V.str.injEq, scal_ss, true_and, if_true, if_false])

def sp_check_run (K : PySem.W.Frag) : Sp := fun vs H Q _ => ∃ ms v ns most, vs = [v, .int most] ∧ Tk H ms ∧ IntSeq K (hide H ms) v ns ∧ ns.length < sizeLine ∧ (∀ n ∈ ns, -32768 ≤ n ∧ n ≤ 32767) ∧ 0 ≤ most ∧ most ≤ 100000 ∧ ∀ H', Same H H' → Q .non H'
def sp_next_label (K : PySem.W.Frag) : Sp := fun vs H Q _ => ∃ (ms : List Addr) (v : V) (e : Fin) (t : V), vs = [v, t] ∧ Tk H ms ∧ Dp K (hide H ms) v e.d ∧
  (match e with
  | .go l => Q (.str l) H
  | .iff a b => ∃ n, t = .int n ∧ Q (.str (if n ≠ 0 then a else b)) H
  | .stop => False)
theorem IntSeq.ty {K : PySem.W.Frag} {H : Hp} {v : V} {ns : List Int} (h : IntSeq K H v ns) : TyX K H v (.type "list") ∨ TyX K H v (.type "tuple") := by
  obtain ⟨a, rfl, h | h⟩ := h
  · exact .inl (Dp.tyx (Dp.lst h (DpAll.ints ns)))
  · exact .inr (Dp.tyx (Dp.tup h (DpAll.ints ns)))
theorem a_isLT {K : PySem.W.Frag} {H : Hp} {v : V} {p : Addr} {Q : VK} (h : TyX K H v (.type "list") ∨ TyX K H v (.type "tuple")) (e : H p = some (.tup [.ty "list", .ty "tuple"])) (q : Q (.bl true) H) : rIsiT K [v, .ref p] H Q := by
  have ps : Paired ClsV [V.ty "list", V.ty "tuple"] [.type "list", .type "tuple"] := .cons (.ty _) (.cons (.ty _) .nil)
  rcases h with h | h
  · exact ⟨v, p, _, _, _, true, rfl, e, ps, h, kitAny_cons (b := true) (kit_ty (by decide +kernel)) (fun z => by cases z) (fun _ => rfl), q⟩
  · exact ⟨v, p, _, _, _, true, rfl, e, ps, h, kitAny_cons (b := false) (kit_ty (by decide +kernel)) (fun _ => kitAny_cons (b := true) (kit_ty (by decide +kernel)) (fun z => by cases z) (fun _ => rfl)) (fun z => by cases z), q⟩
section
variable {P : Program} {w : World} {K : PySem.W.Frag} {mg : Str → Option Value} {base : Heap}
theorem ok_next_label (T : Tx w K mg) : Cal P w K mg base 1 "next_label" (sp_next_label K) [] := by
  refine cal_of T.D_next_label T.g_next_label sc_next_label (fun _ _ _ _ _ _ us hl => match us, hl with | [_, _], _ => rfl) (by walk_at "len") fun cdv A outer s H vs Q E hr h => ?_
  refine ⟨_, (pss_cons (ps_if (pt_cmpR op_eq (pe_ix (r := rIx K) ix_seq (pv 0) pe_int (fun _ _ => rfl)) pe_str (nomark _)) (pss_one (ps_ret (pe_ix (r := rIx K) ix_seq (pv 0) pe_int (fun _ _ => rfl)))) pss_nil)
    (pss_one (ps_ret (pe_ifExp (pt_cmpR op_ne (pv 1) pe_int (nomark _)) (pe_ix (r := rIx K) ix_seq (pv 0) pe_int (fun _ _ => rfl)) (pe_ix (r := rIx K) ix_seq (pv 0) pe_int (fun _ _ => rfl)))))), ?_⟩
  obtain ⟨ms, v, e, t, rfl, tk, hd, k⟩ := h
  replace hd := Dp.mono same_show hd
  walk_at "rd"
  cases e with
  | go l =>
    refine a_ixT hd atI_0 fun u hu => ?_
    cases hu
    refine ⟨rfl, ?_⟩
    rw [if_pos (show V.str (Fin.go l).word = V.str (Str.ofString "go") from rfl)]
    refine a_ixT hd atI_1 fun u hu => ?_
    cases hu
    exact k
  | iff a b =>
    obtain ⟨n, rfl, k⟩ := k
    refine a_ixT hd atI_0 fun u hu => ?_
    cases hu
    refine ⟨rfl, ?_⟩
    rw [if_neg (by simp only [Fin.word]; decide +kernel)]
    refine ⟨rfl, ?_⟩
    by_cases e : n = 0
    · rw [if_neg (by simp [e])]
      refine a_ixT hd atI_2 fun u hu => ?_
      cases hu
      rw [if_neg (by simp [e])] at k
      exact k
    · rw [if_pos (by simp [e])]
      refine a_ixT hd atI_1 fun u hu => ?_
      cases hu
      rw [if_pos e] at k
      exact k
  | stop => exact k.elim
theorem ok_check_run (T : Tx w K mg) (F_is_worth : Cal P w K mg base 3 "is_worth" (sp_is_worth K) []) (F_within : Cal P w K mg base 2 "within" (sp_within K) []) : Cal P w K mg base 4 "check_run" (sp_check_run K) [] := by
  refine cal_of T.D_check_run T.g_check_run sc_check_run (fun _ _ _ _ _ _ us hl => match us, hl with | [_, _], _ => rfl) (by walk_at "len") fun cdv A outer s H vs Q E hr h => ?_
  refine ⟨_, (pss_cons (ps_if (PW.pt (pw_or (pt_not (pt_val (pe_callB (r := rIsiT K) call_isiT (by rfl) T.b_isinstance (by decide +kernel) (pa_cons (pv 0) (pa_cons (pe_tup (pa_cons (pe_bltn (v := .ty "list") (by rfl) T.b_list (by decide +kernel) rfl) (pa_cons (pe_bltn (v := .ty "tuple") (by rfl) T.b_tuple (by decide +kernel) rfl) pa_nil))) pa_nil))))) (pw_or1 (pt_not (pt_val (pe_callB (r := rAll K) (cr_all rfl) (by rfl) T.b_all (by decide +kernel) (pa_cons (pe_lc rfl sc_check_run.nd (pi_seq (K := K) (pv 0)) (blkOk_by (own := [("one", 2)]) (N := ["worths", "most", "one"]) (sc := L2.defScope s_check_run) (by decide +kernel)) (fun _ _ _ _ _ => (pg_m (pg_name (i := 2) sc_check_run.nd rfl (by first | exact Or.inl rfl | exact Or.inr rfl)))) (fun _ _ _ _ _ => pts_nilM) (fun _ _ _ _ _ => (pe_m (pe_c F_is_worth hr (by decide) (by rfl) (pa_cons (pv 2) pa_nil))))) pa_nil))))))) (pss_one ps_never) pss_nil)
    (pss_one (ps_if (pt_not (pt_val (pe_c F_within hr (by decide) (by rfl) (pa_cons (pv 1) (pa_cons pe_int (pa_cons (pe_gc (by rfl) T.v_GREATEST_MOST) pa_nil)))))) (pss_one ps_never) pss_nil))), ?_⟩
  obtain ⟨ms, v, ns, most, rfl, tk, hv, hz, hr, h0, h1, k⟩ := h
  walk_at "rd"
  refine ⟨by rw [sizeLine_eq]; omega, fun p hp => ?_⟩
  have s1 := same_new (o := HO.tup [V.ty "list", V.ty "tuple"]) hp
  have e1 : upd H p (HO.tup [V.ty "list", V.ty "tuple"]) p = some (.tup [V.ty "list", V.ty "tuple"]) := upd_same
  have hv1 := IntSeq.mono (same_show.trans s1) hv
  have tk1 := tk.same s1
  generalize upd H p (HO.tup [V.ty "list", V.ty "tuple"]) = H1 at *
  refine a_isLT hv1.ty e1 ?_
  walk_at "rd"
  refine a_lc ?_
  walk_at "rd"
  obtain ⟨a, rfl, hs⟩ := hv1
  have fin : ∀ (J : It) (G : Hp → Prop), Walk J (ns.map V.int).length G (YAt (ns.map V.int)) → (∀ H2, Same H1 H2 → G H2) → ∀ D, H1 D = none → LcGoal (gName 2) tYes (tCall (sp_is_worth K) [] C8.E0 (tCons (tVar 2) tNil)) [2] [some (V.ref a), some (V.int most), none] J H1 D fun H' =>
      rAll K [V.ref D] H' fun x H1 => ∃ c, x = V.bl c ∧ if (!c) = true then tNever { nx := tIfS (tNot (tB (tCall (sp_within K) [] C8.E0 (tCons (tVar 1) (tCons (tC (V.int 0)) (tCons (tC (V.int 100000)) tNil)))))) tNever tNext { nx := fun x H' => Q V.non H', rt := Q }, rt := Q } [some (V.ref a), some (V.int most), none] H1
        else (sp_within K) [V.int most, V.int 0, V.int 100000] H1 (fun x H1 => ∃ c, x = V.bl c ∧ if (!c) = true then tNever { nx := fun x H' => Q V.non H', rt := Q } [some (V.ref a), some (V.int most), none] H1 else Q V.non H1) C8.E0 := by
    intro J G wk hG D hD
    refine lc_data (K := K) (ds := ns.map PyData.int) (ms := []) wk hD Tk.nil (by rw [List.length_map]; exact hz) (by rw [hide_nil]; exact DpAll.ints ns) hG (fun _ => true) (fun _ => .bool true) (fun y d H4 hd4 s4 hD4 hy => ?_) (fun H4 ys s4 e4 hys => ?_)
    · obtain ⟨n, hn, rfl⟩ := List.mem_map.mp hd4
      walk_at "rd"
      refine ⟨fun z => z.elim, fun _ => ⟨[], y, _, rfl, Tk.nil, by rw [hide_nil]; exact Dp.mono same_show hy, fun H5 s5 => ⟨s5, ?_⟩⟩⟩
      have e : within (.int n) (-32768) 32767 = true := by
        show (decide (-32768 ≤ n) && decide (n ≤ 32767)) = true
        rw [decide_eq_true (hr n hn).1, decide_eq_true (hr n hn).2]; rfl
      rw [e]
      exact .bl true
    · rw [List.filter_eq_self.mpr fun _ _ => rfl] at hys
      have e2 : (ns.map PyData.int).map (fun _ => PyData.bool true) = (ns.map fun _ => true).map PyData.bool := by rw [List.map_map, List.map_map]; rfl
      rw [e2] at hys
      refine a_all (bs := ns.map fun _ => true) (.lst (SqL.of e4) (DpAll.mono same_show hys)) ?_
      have e3 : (ns.map fun _ => true).all id = true := by simp
      rw [e3]
      refine ⟨_, rfl, ?_⟩
      rw [if_neg (by decide)]
      refine ⟨[], _, .int most, 0, 100000, rfl, Tk.nil, .int most, fun H5 s5 => ⟨_, rfl, ?_⟩⟩
      have e : within (.int most) 0 100000 = true := by
        show (decide (0 ≤ most) && decide (most ≤ 100000)) = true
        rw [decide_eq_true h0, decide_eq_true h1]; rfl
      rw [e, if_neg (by decide)]
      exact k _ (s1.trans (s4.trans s5))
  unfold iSeq
  walk_at "rd"
  rcases hs with hs | hs
  · exact .inl ⟨⟨_, hs⟩, fun D hD => fin _ _ walk_list (fun H2 s2 => sqL_same s2 hs) D hD⟩
  · exact .inr ⟨⟨_, hs⟩, fun D hD => fin _ _ walk_tup (fun H2 s2 => sqT_same s2 hs) D hD⟩
end
end Pb

/-! W10a -/
set_option Elab.async false
set_option linter.all false
set_option maxRecDepth 100000
set_option maxHeartbeats 4000000
namespace Pb
open PySem PySem.Spec PyProof.Rows L2
open C8 (Cal Mak Met pe_c pe_mk pe_mt pe_mt0 pe_gc fnScope_by)
/-! short words -/
local macro_rules | `(tactic| walk_at "rd") => `(tactic| try simp only [tVar, tC, tAdd, tSub, t2I, tIsN, tNotN, tB, tAnd, tOr, tNot, tAndV, tOrV, tNotV, tIf, tSeq, tPar, tPar3, tNext, tBreak, tCont, tDrop, tRet, tRetN, tIfS, gName, gNil, gCons, gTup, gSub, tAsg, tAug, ipI, iList, iTup, iRng1, iRng2, iStr, iEnum, iZip,
  tOp, tUn, rI, rI0, rU, tTest, tChain, tFld, sFld, sFldAug, L2.rAdd, L2.rSub, tNil, tCons, tTup, tLst, tCall, tMeth, tMake, tCB, tNoPart, tPart, tSl, tBM0, tBM, tDGet, tDGet1, tDGet2, tDIn, tDNotIn, sDPut, tDNewK, rEq, rNe, scal_ii, scal_ss, scal_bb, scal_nn, scal_ni, scal_in, scal_ns, scal_sn, scal_is, scal_si, List.take_succ_cons, List.take_zero, List.drop_succ_cons, List.drop_zero, upd_same, upd_upd, and_assoc, tKGet, gStar, tDisp, tPairs, tYes,
  L2.start, List.map_cons, List.map_nil, List.length_cons, List.length_nil, List.cons_append, List.nil_append, List.append_nil, List.replicate, Nat.sub_self, Nat.add_sub_cancel, Nat.reduceAdd, Nat.reduceSub, List.set_cons_zero, List.set_cons_succ, List.getElem?_cons_zero, List.getElem?_cons_succ,
  Option.some.injEq, V.int.injEq, V.bl.injEq, V.str.injEq, V.ref.injEq, exists_eq_left', exists_eq_left, exists_eq', exists_eq, true_and, and_true, if_true, if_false, Bool.false_eq_true, List.cons.injEq, Bool.not_true, Bool.not_false, cxK, cxP, cxW, ite_true, ite_false, wipe, reduceCtorEq, and_self, decide_true, decide_false, exists_and_left, exists_const, decide_eq_true_eq])
local macro_rules | `(tactic| walk_at "len") => `(tactic| (intro vs H Q E h; repeat (first | (obtain ⟨e, _⟩ := h; subst e; rfl) | (obtain ⟨_, h⟩ := h))))
local macro_rules | `(tactic| walk_at "wd") => `(tactic| simp (config := {decide := true}) only [V.str.injEq, scal_ss, true_and, if_true, if_false])

/-! ### what a run is -/
structure RSt where
  told : List Int
  ws : List Int
  pile : List Int
  steps : Nat
inductive Outcome where
  | ran (told pile : List Int) (steps : Nat) | dry (told : List Int) (label : Str) (row : Nat) | spent (told : List Int)
def popped (ns : List Int) : List Int := ns.take (ns.length - 1)
def rowsRun (most : Nat) (l : Str) : List Row → Nat → RSt → Outcome ⊕ RSt
  | [], _, s => .inr s
  | r :: rs, i, s =>
    if s.steps = most then .inl (.spent s.told)
    else match r with
      | .tell => rowsRun most l rs (i + 1) ⟨s.told ++ [topN s.pile 0], s.ws, popped s.pile, s.steps + 1⟩
      | .hear => (match s.ws with
        | [] => .inl (.dry s.told l i)
        | w :: ws => rowsRun most l rs (i + 1) ⟨s.told, ws, s.pile ++ [w], s.steps + 1⟩)
      | r => rowsRun most l rs (i + 1) ⟨s.told, s.ws, doneOn s.pile r, s.steps + 1⟩
/-- behind a block's rows; k: what follows -/
def finRun (most : Nat) (e : Fin) (k : Str → RSt → Outcome) (s : RSt) : Outcome :=
  if s.steps = most then .spent s.told
  else match e with
    | .stop => .ran s.told s.pile (s.steps + 1)
    | .go l => k l ⟨s.told, s.ws, s.pile, s.steps + 1⟩
    | .iff a c => k (if topN s.pile 0 ≠ 0 then a else c) ⟨s.told, s.ws, popped s.pile, s.steps + 1⟩
def behind (most : Nat) (e : Fin) (k : Str → RSt → Outcome) : Outcome ⊕ RSt → Outcome
  | .inl o => o
  | .inr s => finRun most e k s
def blkAt (bs : List Blk) (l : Str) : Option Blk := bs.find? fun b => decide (b.label = l)
def runFrom (bs : List Blk) (most : Nat) : Nat → Str → RSt → Outcome
  | 0, _, s => .spent s.told
  | f + 1, l, s => match blkAt bs l with
    | none => .spent s.told
    | some b => behind most b.fin (fun l s => runFrom bs most f l s) (rowsRun most l b.rows 0 s)
def firstL : List Blk → Str
  | b :: _ => b.label
  | [] => ""
def outcome (bs : List Blk) (ns : List Int) (most : Nat) : Outcome := runFrom bs most (most + 1) (firstL bs) ⟨[], ns, [], 0⟩
theorem blkAt_of : ∀ {bs : List Blk} {b : Blk}, (bs.map Blk.label).Nodup → b ∈ bs → blkAt bs b.label = some b
  | c :: bs, b, nd, hb => by
    unfold blkAt
    by_cases e : c.label = b.label
    · rw [List.find?_cons_of_pos (by exact decide_eq_true e), nodup_label nd (List.mem_cons_self ..) hb e]
    · rw [List.find?_cons_of_neg (by show ¬ decide (c.label = b.label) = true; rw [decide_eq_false e]; exact Bool.false_ne_true)]
      rcases List.mem_cons.mp hb with h | h
      · exact absurd (by rw [h]) e
      · exact blkAt_of (List.nodup_cons.mp nd).2 h
/-- worths that are worths -/
def Worths (ns : List Int) : Prop := ∀ n ∈ ns, -32768 ≤ n ∧ n ≤ 32767
theorem Worths.small {ns : List Int} (h : Worths ns) : ∀ n ∈ ns, small n := fun n hn => by
  have := h n hn
  exact ⟨by omega, by omega⟩
theorem Worths.top {ns : List Int} (h : Worths ns) {i : Nat} (hi : i < ns.length) : -32768 ≤ topN ns i ∧ topN ns i ≤ 32767 := h _ (topN_mem hi)
theorem back_range (n : Int) : -32768 ≤ back n ∧ back n ≤ 32767 := by
  unfold back
  have h1 := Int.emod_nonneg (n + 32768) (show (65536 : Int) ≠ 0 by decide)
  have h2 := Int.emod_lt_of_pos (n + 32768) (show (0 : Int) < 65536 by decide)
  omega
theorem Worths.take {ns : List Int} (h : Worths ns) (k : Nat) : Worths (ns.take k) := fun n hn => h n (List.mem_of_mem_take hn)
theorem Worths.append {ns ms : List Int} (h : Worths ns) (g : Worths ms) : Worths (ns ++ ms) := fun n hn => (List.mem_append.mp hn).elim (h n) (g n)
theorem Worths.one {n : Int} (h : -32768 ≤ n ∧ n ≤ 32767) : Worths [n] := fun m hm => by rw [List.mem_singleton.mp hm]; exact h
theorem two_len {ns : List Int} {f : Int → Int → Int} (h : 2 ≤ ns.length) : ((two ns f).length : Int) = ns.length + (-1) := by
  unfold two
  rw [List.length_append, List.length_take, List.length_singleton]
  omega
theorem doneOn_len {ns : List Int} {r : Row} (ht : r.touch ≤ ns.length) (hp : r.plain = true) : ((doneOn ns r).length : Int) = ns.length + r.more := by
  cases r <;> simp only [Row.touch] at ht <;> simp only [doneOn, Row.more] <;> first
    | (exact two_len ht)
    | (simp only [List.length_append, List.length_take, List.length_cons, List.length_nil]; omega)
    | (cases hp)
theorem doneOn_worths {ns : List Int} {r : Row} (h : Worths ns) (ht : r.touch ≤ ns.length) (hr : ∀ n, r = .put n → -32768 ≤ n ∧ n ≤ 32767) : Worths (doneOn ns r) := by
  cases r <;> simp only [Row.touch] at ht <;> simp only [doneOn]
  case put n => exact h.append (.one (hr n rfl))
  case same => exact h.append (.one (h.top (by omega)))
  case over => exact h.append (.one (h.top (by omega)))
  case swap =>
    refine (h.take _).append fun n hn => ?_
    rcases List.mem_cons.mp hn with e | hn
    · rw [e]; exact h.top (by omega)
    · rw [List.mem_singleton.mp hn]; exact h.top (by omega)
  case drop => exact h.take _
  case plus => exact (h.take _).append (.one (back_range _))
  case less => exact (h.take _).append (.one (back_range _))
  case times => exact (h.take _).append (.one (back_range _))
  case under => exact (h.take _).append (.one (by dsimp only; split <;> omega))
  all_goals exact h
theorem popped_len {ns : List Int} (h : 1 ≤ ns.length) : ((popped ns).length : Int) = ns.length + (-1) := by
  unfold popped
  rw [List.length_take]
  omega
theorem popped_worths {ns : List Int} (h : Worths ns) : Worths (popped ns) := h.take _
theorem popped_drop {ns : List Int} : (ns.map V.int).dropLast = (popped ns).map V.int := by
  unfold popped
  rw [List.dropLast_eq_take, List.length_map, List.map_take]
theorem last_top {ns : List Int} (h : 1 ≤ ns.length) : (ns.map V.int)[(ns.map V.int).length - 1]? = some (.int (topN ns 0)) := by
  have h2 : ns.length - 1 < ns.length := by omega
  rw [List.length_map, List.getElem?_map, List.getElem?_eq_getElem h2]
  unfold topN
  rw [Nat.sub_zero, List.getD_eq_getElem?_getD, List.getElem?_eq_getElem h2]
  rfl
end Pb

/-! W10 -/
set_option Elab.async false
set_option linter.all false
set_option maxRecDepth 100000
set_option maxHeartbeats 4000000
namespace Pb
open PySem PySem.Spec PyProof.Rows L2
open C8 (Cal Mak Met pe_c pe_mk pe_mt pe_mt0 pe_gc fnScope_by)
/-! short words -/
local macro_rules | `(tactic| walk_at "rd") => `(tactic| try simp only [tVar, tC, tAdd, tSub, t2I, tIsN, tNotN, tB, tAnd, tOr, tNot, tAndV, tOrV, tNotV, tIf, tSeq, tPar, tPar3, tNext, tBreak, tCont, tDrop, tRet, tRetN, tIfS, gName, gNil, gCons, gTup, gSub, tAsg, tAug, ipI, iList, iTup, iRng1, iRng2, iStr, iEnum, iZip,
  tOp, tUn, rI, rI0, rU, tTest, tChain, tFld, sFld, sFldAug, L2.rAdd, L2.rSub, tNil, tCons, tTup, tLst, tCall, tMeth, tMake, tCB, tNoPart, tPart, tSl, tBM0, tBM, tDGet, tDGet1, tDGet2, tDIn, tDNotIn, sDPut, tDNewK, rEq, rNe, scal_ii, scal_ss, scal_bb, scal_nn, scal_ni, scal_in, scal_ns, scal_sn, scal_is, scal_si, List.take_succ_cons, List.take_zero, List.drop_succ_cons, List.drop_zero, upd_same, upd_upd, and_assoc, tKGet, gStar, tDisp, tPairs, tYes,
  L2.start, List.map_cons, List.map_nil, List.length_cons, List.length_nil, List.cons_append, List.nil_append, List.append_nil, List.replicate, Nat.sub_self, Nat.add_sub_cancel, Nat.reduceAdd, Nat.reduceSub, List.set_cons_zero, List.set_cons_succ, List.getElem?_cons_zero, List.getElem?_cons_succ,
  Option.some.injEq, V.int.injEq, V.bl.injEq, V.str.injEq, V.ref.injEq, exists_eq_left', exists_eq_left, exists_eq', exists_eq, true_and, and_true, if_true, if_false, Bool.false_eq_true, List.cons.injEq, Bool.not_true, Bool.not_false, cxK, cxP, cxW, ite_true, ite_false, wipe, reduceCtorEq, and_self, decide_true, decide_false, exists_and_left, exists_const, decide_eq_true_eq])
local macro_rules | `(tactic| walk_at "len") => `(tactic| (intro vs H Q E h; repeat (first | (obtain ⟨e, _⟩ := h; subst e; rfl) | (obtain ⟨_, h⟩ := h))))
local macro_rules | `(tactic| walk_at "wd") => `(tactic| simp (config := {decide := true}) only [V.str.injEq, scal_ss, true_and, if_true, if_false])

def IsAns (K : PySem.W.Frag) (H0 H' : Hp) (q : Addr) : Outcome → Prop
  | .ran told pile n => ∃ dx tl pl, H' q = some (.ins (He.ga K "Ran") dx (ranF tl pl n)) ∧ H0 tl = none ∧ H0 pl = none ∧ tl ≠ pl ∧ H' tl = some (.lst (told.map V.int)) ∧ H' pl = some (.lst (pile.map V.int))
  | .dry told l i => ∃ dx tl, H' q = some (.ins (He.ga K "Dry") dx (dryF tl l i)) ∧ H0 tl = none ∧ H' tl = some (.lst (told.map V.int))
  | .spent told => ∃ dx tl, H' q = some (.ins (He.ga K "Spent") dx (spentF tl)) ∧ H0 tl = none ∧ H' tl = some (.lst (told.map V.int))
def sp_run (K : PySem.W.Frag) : Sp := fun vs H Q _ => ∃ p wv bs h ns, ∃ most : Nat, vs = [.ref p, wv, .int most] ∧ IsCode K H p bs h ∧ Good bs h ∧ IntSeq K H wv ns ∧ ns.length < sizeLine ∧ Worths ns ∧ most ≤ 100000 ∧ ∀ H' q, Same H H' → H q = none → IsAns K H H' q (outcome bs ns most) → Q (.ref q) H'
/-- what stands while a run goes on -/
structure Going (K : PySem.W.Frag) (H0 H : Hp) (most : Nat) (tp dx wl tl pl : Addr) (s : RSt) : Prop where
  same : Same H0 H
  ntp : H0 tp = none
  nwl : H0 wl = none
  ntl : H0 tl = none
  npl : H0 pl = none
  atp : H tp = some (.ins (He.ga K "Tally") dx (tallyF wl tl most s.steps .non))
  awl : H wl = some (.lst (s.ws.map V.int))
  atl : H tl = some (.lst (s.told.map V.int))
  apl : H pl = some (.lst (s.pile.map V.int))
  wt : wl ≠ tl
  wp : wl ≠ pl
  tp' : tl ≠ pl
  le : s.steps ≤ most
  told : s.told.length ≤ s.steps
  pw : Worths s.pile
  ww : Worths s.ws
  deep : s.pile.length ≤ 1000
section
variable {K : PySem.W.Frag} {H0 H H' : Hp} {most : Nat} {tp dx wl tl pl pl' : Addr} {s s' : RSt}
theorem Going.next (g : Going K H0 H most tp dx wl tl pl s) (sx : Sx [tp, wl, tl, pl] H H') (n : H0 pl' = none) (a1 : H' tp = some (.ins (He.ga K "Tally") dx (tallyF wl tl most s'.steps .non))) (a2 : H' wl = some (.lst (s'.ws.map V.int))) (a3 : H' tl = some (.lst (s'.told.map V.int)))
    (a4 : H' pl' = some (.lst (s'.pile.map V.int))) (d1 : wl ≠ pl') (d2 : tl ≠ pl') (e1 : s'.steps ≤ most) (e2 : s'.told.length ≤ s'.steps) (e3 : Worths s'.pile) (e4 : Worths s'.ws) (e5 : s'.pile.length ≤ 1000) : Going K H0 H' most tp dx wl tl pl' s' where
  same := fun b o e => sx b o (fun z => by
    rcases List.mem_cons.mp z with z | z
    · rw [z, g.ntp] at e; cases e
    rcases List.mem_cons.mp z with z | z
    · rw [z, g.nwl] at e; cases e
    rcases List.mem_cons.mp z with z | z
    · rw [z, g.ntl] at e; cases e
    · rw [List.mem_singleton.mp z, g.npl] at e; cases e) (g.same b o e)
  ntp := g.ntp
  nwl := g.nwl
  ntl := g.ntl
  npl := n
  atp := a1
  awl := a2
  atl := a3
  apl := a4
  wt := g.wt
  wp := d1
  tp' := d2
  le := e1
  told := e2
  pw := e3
  ww := e4
  deep := e5
theorem Going.tw (g : Going K H0 H most tp dx wl tl pl s) : tp ≠ wl := ne_of g.atp g.awl (by intro z; cases z)
theorem Going.tt (g : Going K H0 H most tp dx wl tl pl s) : tp ≠ tl := ne_of g.atp g.atl (by intro z; cases z)
theorem Going.tq (g : Going K H0 H most tp dx wl tl pl s) : tp ≠ pl := ne_of g.atp g.apl (by intro z; cases z)
theorem Going.grow (g : Going K H0 H most tp dx wl tl pl s) (x : Same H H') : Going K H0 H' most tp dx wl tl pl s :=
  g.next (Sx.of x) g.npl (x _ _ g.atp) (x _ _ g.awl) (x _ _ g.atl) (x _ _ g.apl) g.wp g.tp' g.le g.told g.pw g.ww g.deep
/-- a step is counted -/
theorem Going.step (g : Going K H0 H most tp dx wl tl pl s) (h : s.steps ≠ most) : Going K H0 (upd H tp (.ins (He.ga K "Tally") dx (tallyF wl tl most ((s.steps : Int) + 1) .non))) most tp dx wl tl pl ⟨s.told, s.ws, s.pile, s.steps + 1⟩ :=
  g.next (Sx.upd (List.mem_cons_self ..)) g.npl upd_same ((upd_ne g.tw.symm).trans g.awl) ((upd_ne g.tt.symm).trans g.atl) ((upd_ne g.tq.symm).trans g.apl) g.wp g.tp' (by have := g.le; show s.steps + 1 ≤ most; omega) (by have := g.told; show s.told.length ≤ s.steps + 1; omega) g.pw g.ww g.deep
end
theorem Row.word_tell {r : Row} (h : r ≠ .tell) : ¬ V.str r.word = V.str (Str.ofString "tell") := by
  cases r <;> first
    | exact absurd rfl h
    | (simp only [Row.word]; decide +kernel)
theorem Row.word_hear {r : Row} (h : r ≠ .hear) : ¬ V.str r.word = V.str (Str.ofString "hear") := by
  cases r <;> first
    | exact absurd rfl h
    | (simp only [Row.word]; decide +kernel)
theorem Row.plain_of {r : Row} (h1 : r ≠ .tell) (h2 : r ≠ .hear) : r.plain = true := by
  cases r <;> first
    | rfl
    | exact absurd rfl h1
    | exact absurd rfl h2
theorem rowsRun_stop {most : Nat} {l : Str} {r : Row} {rs : List Row} {i : Nat} {s : RSt} (hs : s.steps = most) : rowsRun most l (r :: rs) i s = .inl (.spent s.told) := by
  cases r <;> simp [rowsRun, hs]
theorem rowsRun_tell {most : Nat} {l : Str} {rs : List Row} {i : Nat} {s : RSt} (hs : s.steps ≠ most) : rowsRun most l (.tell :: rs) i s = rowsRun most l rs (i + 1) ⟨s.told ++ [topN s.pile 0], s.ws, popped s.pile, s.steps + 1⟩ := by
  simp [rowsRun, hs]
theorem rowsRun_dry {most : Nat} {l : Str} {rs : List Row} {i : Nat} {s : RSt} (hs : s.steps ≠ most) (e : s.ws = []) : rowsRun most l (.hear :: rs) i s = .inl (.dry s.told l i) := by
  simp [rowsRun, hs, e]
theorem rowsRun_hear {most : Nat} {l : Str} {rs : List Row} {i : Nat} {s : RSt} {w : Int} {ws : List Int} (hs : s.steps ≠ most) (e : s.ws = w :: ws) : rowsRun most l (.hear :: rs) i s = rowsRun most l rs (i + 1) ⟨s.told, ws, s.pile ++ [w], s.steps + 1⟩ := by
  simp [rowsRun, hs, e]
theorem rowsRun_plain {most : Nat} {l : Str} {r : Row} {rs : List Row} {i : Nat} {s : RSt} (h1 : r ≠ .tell) (h2 : r ≠ .hear) (hs : s.steps ≠ most) : rowsRun most l (r :: rs) i s = rowsRun most l rs (i + 1) ⟨s.told, s.ws, doneOn s.pile r, s.steps + 1⟩ := by
  cases r <;> first
    | exact absurd rfl h1
    | exact absurd rfl h2
    | simp [rowsRun, hs]
def RunInv (K : PySem.W.Frag) (H : Hp) (bs : List Blk) (h : Str → Int) (ns : List Int) (most : Nat) (p : Addr) (wv : V) (tp dx wl tl : Addr) (m : Nat) (σ : L2.St) (H2 : Hp) : Prop := ∃ pl b s o6 o7 o8 o9 o10, σ = [some (.ref p), some wv, some (.int most), some (.ref tp), some (.ref pl), some (.str b.label), o6, o7, o8, o9, o10] ∧
  Going K H H2 most tp dx wl tl pl s ∧ runFrom bs most m b.label s = outcome bs ns most ∧ most < m + s.steps ∧ b ∈ bs ∧ (s.pile.length : Int) = h b.label
section
variable {P : Program} {w : World} {K : PySem.W.Frag} {mg : Str → Option Value} {base : Heap}
theorem ok_run (T : Tx w K mg) (F_check_run : Cal P w K mg base 4 "check_run" (sp_check_run K) []) (M_Tally : Mak P w K mg base 1 "Tally" (He.ga K "Tally") (sp_Tally___init__ K) []) (F_Code_first : Met P w K mg base 1 (He.ga K "Code") "first" (sp_Code_first K) []) (F_Tally_step : Met P w K mg base 1 (He.ga K "Tally") "step" (sp_Tally_step K) []) (F_Tally_tell : Met P w K mg base 1 (He.ga K "Tally") "tell" (sp_Tally_tell K) []) (F_Tally_hear : Met P w K mg base 1 (He.ga K "Tally") "hear" (sp_Tally_hear K) []) (F_done_on : Cal P w K mg base 3 "done_on" (sp_done_on K) []) (F_next_label : Cal P w K mg base 1 "next_label" (sp_next_label K) []) (M_Ran : Mak P w K mg base 1 "Ran" (He.ga K "Ran") (sp_Ran___init__ K) []) (M_Dry : Mak P w K mg base 1 "Dry" (He.ga K "Dry") (sp_Dry___init__ K) []) (M_Spent : Mak P w K mg base 1 "Spent" (He.ga K "Spent") (sp_Spent___init__ K) []) : KDef P w K mg base 5 "run" (sp_run K) ["code", "worths", "most"] s_run [("worths", .ref (kwdAt (He.ga K "run") "worths" K)), ("most", .int 500)] := by
  refine kdef_of T.D_run T.g_run sc_run (by walk_at "len") fun cdv A outer s H vs Q E hr h => ?_
  refine ⟨_, (pss_cons (ps_expr (pe_c F_check_run hr (by decide) (by rfl) (pa_cons (pv 1) (pa_cons (pv 2) pa_nil))))
    (pss_cons (ps_par3 (i := 3) (j := 4) (l := 5) rfl sc_run.nd rfl rfl rfl (by decide) (by decide) (by decide) rfl rfl rfl (pa_cons (pe_mk M_Tally hr (by decide) (by rfl) (pa_cons (pv 1) (pa_cons (pv 2) (pa_cons pe_non pa_nil)))) (pa_cons (pe_lst pa_nil) (pa_cons (pe_mt0 F_Code_first hr (by decide) (pv 0)) pa_nil))) rfl)
    (pss_one (ps_while PassesOwn.never (pt_val pe_bl) (pss_cons (ps_asg (pe_dget (hu_of hr) (pe_fldK (K := K) (pv 0) rfl) (pv 5) (fun _ _ => rfl)) (pg_tupK (K := K) (n := 2) rfl (pgs_cons (pg_name (i := 6) sc_run.nd rfl (by first | exact Or.inl rfl | exact Or.inr rfl)) (pgs_cons (pg_name (i := 7) sc_run.nd rfl (by first | exact Or.inl rfl | exact Or.inr rfl)) pgs_nil))))
    (pss_cons (ps_for PassesOwn.never rfl (pi_enum (by rfl) T.b_enumerate (pa_cons (pv 6) pa_nil)) (pg_tupK (K := K) (n := 2) rfl (pgs_cons (pg_name (i := 8) sc_run.nd rfl (by first | exact Or.inl rfl | exact Or.inr rfl)) (pgs_cons (pg_name (i := 9) sc_run.nd rfl (by first | exact Or.inl rfl | exact Or.inr rfl)) pgs_nil))) (pss_cons (ps_if (pt_not (pt_val (pe_mt0 F_Tally_step hr (by decide) (pv 3)))) (pss_one (ps_ret (pe_mk M_Spent hr (by decide) (by rfl) (pa_cons (pe_fldK (K := K) (pv 3) rfl) pa_nil)))) pss_nil)
    (pss_one (ps_if (pt_cmpR op_eq (pe_ix (r := rIx K) ix_seq (pv 9) pe_int (fun _ _ => rfl)) pe_str (nomark _)) (pss_one (ps_expr (pe_mt F_Tally_tell hr (by decide) (pv 3) (pa_cons (pe_bm0 PySem.F.plainAttrs_list PySem.F.slot_list_pop PySem.F.type_list_pop mt_pop (pv 4)) pa_nil)))) (pss_one (ps_if (pt_cmpR op_eq (pe_ix (r := rIx K) ix_seq (pv 9) pe_int (fun _ _ => rfl)) pe_str (nomark _)) (pss_cons (ps_set (i := 10) sc_run.nd rfl (by first | exact Or.inl rfl | exact Or.inr rfl) (pe_mt0 F_Tally_hear hr (by decide) (pv 3)))
    (pss_cons (ps_if (pt_cmpR op_isN (pv 10) pe_non (nomark _)) (pss_one (ps_ret (pe_mk M_Dry hr (by decide) (by rfl) (pa_cons (pe_fldK (K := K) (pv 3) rfl) (pa_cons (pv 5) (pa_cons (pv 8) pa_nil)))))) pss_nil)
    (pss_one (ps_expr (pe_bm PySem.F.plainAttrs_list PySem.F.slot_list_append PySem.F.type_list_append mt_append (pv 4) (pa_cons (pv 10) pa_nil)))))) (pss_one (ps_set (i := 4) sc_run.nd rfl (by first | exact Or.inl rfl | exact Or.inr rfl) (pe_c F_done_on hr (by decide) (by rfl) (pa_cons (pv 4) (pa_cons (pv 9) pa_nil)))))))))))
    (pss_cons (ps_if (pt_not (pt_val (pe_mt0 F_Tally_step hr (by decide) (pv 3)))) (pss_one (ps_ret (pe_mk M_Spent hr (by decide) (by rfl) (pa_cons (pe_fldK (K := K) (pv 3) rfl) pa_nil)))) pss_nil)
    (pss_cons (ps_if (pt_cmpR op_eq (pe_ix (r := rIx K) ix_seq (pv 7) pe_int (fun _ _ => rfl)) pe_str (nomark _)) (pss_one (ps_ret (pe_mk M_Ran hr (by decide) (by rfl) (pa_cons (pe_fldK (K := K) (pv 3) rfl) (pa_cons (pv 4) (pa_cons (pe_fldK (K := K) (pv 3) rfl) pa_nil)))))) pss_nil)
    (pss_one (ps_set (i := 5) sc_run.nd rfl (by first | exact Or.inl rfl | exact Or.inr rfl) (pe_c F_next_label hr (by decide) (by rfl) (pa_cons (pv 7) (pa_cons (pe_ifExp (pt_cmpR op_eq (pe_ix (r := rIx K) ix_seq (pv 7) pe_int (fun _ _ => rfl)) pe_str (nomark _)) (pe_bm0 PySem.F.plainAttrs_list PySem.F.slot_list_pop PySem.F.type_list_pop mt_pop (pv 4)) pe_non) pa_nil))))))))))))), ?_⟩
  obtain ⟨p, wv, bs, h, ns, most, rfl, c, G, hw, hz, hws, hm, k⟩ := h
  walk_at "rd"
  refine ⟨[], wv, ns, most, rfl, Tk.nil, by rw [hide_nil]; exact hw, hz, hws, by omega, by omega, fun H1 s1 => ?_⟩
  walk_at "rd"
  intro tp dx htp hdx hne
  refine ⟨tp, dx, H1, wv, ns, most, .non, rfl, ⟨rfl, htp, hdx, hne⟩, hw.mono s1, fun H2 wl tl s2 hwl htl nwt at2 aw2 al2 => ?_⟩
  walk_at "rd"
  refine ⟨by rw [sizeLine_eq]; omega, fun pl hpl => ?_⟩
  have s3 := s2.trans (same_new (o := HO.lst []) hpl)
  have c3 := c.mono (s1.trans s3)
  have at3 := keep_at (u := HO.lst []) at2 hpl
  have aw3 := keep_at (u := HO.lst []) aw2 hpl
  have al3 := keep_at (u := HO.lst []) al2 hpl
  have ap3 : upd H2 pl (HO.lst []) pl = some (.lst []) := upd_same
  generalize upd H2 pl (HO.lst []) = H3 at *
  obtain ⟨b0, tl0, rfl⟩ : ∃ b0 tl0, bs = b0 :: tl0 := by
    cases bs with
    | nil => exact absurd G.one (by simp)
    | cons b tl => exact ⟨b, tl, rfl⟩
  obtain ⟨cdx, pa, ta, ha, kvs, c1, c2, c4, c5, c6⟩ := id c3
  refine ⟨_, _, c1, rfl, [], p, b0, tl0, h, rfl, Tk.nil, by rw [hide_nil]; exact c3, ?_⟩
  walk_at "rd"
  generalize hbs : b0 :: tl0 = bs at *
  have hb0 : b0 ∈ bs := by rw [← hbs]; exact List.mem_cons_self ..
  have s03 := s1.trans s3
  have g0 : Going K H H3 most tp dx wl tl pl ⟨[], ns, [], 0⟩ := ⟨s03, s1.free htp, s1.free hwl, s1.free htl, (s1.trans s2).free hpl, at3, aw3, al3, ap3, nwt, ne_of_none aw2 hpl, ne_of_none al2 hpl, Nat.zero_le _, Nat.zero_le _, (fun n hn => nomatch hn), hws, Nat.zero_le _⟩
  refine ⟨RunInv K H bs h ns most p wv tp dx wl tl, ⟨most + 1, pl, b0, ⟨[], ns, [], 0⟩, _, _, _, _, _, rfl, g0, by rw [← hbs]; rfl, by show most < most + 1 + 0; omega, hb0, ?_⟩, ?_⟩
  · show ((0 : Nat) : Int) = _
    rw [G.zero b0 (by rw [← hbs]; rfl)]
    rfl
  obtain ⟨cdx, pa, ta, ha, kvs, c1, c2, c4, c5, c6⟩ := c
  have spent : ∀ (H2 : Hp) (s : RSt) (pl : Addr), Going K H H2 most tp dx wl tl pl s → outcome bs ns most = .spent s.told → ∀ x dx1, H2 x = none → H2 dx1 = none → dx1 ≠ x → sp_Spent___init__ K [.ref x, .ref tl] (upd (upd H2 dx1 (.own x)) x (.ins (He.ga K "Spent") dx1 [])) (fun v H3 => v = .non ∧ Q (.ref x) H3) C8.E0 := by
    intro H2 s pl g e x dx1 hx hd hne
    refine ⟨x, dx1, H2, .ref tl, s.told, rfl, ⟨rfl, hx, hd, hne⟩, ⟨tl, rfl, .inl (SqL.of g.atl)⟩, fun H3 t3 s3 ht3 hx3 hl3 => ⟨rfl, k _ _ (g.same.trans s3) (g.same.free hx) ?_⟩⟩
    rw [e]
    exact ⟨dx1, t3, hx3, g.same.free ht3, hl3⟩
  clear g0 hpl s3 at3 aw3 al3 ap3 s03 c3
  rintro m σ H4 ⟨pl, b, s, o6, o7, o8, o9, o10, rfl, g, eO, hlt, hb, hlen⟩
  obtain ⟨f, rfl⟩ : ∃ f, m = f + 1 := ⟨m - 1, by have := g.le; omega⟩
  rw [runFrom, blkAt_of G.nodup hb] at eO
  walk_at "rd"
  refine ⟨_, fun σ' H' q => q, ?_⟩
  obtain ⟨tv, htv, hdv⟩ := KvD.get c5 (look_table G.nodup hb)
  have q := DGet.k (k := Sum.inr b.label) (g.same _ _ c4)
  rw [htv] at q
  refine ⟨_, _, _, g.same _ _ c1, T.c_Code, T.n_Code_table, _, rfl, ta, rfl, tv, q, ?_⟩
  obtain ⟨tp2, ur, ue, rfl, hts, hur, hue⟩ := dp_t2 hdv
  refine a_t2V (sqT_same g.same hts) ?_
  walk_at "rd"
  obtain ⟨ra, rs, rfl, hrs, hra⟩ := dp_list hur
  have hlr := DpAll.length hra
  rw [List.length_map] at hlr
  refine a_for ?_
  walk_at "rd"
  refine ⟨_, sqL_same g.same hrs, ?_⟩
  refine for_go2 (walk_enum (xs := rs)) (fun i σ H5 => ∃ pl s' o8 o9 o10, σ = [some (.ref p), some wv, some (.int most), some (.ref tp), some (.ref pl), some (.str b.label), some (.ref ra), some ue, o8, o9, o10] ∧ Going K H H5 most tp dx wl tl pl s' ∧
    behind most b.fin (fun l s => runFrom bs most f l s) (rowsRun most b.label (b.rows.drop i) i s') = outcome bs ns most ∧ most < f + 1 + s'.steps ∧ (s'.pile.length : Int) = after (h b.label) (b.words.take i))
    ⟨pl, s, _, _, _, rfl, g, eO, hlt, by rw [hlen, List.take_zero, after_nil]⟩ (fun i σ H5 _ q => by
      obtain ⟨_, _, _, _, _, _, q, _⟩ := q
      exact sqL_same q.same hrs) ?_ ?_
  · rintro Pw yes i y σ H5 H6 hi ⟨pl, s', o8, o9, o10, rfl, g, eO, hlt, hlen⟩ yy
    obtain ⟨p3, y1, y2, rfl, hp3, rfl, ey1, ey2⟩ := yy
    cases ey1
    obtain ⟨d, ed, hdd⟩ := DpAll.at hra ey2
    rw [List.getElem?_map] at ed
    cases er : b.rows[i]? with
    | none => rw [er] at ed; cases ed
    | some r =>
      rw [er] at ed
      cases ed
      have hil : i < b.rows.length := by omega
      have ew : b.words[i]? = some r.word := by
        unfold Blk.words
        rw [List.getElem?_append_left (by rw [List.length_map]; exact hil), List.getElem?_map, er]
        rfl
      have hok := wok_at (G.rows b hb) ew
      rw [Row.touch_eq, Row.more_eq, ← hlen] at hok
      have nx : after (h b.label) (b.words.take (i + 1)) = s'.pile.length + r.more := by
        rw [List.take_succ, ew, hlen, ← Row.more_eq]
        exact after_snoc
      have hdrop : b.rows.drop i = r :: b.rows.drop (i + 1) := by
        rw [List.drop_eq_getElem_cons hil]
        rw [List.getElem?_eq_getElem hil] at er
        rw [Option.some.inj er]
      rw [hdrop] at eO
      refine a_t2V (.inl (.inl upd_same)) ?_
      have sg := same_new (o := HO.tup [V.int (i : Nat), y2]) hp3
      replace g := g.grow sg
      clear sg
      generalize upd H5 p3 (HO.tup [V.int (i : Nat), y2]) = H6 at *
      walk_at "rd"
      refine ⟨_, _, g.atp, rfl, tp, dx, wl, tl, most, s'.steps, .non, rfl, g.atp, ?_⟩
      by_cases hs : s'.steps = most
      · rw [if_pos (congrArg _ hs)]
        walk_at "rd"
        rw [rowsRun_stop hs] at eO
        refine ⟨_, _, _, g.atp, T.c_Tally, T.n_Tally_told_so_far, _, rfl, fun x dx1 hx hd hne => ?_⟩
        exact spent _ s' pl g eO.symm x dx1 hx hd hne
      · rw [if_neg fun z => hs (by omega)]
        walk_at "rd"
        have g1 := g.step hs
        generalize upd H6 tp (HO.ins (He.ga K "Tally") dx (tallyF wl tl most ((s'.steps : Int) + 1) .non)) = H7 at *
        refine a_ixT (Dp.mono g1.same hdd) atI_0 fun u hu => ?_
        cases hu
        refine ⟨rfl, ?_⟩
        by_cases ht : r = .tell
        · subst ht
          rw [if_pos (show V.str Row.tell.word = V.str (Str.ofString "tell") from rfl)]
          rw [rowsRun_tell hs] at eO
          have h1 : 1 ≤ s'.pile.length := by have := hok.1; simp only [Row.touch] at this; omega
          walk_at "rd"
          refine ⟨_, _, g1.atp, rfl, .inl ⟨rfl, _, SqL.of g1.apl⟩, pl, _, _, rfl, rfl, g1.apl, last_top h1, ?_⟩
          rw [popped_drop]
          refine ⟨tp, dx, wl, tl, most, _, s'.told, _, rfl, (upd_ne g1.tq).trans g1.atp, (upd_ne g1.tp').trans g1.atl, by have := g1.told; have := g1.le; rw [sizeLine_eq]; simp only at *; omega, ?_⟩
          refine yes _ _ _ ⟨pl, ⟨s'.told ++ [topN s'.pile 0], s'.ws, popped s'.pile, s'.steps + 1⟩, _, _, _, rfl, g1.next ((Sx.upd (by simp)).trans (Sx.upd (by simp))) g1.npl ((upd_ne g1.tt).trans ((upd_ne g1.tq).trans g1.atp)) ((upd_ne g1.wt).trans ((upd_ne g1.wp).trans g1.awl)) upd_same
            ((upd_ne g1.tp'.symm).trans upd_same) g1.wp g1.tp' g1.le ?_ (popped_worths g.pw) g.ww ?_, eO, by show most < f + 1 + (s'.steps + 1); omega, ?_⟩
          · show (s'.told ++ [topN s'.pile 0]).length ≤ s'.steps + 1
            rw [List.length_append, List.length_singleton]
            have := g.told
            omega
          · show (popped s'.pile).length ≤ 1000
            have := popped_len h1
            have := g.deep
            omega
          · rw [nx]
            exact popped_len h1
        · rw [if_neg (Row.word_tell ht)]
          refine a_ixT (Dp.mono g1.same hdd) atI_0 fun u hu => ?_
          cases hu
          refine ⟨rfl, ?_⟩
          by_cases hh : r = .hear
          · subst hh
            rw [if_pos (show V.str Row.hear.word = V.str (Str.ofString "hear") from rfl)]
            walk_at "rd"
            refine ⟨_, _, g1.atp, rfl, tp, dx, wl, tl, most, _, .non, s'.ws, rfl, g1.atp, g1.awl, ?_⟩
            cases ews : s'.ws with
            | nil =>
              intro H8 s8
              rw [if_pos rfl]
              refine ⟨_, _, _, s8 _ _ g1.atp, T.c_Tally, T.n_Tally_told_so_far, _, rfl, fun x dx1 hx hd hne => ?_⟩
              refine ⟨x, dx1, H8, .ref tl, s'.told, b.label, i, rfl, ⟨rfl, hx, hd, hne⟩, ⟨tl, rfl, .inl (SqL.of (s8 _ _ g1.atl))⟩, fun H9 t9 s9 ht9 hx9 hl9 => ⟨rfl, k _ _ ((g1.same.trans s8).trans s9) ((g1.same.trans s8).free hx) ?_⟩⟩
              rw [← eO, rowsRun_dry hs ews]
              exact ⟨dx1, t9, hx9, (g1.same.trans s8).free ht9, hl9⟩
            | cons wn ws =>
              intro H8 s8
              rw [if_neg (by intro z; cases z)]
              rw [rowsRun_hear hs ews] at eO
              have hww : Worths (wn :: ws) := by rw [← ews]; exact g.ww
              have ap : upd H8 wl (.lst (ws.map V.int)) pl = some (.lst (s'.pile.map V.int)) := (upd_ne g1.wp.symm).trans (s8 _ _ g1.apl)
              refine ⟨.inl ⟨rfl, _, SqL.of ap⟩, pl, _, _, rfl, rfl, ap, by have := g.deep; rw [List.length_map, sizeLine_eq]; omega, ?_⟩
              have em : s'.pile.map V.int ++ [V.int wn] = (s'.pile ++ [wn]).map V.int := by rw [List.map_append]; rfl
              rw [em]
              have hlen2 : ((s'.pile ++ [wn]).length : Int) = s'.pile.length + Row.hear.more := by rw [List.length_append]; rfl
              refine yes _ _ _ ⟨pl, ⟨s'.told, ws, s'.pile ++ [wn], s'.steps + 1⟩, _, _, _, rfl, g1.next (((Sx.of s8).trans (Sx.upd (by simp))).trans (Sx.upd (by simp))) g1.npl ((upd_ne g1.tq).trans ((upd_ne g1.tw).trans (s8 _ _ g1.atp)))
                ((upd_ne g1.wp).trans upd_same) ((upd_ne g1.tp').trans ((upd_ne g1.wt.symm).trans (s8 _ _ g1.atl))) upd_same g1.wp g1.tp' g1.le g1.told (g.pw.append (.one (hww _ (List.mem_cons_self ..)))) (fun n hn => hww n (List.mem_cons_of_mem _ hn)) ?_, eO, by show most < f + 1 + (s'.steps + 1); omega, ?_⟩
              · show (s'.pile ++ [wn]).length ≤ 1000
                have := hok.2
                omega
              · rw [nx]
                exact hlen2
          · rw [if_neg (Row.word_hear hh)]
            walk_at "rd"
            rw [rowsRun_plain ht hh hs] at eO
            have hpl := Row.plain_of ht hh
            have hto : r.touch ≤ s'.pile.length := by have := hok.1; omega
            have hlen2 := doneOn_len hto hpl
            refine ⟨[], pl, s'.pile, y2, r, rfl, g1.apl, Tk.nil, by rw [hide_nil]; exact Dp.mono g1.same hdd, hpl, hto, g.deep, g.pw.small, fun H8 q s8 hq hq8 => ?_⟩
            refine yes _ _ _ ⟨q, ⟨s'.told, s'.ws, doneOn s'.pile r, s'.steps + 1⟩, _, _, _, rfl, g1.next (Sx.of s8) (g1.same.free hq) (s8 _ _ g1.atp) (s8 _ _ g1.awl) (s8 _ _ g1.atl) hq8 (ne_of_none g1.awl hq) (ne_of_none g1.atl hq) g1.le g1.told
              (doneOn_worths g.pw hto (G.puts b hb r (List.mem_of_getElem? er))) g.ww ?_, eO, by show most < f + 1 + (s'.steps + 1); omega, ?_⟩
            · show (doneOn s'.pile r).length ≤ 1000
              have := hok.2
              omega
            · rw [nx]
              exact hlen2
  · rintro σ H5 ⟨pl, s', o8, o9, o10, rfl, g, eO, hlt, hlen⟩
    rw [hlr] at eO hlen
    rw [List.drop_length] at eO
    rw [rowsRun] at eO
    have eO2 : finRun most b.fin (fun l s => runFrom bs most f l s) s' = outcome bs ns most := eO
    have ew : b.words[b.rows.length]? = some b.fin.word := by
      unfold Blk.words
      rw [List.getElem?_append_right (by rw [List.length_map]; omega), List.length_map, Nat.sub_self]
      rfl
    have hok := wok_at (G.rows b hb) ew
    rw [Fin.touch_eq, Fin.more_eq, ← hlen] at hok
    have hout : out h b = s'.pile.length + b.fin.more := by
      unfold out
      rw [hlen, ← Fin.more_eq]
      have e : b.words = b.words.take b.rows.length ++ [b.fin.word] := by
        have hl : b.words.length = b.rows.length + 1 := by unfold Blk.words; simp
        have q := List.take_succ (l := b.words) (i := b.rows.length)
        rw [ew, List.take_of_length_le (by omega)] at q
        exact q
      have e2 : after (h b.label) b.words = after (h b.label) (b.words.take b.rows.length ++ [b.fin.word]) := by rw [← e]
      rw [e2]
      exact after_snoc
    walk_at "rd"
    refine ⟨_, _, g.atp, rfl, tp, dx, wl, tl, most, s'.steps, .non, rfl, g.atp, ?_⟩
    by_cases hs : s'.steps = most
    · rw [if_pos (congrArg _ hs)]
      walk_at "rd"
      refine ⟨_, _, _, g.atp, T.c_Tally, T.n_Tally_told_so_far, _, rfl, fun x dx1 hx hd hne => ?_⟩
      refine spent _ s' pl g ?_ x dx1 hx hd hne
      rw [← eO2]
      unfold finRun
      rw [if_pos hs]
    · rw [if_neg fun z => hs (by omega)]
      walk_at "rd"
      unfold finRun at eO2
      rw [if_neg hs] at eO2
      have g1 := g.step hs
      generalize upd H5 tp (HO.ins (He.ga K "Tally") dx (tallyF wl tl most ((s'.steps : Int) + 1) .non)) = H7 at *
      have hue7 : Dp K H7 ue b.fin.d := Dp.mono g1.same hue
      refine a_ixT hue7 atI_0 fun u hu => ?_
      cases hu
      refine ⟨rfl, ?_⟩
      have ends := G.ends b hb
      cases ef : b.fin with
      | stop =>
        rw [ef] at eO2 hue7
        rw [if_pos (show V.str Fin.stop.word = V.str (Str.ofString "stop") from rfl)]
        refine ⟨_, _, _, g1.atp, T.c_Tally, T.n_Tally_told_so_far, _, rfl, _, _, _, g1.atp, T.c_Tally, T.n_Tally_steps_done, _, rfl, fun x dx1 hx hd hne => ?_⟩
        refine ⟨x, dx1, H7, .ref tl, .ref pl, s'.told, s'.pile, _, rfl, ⟨rfl, hx, hd, hne⟩, ⟨tl, rfl, .inl (SqL.of g1.atl)⟩, ⟨pl, rfl, .inl (SqL.of g1.apl)⟩, fun H8 t8 p8 s8 ht8 hp8 ntp8 hx8 ht8' hp8' => ⟨rfl, k _ _ (g1.same.trans s8) (g1.same.free hx) ?_⟩⟩
        rw [← eO2]
        exact ⟨dx1, t8, p8, hx8, g1.same.free ht8, g1.same.free hp8, ntp8, ht8', hp8'⟩
      | go l =>
        rw [ef] at eO2 hue7 ends hout hok
        rw [if_neg (show ¬ V.str (Fin.go l).word = V.str (Str.ofString "stop") by simp only [Fin.word]; decide +kernel)]
        refine a_ixT hue7 atI_0 fun u hu => ?_
        cases hu
        refine ⟨rfl, ?_⟩
        rw [if_neg (show ¬ V.str (Fin.go l).word = V.str (Str.ofString "if") by simp only [Fin.word]; decide +kernel)]
        refine ⟨[], ue, .go l, .non, rfl, Tk.nil, by rw [hide_nil]; exact hue7, ?_⟩
        have hl := ends l (List.mem_singleton.mpr rfl)
        obtain ⟨b2, hb2, rfl⟩ := get_label hl.1
        refine ⟨f, by omega, pl, b2, _, _, _, _, _, _, rfl, g1, eO2, by show most < f + (s'.steps + 1); omega, hb2, ?_⟩
        rw [hl.2, hout]
        show (s'.pile.length : Int) = s'.pile.length + 0
        omega
      | iff l1 l2 =>
        rw [ef] at eO2 hue7 ends hout hok
        rw [if_neg (show ¬ V.str (Fin.iff l1 l2).word = V.str (Str.ofString "stop") by simp only [Fin.word]; decide +kernel)]
        refine a_ixT hue7 atI_0 fun u hu => ?_
        cases hu
        refine ⟨rfl, ?_⟩
        rw [if_pos (show V.str (Fin.iff l1 l2).word = V.str (Str.ofString "if") from rfl)]
        have h1 : 1 ≤ s'.pile.length := by have := hok.1; simp only [Fin.touch] at this; omega
        refine ⟨.inl ⟨rfl, _, SqL.of g1.apl⟩, pl, _, _, rfl, rfl, g1.apl, last_top h1, ?_⟩
        rw [popped_drop]
        have g2 : Going K H (upd H7 pl (.lst ((popped s'.pile).map V.int))) most tp dx wl tl pl ⟨s'.told, s'.ws, popped s'.pile, s'.steps + 1⟩ :=
          g1.next (Sx.upd (by simp)) g1.npl ((upd_ne g1.tq).trans g1.atp) ((upd_ne g1.wp).trans g1.awl) ((upd_ne g1.tp').trans g1.atl) upd_same g1.wp g1.tp' g1.le g1.told (popped_worths g.pw) g.ww (by
            show (popped s'.pile).length ≤ 1000
            have := popped_len h1
            have := g.deep
            omega)
        refine ⟨[], ue, .iff l1 l2, .int (topN s'.pile 0), rfl, Tk.nil, by rw [hide_nil]; exact Dp.mono g2.same hue |> (ef ▸ ·), topN s'.pile 0, rfl, ?_⟩
        have hl : (if topN s'.pile 0 ≠ 0 then l1 else l2) ∈ [l1, l2] := by
          split
          · exact List.mem_cons_self ..
          · exact List.mem_cons_of_mem _ (List.mem_singleton.mpr rfl)
        change runFrom bs most f (if topN s'.pile 0 ≠ 0 then l1 else l2) ⟨s'.told, s'.ws, popped s'.pile, s'.steps + 1⟩ = outcome bs ns most at eO2
        generalize (if topN s'.pile 0 ≠ 0 then l1 else l2) = l at *
        have hl := ends l hl
        obtain ⟨b2, hb2, rfl⟩ := get_label hl.1
        refine ⟨f, by omega, pl, b2, _, _, _, _, _, _, rfl, g2, eO2, by show most < f + (s'.steps + 1); omega, hb2, ?_⟩
        rw [hl.2, hout]
        exact popped_len h1
end
end Pb

/-! L1 -/
set_option Elab.async false
set_option linter.all false
set_option maxRecDepth 100000
set_option maxHeartbeats 4000000
namespace Pb
open PySem PySem.Spec PyProof.Rows L2
open C8 (Cal Mak Met pe_c pe_mk pe_mt pe_mt0 pe_gc fnScope_by)
/-! short words -/
local macro_rules | `(tactic| walk_at "rd") => `(tactic| try simp only [tVar, tC, tAdd, tSub, t2I, tIsN, tNotN, tB, tAnd, tOr, tNot, tAndV, tOrV, tNotV, tIf, tSeq, tPar, tPar3, tNext, tBreak, tCont, tDrop, tRet, tRetN, tIfS, gName, gNil, gCons, gTup, gSub, tAsg, tAug, ipI, iList, iTup, iRng1, iRng2, iStr, iEnum, iZip,
  tOp, tUn, rI, rI0, rU, tTest, tChain, tFld, sFld, sFldAug, L2.rAdd, L2.rSub, tNil, tCons, tTup, tLst, tCall, tMeth, tMake, tCB, tNoPart, tPart, tSl, tBM0, tBM, tDGet, tDGet1, tDGet2, tDIn, tDNotIn, sDPut, tDNewK, rEq, rNe, scal_ii, scal_ss, scal_bb, scal_nn, scal_ni, scal_in, scal_ns, scal_sn, scal_is, scal_si, List.take_succ_cons, List.take_zero, List.drop_succ_cons, List.drop_zero, upd_same, upd_upd, and_assoc, tKGet, gStar, tDisp, tPairs, tYes,
  L2.start, List.map_cons, List.map_nil, List.length_cons, List.length_nil, List.cons_append, List.nil_append, List.append_nil, List.replicate, Nat.sub_self, Nat.add_sub_cancel, Nat.reduceAdd, Nat.reduceSub, List.set_cons_zero, List.set_cons_succ, List.getElem?_cons_zero, List.getElem?_cons_succ,
  Option.some.injEq, V.int.injEq, V.bl.injEq, V.str.injEq, V.ref.injEq, exists_eq_left', exists_eq_left, exists_eq', exists_eq, true_and, and_true, if_true, if_false, Bool.false_eq_true, List.cons.injEq, Bool.not_true, Bool.not_false, cxK, cxP, cxW, ite_true, ite_false, wipe, reduceCtorEq, and_self, decide_true, decide_false, exists_and_left, exists_const, decide_eq_true_eq])
local macro_rules | `(tactic| walk_at "len") => `(tactic| (intro vs H Q E h; repeat (first | (obtain ⟨e, _⟩ := h; subst e; rfl) | (obtain ⟨_, h⟩ := h))))
local macro_rules | `(tactic| walk_at "wd") => `(tactic| simp (config := {decide := true}) only [V.str.injEq, scal_ss, true_and, if_true, if_false])

/-- ints stay where a list of one's own is changed -/
theorem sqL_sx {K : PySem.W.Frag} {H H' : Hp} {a b : Addr} {xs ys : List V} (s : Sx [b] H H') (hb : H b = some (.lst ys)) (ne : xs ≠ ys) (h : SqL K H a xs) : SqL K H' a xs := by
  rcases h with (h | ⟨o, h⟩) | h
  · exact .inl (.inl (s _ _ (fun z => by rw [List.mem_singleton.mp z, hb] at h; exact ne (HO.lst.inj (Option.some.inj h)).symm) h))
  · exact .inl (.inr ⟨o, s _ _ (fun z => by rw [List.mem_singleton.mp z, hb] at h; cases h) h⟩)
  · exact .inr h
theorem a_ixV {K : PySem.W.Frag} {H : Hp} {a : Addr} {xs : List V} {i : Int} {v : V} {Q : VK} (h : SqL K H a xs) (e : atI xs i = some v) (q : Q v H) : rIx K (.ref a) (.int i) H Q := .inl ⟨a, xs, i, v, rfl, rfl, h, e, q⟩
def sp__law_cell_at (K : PySem.W.Frag) : Sp := fun vs H Q _ => ∃ (a : Addr) (k : Int) (ns : List Int), vs = [.ref a, .int k] ∧ SqL K H a (ns.map V.int) ∧ 0 ≤ k ∧ ∀ v, Q (.int v) H
def sp__law_draw (K : PySem.W.Frag) : Sp := fun vs H Q _ => ∃ c k cap, vs = [.int c, .int k, .int cap] ∧ 0 ≤ k ∧ k ≤ 1000 ∧ 0 < cap ∧ ∀ H' v, Same H H' → 0 ≤ v → v < cap → Q (.int v) H'
def sp__law_number (K : PySem.W.Frag) : Sp := fun vs H Q _ => ∃ c k lim, vs = [.int c, .int k, .int lim] ∧ 0 ≤ k ∧ k ≤ 1000 ∧ 0 < lim ∧ ∀ H' v, Same H H' → 0 ≤ v → v < lim → Q (.int v) H'
def stateL (sc : Addr) (by_ k : Int) : List V := [.ref sc, .int by_, .int k]
def sp__law_next (K : PySem.W.Frag) : Sp := fun vs H Q _ => ∃ (st sc : Addr) (b k lim : Int) (ns : List Int), vs = [.ref st, .int lim] ∧ H st = some (.lst (stateL sc b k)) ∧ SqL K H sc (ns.map V.int) ∧ 0 ≤ b ∧ 0 ≤ k ∧ 0 < lim ∧
  ∀ H' v, Sx [st] H H' → H' st = some (.lst (stateL sc b (k + 1))) → 0 ≤ v → v < lim → Q (.int v) H'
section
variable {P : Program} {w : World} {K : PySem.W.Frag} {mg : Str → Option Value} {base : Heap}
theorem ok_cell_at (T : Tx w K mg) : Cal P w K mg base 1 "_law_cell_at" (sp__law_cell_at K) [] := by
  refine cal_of T.D__law_cell_at T.g__law_cell_at sc__law_cell_at (fun _ _ _ _ _ _ us hl => match us, hl with | [_, _], _ => rfl) (by walk_at "len") fun cdv A outer s H vs Q E hr h => ?_
  refine ⟨_, (pss_cons (ps_if (pt_cmpR op_lt (pv 1) (pe_callB (r := rLenQ K) call_lenQ (by rfl) T.b_len (by decide +kernel) (pa_cons (pv 0) pa_nil)) (nomark _)) (pss_one (ps_ret (pe_ix (r := rIx K) ix_seq (pv 0) (pv 1) (fun _ _ => rfl)))) pss_nil)
    (pss_one (ps_ret pe_int))), ?_⟩
  obtain ⟨a, k, ns, rfl, hs, h0, q⟩ := h
  walk_at "rd"
  refine ⟨a, _, rfl, .inl hs, ?_⟩
  rw [List.length_map]
  refine ⟨_, rfl, ?_⟩
  split
  next h1 =>
    have hk : k.toNat < ns.length := by omega
    refine .inl ⟨a, _, k, .int ns[k.toNat], rfl, rfl, hs, ?_, q _⟩
    unfold atI ixN
    rw [if_pos h0, List.length_map, if_pos h1]
    show (ns.map V.int)[k.toNat]? = _
    rw [List.getElem?_map, List.getElem?_eq_getElem hk]
    rfl
  next => exact q _
theorem ok_draw (T : Tx w K mg) : Cal P w K mg base 1 "_law_draw" (sp__law_draw K) [] := by
  refine cal_of T.D__law_draw T.g__law_draw sc__law_draw (fun _ _ _ _ _ _ us hl => match us, hl with | [_, _, _], _ => rfl) (by walk_at "len") fun cdv A outer s H vs Q E hr h => ?_
  refine ⟨_, (pss_cons (ps_set (i := 3) sc__law_draw.nd rfl (by first | exact Or.inl rfl | exact Or.inr rfl) (pe_tup (pa_cons pe_int (pa_cons pe_int (pa_cons pe_int (pa_cons pe_int (pa_cons pe_int (pa_cons pe_int (pa_cons pe_int (pa_cons pe_int (pa_cons pe_int (pa_cons pe_int (pa_cons pe_int (pa_cons pe_int (pa_cons pe_int (pa_cons pe_int (pa_cons pe_int (pa_cons pe_int pa_nil))))))))))))))))))
    (pss_one (ps_ret (pe_op op_mod (pe_op op_mod (pe_op op_add (pe_op op_mul (pv 0) pe_int) (pe_op op_mul (pv 1) pe_int)) (pe_ix (r := rIx K) ix_seq (pv 3) (pe_op op_mod (pv 1) pe_int) (fun _ _ => rfl))) (pv 2))))), ?_⟩
  obtain ⟨c, k, cap, rfl, h0, h1, h2, q⟩ := h
  walk_at "rd"
  refine ⟨by rw [sizeLine_eq]; omega, fun p hp => ⟨.inr (by decide), .inr (by decide), by omega, ?_⟩⟩
  have s1 := same_new (o := HO.tup [V.int 1000003, V.int 1000033, V.int 1000037, V.int 1000039, V.int 1000081, V.int 1000099, V.int 1000117, V.int 1000121, V.int 1000133, V.int 1000151, V.int 1000159, V.int 1000171, V.int 1000183, V.int 1000187, V.int 1000193, V.int 1000199]) hp
  have hr : ∀ i : Nat, i < 16 → ∃ n : Int, ([1000003, 1000033, 1000037, 1000039, 1000081, 1000099, 1000117, 1000121, 1000133, 1000151, 1000159, 1000171, 1000183, 1000187, 1000193, 1000199] : List Int)[i]? = some n ∧ 0 < n := fun i hi => by
    have e := List.getElem?_eq_getElem (l := ([1000003, 1000033, 1000037, 1000039, 1000081, 1000099, 1000117, 1000121, 1000133, 1000151, 1000159, 1000171, 1000183, 1000187, 1000193, 1000199] : List Int)) (i := i) hi
    have pos : ∀ n ∈ ([1000003, 1000033, 1000037, 1000039, 1000081, 1000099, 1000117, 1000121, 1000133, 1000151, 1000159, 1000171, 1000183, 1000187, 1000193, 1000199] : List Int), 0 < n := by decide
    exact ⟨_, e, pos _ (List.getElem_mem hi)⟩
  have m0 := Int.emod_nonneg k (show (16 : Int) ≠ 0 by decide)
  have m1 := Int.emod_lt_of_pos k (show (0 : Int) < 16 by decide)
  obtain ⟨n, e, hn⟩ := hr (k % 16).toNat (by omega)
  refine .inr (.inl ⟨p, _, _, .int n, rfl, rfl, .inl (.inl upd_same), ?_, ?_⟩)
  · unfold atI ixN
    rw [if_pos m0, if_pos (by exact m1)]
    show (([1000003, 1000033, 1000037, 1000039, 1000081, 1000099, 1000117, 1000121, 1000133, 1000151, 1000159, 1000171, 1000183, 1000187, 1000193, 1000199] : List Int).map V.int)[(k % 16).toNat]? = _
    rw [List.getElem?_map, e]
    rfl
  · exact ⟨n, rfl, hn, h2, q _ _ s1 (Int.emod_nonneg _ (by omega)) (Int.emod_lt_of_pos _ h2)⟩
theorem ok_number (T : Tx w K mg) (F__law_draw : Cal P w K mg base 1 "_law_draw" (sp__law_draw K) []) : Cal P w K mg base 2 "_law_number" (sp__law_number K) [] := by
  refine cal_of T.D__law_number T.g__law_number sc__law_number (fun _ _ _ _ _ _ us hl => match us, hl with | [_, _, _], _ => rfl) (by walk_at "len") fun cdv A outer s H vs Q E hr h => ?_
  refine ⟨_, (pss_cons (ps_set (i := 3) sc__law_number.nd rfl (by first | exact Or.inl rfl | exact Or.inr rfl) (pe_op op_sub (pv 0) (pe_op op_pow pe_int pe_int)))
    (pss_cons (ps_for PassesOwn.never rfl (pi_range1 (by rfl) T.b_range (pa_cons (pe_op op_mod (pv 1) pe_int) pa_nil)) (pg_name (i := 4) sc__law_number.nd rfl (by first | exact Or.inl rfl | exact Or.inr rfl)) (pss_one (ps_set (i := 3) sc__law_number.nd rfl (by first | exact Or.inl rfl | exact Or.inr rfl) (pe_op op_fdiv (pv 3) pe_int))))
    (pss_cons (ps_if (pt_cmpR op_gt (pv 3) pe_int (nomark _)) (pss_one (ps_ret (pe_op op_mod (pe_op op_mod (pv 3) pe_int) (pv 2)))) pss_nil)
    (pss_cons (ps_set (i := 5) sc__law_number.nd rfl (by first | exact Or.inl rfl | exact Or.inr rfl) (pe_op op_mod (pv 0) pe_int))
    (pss_one (ps_ret (pe_op op_mod (pe_c F__law_draw hr (by decide) (by rfl) (pa_cons (pe_op op_mul (pe_op op_add (pv 5) (pe_op op_mul pe_int (pv 1))) (pe_op op_add (pe_op op_add (pv 5) (pe_op op_mul pe_int (pv 1))) pe_int)) (pa_cons (pe_op op_add (pe_op op_mod (pv 1) pe_int) pe_int) (pa_cons pe_int pa_nil)))) (pv 2)))))))), ?_⟩
  obtain ⟨c, k, lim, rfl, h0, h1, h2, q⟩ := h
  walk_at "rd"
  refine ⟨by first | decide | (unfold CPow; decide), ?_⟩
  have m0 := Int.emod_nonneg k (show (24 : Int) ≠ 0 by decide)
  have m1 := Int.emod_lt_of_pos k (show (0 : Int) < 24 by decide)
  refine a_for ?_
  walk_at "rd"
  refine ⟨by decide, by omega, by omega, ?_⟩
  refine for_go2 walk_range (fun i σ H1 => Same H H1 ∧ ∃ r o4, σ = [some (.int c), some (.int k), some (.int lim), some (.int r), o4, none]) ⟨Same.refl _, _, _, rfl⟩ (fun _ _ _ _ _ => trivial) ?_ ?_
  · rintro Pw yes i y σ H1 H2 hi ⟨s1, r, o4, rfl⟩ ⟨e0, ey⟩
    subst e0
    walk_at "rd"
    exact ⟨⟨by decide, by decide⟩, yes _ _ _ ⟨s1, _, _, rfl⟩⟩
  · rintro σ H1 ⟨s1, r, o4, rfl⟩
    walk_at "rd"
    split
    next => exact ⟨by decide, h2, q _ _ s1 (Int.emod_nonneg _ (by omega)) (Int.emod_lt_of_pos _ h2)⟩
    next =>
      have n0 := Int.emod_nonneg c (show (1000003 : Int) ≠ 0 by decide)
      have n1 := Int.emod_lt_of_pos c (show (0 : Int) < 1000003 by decide)
      have k0 := Int.emod_nonneg k (show (9 : Int) ≠ 0 by decide)
      have k1 := Int.emod_lt_of_pos k (show (0 : Int) < 9 by decide)
      refine ⟨by decide, .inl (by decide), .inl (by decide), .inl ⟨by omega, by omega⟩, by decide, _, _, _, rfl, by omega, by omega, by decide, fun H2 v s2 v0 v1 => ?_⟩
      exact ⟨_, rfl, h2, q _ _ (s1.trans s2) (Int.emod_nonneg _ (by omega)) (Int.emod_lt_of_pos _ h2)⟩
theorem ok_next (T : Tx w K mg) (F__law_cell_at : Cal P w K mg base 1 "_law_cell_at" (sp__law_cell_at K) []) (F__law_number : Cal P w K mg base 2 "_law_number" (sp__law_number K) []) : Cal P w K mg base 3 "_law_next" (sp__law_next K) [] := by
  refine cal_of T.D__law_next T.g__law_next sc__law_next (fun _ _ _ _ _ _ us hl => match us, hl with | [_, _], _ => rfl) (by walk_at "len") fun cdv A outer s H vs Q E hr h => ?_
  refine ⟨_, (pss_cons (ps_asg (pe_op op_add (pe_ix (r := rIx K) ix_seq (pv 0) pe_int (fun _ _ => rfl)) pe_int) (pg_sub (pv 0) pe_int set_list))
    (pss_cons (ps_set (i := 2) sc__law_next.nd rfl (by first | exact Or.inl rfl | exact Or.inr rfl) (pe_op op_fdiv (pe_ix (r := rIx K) ix_seq (pv 0) pe_int (fun _ _ => rfl)) pe_int))
    (pss_cons (ps_set (i := 3) sc__law_next.nd rfl (by first | exact Or.inl rfl | exact Or.inr rfl) (pe_op op_add (pe_c F__law_cell_at hr (by decide) (by rfl) (pa_cons (pe_ix (r := rIx K) ix_seq (pv 0) pe_int (fun _ _ => rfl)) (pa_cons (pe_op op_add (pe_ix (r := rIx K) ix_seq (pv 0) pe_int (fun _ _ => rfl)) (pv 2)) pa_nil))) (pe_op op_mul pe_int (pv 2))))
    (pss_one (ps_ret (pe_c F__law_number hr (by decide) (by rfl) (pa_cons (pv 3) (pa_cons (pe_op op_add (pe_op op_mod (pe_ix (r := rIx K) ix_seq (pv 0) pe_int (fun _ _ => rfl)) pe_int) pe_int) (pa_cons (pv 1) pa_nil))))))))), ?_⟩
  obtain ⟨st, sc, b, k, lim, ns, rfl, hst, hsc, hb, hk, hl, q⟩ := h
  walk_at "rd"
  have hst2 : H st = some (.lst [.ref sc, .int b, .int k]) := hst
  refine a_ixV (SqL.of hst2) atI_2 ?_
  refine ⟨k, rfl, st, _, 2, 2, rfl, rfl, hst2, rfl, ?_⟩
  have e1 : upd H st (.lst ([V.ref sc, .int b, .int k].set 2 (.int (k + 1)))) st = some (.lst [.ref sc, .int b, .int (k + 1)]) := upd_same
  have sx : Sx [st] H (upd H st (.lst ([V.ref sc, .int b, .int k].set 2 (.int (k + 1))))) := Sx.at
  generalize upd H st (.lst ([V.ref sc, .int b, .int k].set 2 (.int (k + 1)))) = H1 at *
  have hsc1 : SqL K H1 sc (ns.map V.int) := sqL_sx sx hst2 (fun z => by cases ns <;> cases z) hsc
  refine a_ixV (SqL.of e1) atI_2 ⟨_, rfl, ⟨by decide, by decide⟩, ?_⟩
  refine a_ixV (SqL.of e1) atI_0 (a_ixV (SqL.of e1) atI_1 ⟨_, rfl, sc, _, ns, rfl, hsc1, by have : 0 ≤ (k + 1) / 12 := Int.ediv_nonneg (by omega) (by decide); omega, fun v => ?_⟩)
  refine ⟨.inl (by decide), v, rfl, a_ixV (SqL.of e1) atI_2 ⟨_, rfl, by decide, _, _, _, rfl, ?_, ?_, hl, fun H2 u s2 u0 u1 => q _ _ (sx.trans (Sx.of s2)) (s2 _ _ e1) u0 u1⟩⟩
  · have := Int.emod_nonneg (k + 1) (show (12 : Int) ≠ 0 by decide)
    omega
  · have := Int.emod_lt_of_pos (k + 1) (show (0 : Int) < 12 by decide)
    omega
end
end Pb

/-! L2 -/
set_option Elab.async false
set_option linter.all false
set_option maxRecDepth 100000
set_option maxHeartbeats 4000000
namespace Pb
open PySem PySem.Spec PyProof.Rows L2
open C8 (Cal Mak Met pe_c pe_mk pe_mt pe_mt0 pe_gc fnScope_by)
/-! short words -/
local macro_rules | `(tactic| walk_at "rd") => `(tactic| try simp only [tVar, tC, tAdd, tSub, t2I, tIsN, tNotN, tB, tAnd, tOr, tNot, tAndV, tOrV, tNotV, tIf, tSeq, tPar, tPar3, tNext, tBreak, tCont, tDrop, tRet, tRetN, tIfS, gName, gNil, gCons, gTup, gSub, tAsg, tAug, ipI, iList, iTup, iRng1, iRng2, iStr, iEnum, iZip,
  tOp, tUn, rI, rI0, rU, tTest, tChain, tFld, sFld, sFldAug, L2.rAdd, L2.rSub, tNil, tCons, tTup, tLst, tCall, tMeth, tMake, tCB, tNoPart, tPart, tSl, tBM0, tBM, tDGet, tDGet1, tDGet2, tDIn, tDNotIn, sDPut, tDNewK, rEq, rNe, scal_ii, scal_ss, scal_bb, scal_nn, scal_ni, scal_in, scal_ns, scal_sn, scal_is, scal_si, List.take_succ_cons, List.take_zero, List.drop_succ_cons, List.drop_zero, upd_same, upd_upd, and_assoc, tKGet, gStar, tDisp, tPairs, tYes,
  L2.start, List.map_cons, List.map_nil, List.length_cons, List.length_nil, List.cons_append, List.nil_append, List.append_nil, List.replicate, Nat.sub_self, Nat.add_sub_cancel, Nat.reduceAdd, Nat.reduceSub, List.set_cons_zero, List.set_cons_succ, List.getElem?_cons_zero, List.getElem?_cons_succ,
  Option.some.injEq, V.int.injEq, V.bl.injEq, V.str.injEq, V.ref.injEq, exists_eq_left', exists_eq_left, exists_eq', exists_eq, true_and, and_true, if_true, if_false, Bool.false_eq_true, List.cons.injEq, Bool.not_true, Bool.not_false, cxK, cxP, cxW, ite_true, ite_false, wipe, reduceCtorEq, and_self, decide_true, decide_false, exists_and_left, exists_const, decide_eq_true_eq])
local macro_rules | `(tactic| walk_at "len") => `(tactic| (intro vs H Q E h; repeat (first | (obtain ⟨e, _⟩ := h; subst e; rfl) | (obtain ⟨_, h⟩ := h))))
local macro_rules | `(tactic| walk_at "wd") => `(tactic| simp (config := {decide := true}) only [V.str.injEq, scal_ss, true_and, if_true, if_false])

theorem a_ixTV {K : PySem.W.Frag} {H : Hp} {a : Addr} {xs : List V} {i : Int} {v : V} {Q : VK} (h : SqT K H a xs) (e : atI xs i = some v) (q : Q v H) : rIx K (.ref a) (.int i) H Q := .inr (.inl ⟨a, xs, i, v, rfl, rfl, h, e, q⟩)
theorem atI_nat {α : Type} {xs : List α} {i : Int} (h0 : 0 ≤ i) (h1 : i < xs.length) : ∃ x, atI xs i = some x ∧ x ∈ xs := by
  have h2 : i.toNat < xs.length := by omega
  refine ⟨xs[i.toNat], ?_, List.getElem_mem h2⟩
  unfold atI ixN
  rw [if_pos h0, if_pos h1]
  exact List.getElem?_eq_getElem h2
def sp__law_needs (K : PySem.W.Frag) : Sp := fun vs H Q _ => ∃ r : Row, vs = [.str r.word] ∧ ∀ H' a, Same H H' → SqT K H' a [.int r.touch, .int r.more] → Q (.ref a) H'
def sp__law_rows (K : PySem.W.Frag) : Sp := fun vs H Q _ => ∃ (ms : List Addr) (st : Addr) (high aim many : Int) (sc : Addr) (b k : Int) (ns : List Int), vs = [.ref st, .int high, .int aim, .int many] ∧ Tk H ms ∧ st ∈ ms ∧ H st = some (.lst (stateL sc b k)) ∧ SqL K H sc (ns.map V.int) ∧ 0 ≤ b ∧ 0 ≤ k ∧ 0 ≤ high ∧ high ≤ 12 ∧ 0 ≤ aim ∧ aim ≤ 12 ∧ 0 ≤ many ∧ many ≤ 12 ∧
  ∀ H' f rs k', Sx [st] H H' → H' st = some (.lst (stateL sc b k')) → 0 ≤ k' → H f = none → Dp K (hide H' ms) (.ref f) (rowsD rs) → wok high (rs.map Row.word) → after high (rs.map Row.word) = aim → (∀ r ∈ rs, ∀ n, r = .put n → -32768 ≤ n ∧ n ≤ 32767) → rs.length ≤ 60 → Q (.ref f) H'
/-- what the law's table of needs holds, its tuples at these places -/
def needK (ps : List Addr) : List (Key × V) := (["put", "hear", "same", "drop", "tell", "over", "swap"] : List Str).zip (ps.map V.ref) |>.map fun q => (Sum.inr q.1, q.2)
/-- the eleven words, each with a row of it -/
def rowsAll : List Row := [.put 0, .plus, .less, .times, .under, .same, .over, .swap, .drop, .tell, .hear]
/-- what stands while rows are made -/
structure RI (K : PySem.W.Frag) (H0 H : Hp) (ms : List Addr) (st f wh sc : Addr) (b : Int) (ns : List Int) (rs : List Row) : Prop where
  t0 : Tk H0 ms
  stm : st ∈ ms
  s0 : Sx [st] H0 H
  k0 : ∃ k, H0 st = some (.lst (stateL sc b k))
  sq : SqL K H0 sc (ns.map V.int)
  b0 : 0 ≤ b
  nf : H0 f = none
  nw : H0 wh = none
  fw : wh ≠ f
  now : ∃ k, 0 ≤ k ∧ H st = some (.lst (stateL sc b k))
  words : H wh = some (.lst (rowsAll.map fun r => V.str r.word))
  found : ∃ vs, H f = some (.lst vs) ∧ DpAll K (hide H (f :: ms)) vs (rs.map Row.d)
section
variable {K : PySem.W.Frag} {H0 H H' : Hp} {ms : List Addr} {st f wh sc : Addr} {b : Int} {ns : List Int} {rs : List Row}
theorem RI.nst (i : RI K H0 H ms st f wh sc b ns rs) : st ≠ f ∧ st ≠ wh := by
  obtain ⟨k, e⟩ := i.k0
  exact ⟨ne_of_none e i.nf, ne_of_none e i.nw⟩
theorem RI.grow (i : RI K H0 H ms st f wh sc b ns rs) (s : Same H H') : RI K H0 H' ms st f wh sc b ns rs where
  t0 := i.t0
  stm := i.stm
  s0 := i.s0.trans (Sx.of s)
  k0 := i.k0
  sq := i.sq
  b0 := i.b0
  nf := i.nf
  nw := i.nw
  fw := i.fw
  now := by
    obtain ⟨k, h0, e⟩ := i.now
    exact ⟨k, h0, s _ _ e⟩
  words := s _ _ i.words
  found := by
    obtain ⟨vs, e, a⟩ := i.found
    exact ⟨vs, s _ _ e, DpAll.mono (Same.hide s _) a⟩
theorem RI.sqL (i : RI K H0 H ms st f wh sc b ns rs) : SqL K H sc (ns.map V.int) := by
  obtain ⟨k, e⟩ := i.k0
  exact sqL_sx i.s0 e (fun z => by cases ns <;> cases z) i.sq
theorem RI.step (i : RI K H0 H ms st f wh sc b ns rs) {k : Int} (h0 : 0 ≤ k) (s : Sx [st] H H') (e : H' st = some (.lst (stateL sc b k))) : RI K H0 H' ms st f wh sc b ns rs where
  t0 := i.t0
  stm := i.stm
  s0 := i.s0.trans s
  k0 := i.k0
  sq := i.sq
  b0 := i.b0
  nf := i.nf
  nw := i.nw
  fw := i.fw
  now := ⟨k, h0, e⟩
  words := s _ _ (fun z => i.nst.2 (List.mem_singleton.mp z).symm) i.words
  found := by
    obtain ⟨vs, e, a⟩ := i.found
    exact ⟨vs, s _ _ (fun z => i.nst.1 (List.mem_singleton.mp z).symm) e, DpAll.mono (s.hide fun a ha => by rw [List.mem_singleton.mp ha]; exact List.mem_cons_of_mem _ i.stm) a⟩
theorem RI.app (i : RI K H0 H ms st f wh sc b ns rs) {vs : List V} {v : V} {r : Row} (e : H f = some (.lst vs)) (a : DpAll K (hide H (f :: ms)) vs (rs.map Row.d)) (hv : Dp K (hide H (f :: ms)) v r.d) : RI K H0 (upd H f (.lst (vs ++ [v]))) ms st f wh sc b ns (rs ++ [r]) where
  t0 := i.t0
  stm := i.stm
  s0 := fun c o hc ec => by
    rw [upd_ne (ne_of_none ec i.nf)]
    exact i.s0 c o hc ec
  k0 := i.k0
  sq := i.sq
  b0 := i.b0
  nf := i.nf
  nw := i.nw
  fw := i.fw
  now := by
    obtain ⟨k, h0, e⟩ := i.now
    exact ⟨k, h0, (upd_ne i.nst.1).trans e⟩
  words := (upd_ne i.fw).trans i.words
  found := ⟨_, upd_same, by
    rw [hide_upd (List.mem_cons_self ..), List.map_append]
    exact DpAll.append a (.cons hv .nil)⟩
theorem RI.out (i : RI K H0 H ms st f wh sc b ns rs) : (∃ k, 0 ≤ k ∧ H st = some (.lst (stateL sc b k))) ∧ Dp K (hide H ms) (.ref f) (rowsD rs) := by
  obtain ⟨k, h0, e⟩ := i.now
  obtain ⟨vs, ef, a⟩ := i.found
  refine ⟨⟨k, h0, e⟩, .lst (.inl (.inl ?_)) (DpAll.mono (same_less fun a ha => List.mem_cons_of_mem _ ha) a)⟩
  rw [hide_at (i.t0.out i.nf)]
  exact ef
theorem RI.tk (i : RI K H0 H ms st f wh sc b ns rs) : Tk H (f :: ms) := fun m hm => by
  rcases List.mem_cons.mp hm with z | hm
  · obtain ⟨_, q, _⟩ := i.found
    rw [z, q]; exact fun z => nomatch z
  · by_cases e : m = st
    · obtain ⟨_, _, q⟩ := i.now
      rw [e, q]; exact fun z => nomatch z
    · cases q : H0 m with
      | none => exact absurd q (i.t0 m hm)
      | some o => rw [i.s0 m o (fun z => e (List.mem_singleton.mp z)) q]; exact fun z => nomatch z
theorem RI.len (i : RI K H0 H ms st f wh sc b ns rs) : ∃ vs, H f = some (.lst vs) ∧ DpAll K (hide H (f :: ms)) vs (rs.map Row.d) ∧ vs.length = rs.length := by
  obtain ⟨vs, e, a⟩ := i.found
  exact ⟨vs, e, a, by rw [DpAll.length a, List.length_map]⟩
end
/-- how high rows lead -/
structure Up (high : Int) (rs : List Row) (now : Int) : Prop where
  ok : wok high (rs.map Row.word)
  at_ : after high (rs.map Row.word) = now
  puts : ∀ r ∈ rs, ∀ n, r = .put n → -32768 ≤ n ∧ n ≤ 32767
theorem wok_snoc : ∀ {ws : List Str} {h : Int} {w : Str}, wok h ws → (touchN w : Int) ≤ after h ws → after h ws + changeN w ≤ 12 → wok h (ws ++ [w])
  | [], h, w, _, h1, h2 => by
    rw [after_nil] at h1 h2
    exact ⟨⟨h1, h2⟩, trivial⟩
  | x :: ws, h, w, k, h1, h2 => by
    rw [after_cons] at h1 h2
    exact ⟨k.1, wok_snoc k.2 h1 h2⟩
theorem Up.nil {h : Int} : Up h [] h := ⟨trivial, after_nil, fun r hr => nomatch hr⟩
theorem Up.snoc {h now : Int} {rs : List Row} {r : Row} (u : Up h rs now) (h1 : (r.touch : Int) ≤ now) (h2 : now + r.more ≤ 12) (hp : ∀ n, r = .put n → -32768 ≤ n ∧ n ≤ 32767) : Up h (rs ++ [r]) (now + r.more) where
  ok := by
    rw [List.map_append]
    exact wok_snoc u.ok (by rw [Row.touch_eq, u.at_]; exact h1) (by rw [Row.more_eq, u.at_]; exact h2)
  at_ := by
    rw [List.map_append]
    show after h (rs.map Row.word ++ [r.word]) = _
    rw [after_snoc, u.at_, Row.more_eq]
  puts := fun q hq n e => by
    rcases List.mem_append.mp hq with hq | hq
    · exact u.puts q hq n e
    · rw [List.mem_singleton.mp hq] at e
      exact hp n e
section
variable {P : Program} {w : World} {K : PySem.W.Frag} {mg : Str → Option Value} {base : Heap}
theorem ok_needs (T : Tx w K mg) : Cal P w K mg base 1 "_law_needs" (sp__law_needs K) [] := by
  refine cal_of T.D__law_needs T.g__law_needs sc__law_needs (fun _ _ _ _ _ _ us hl => match us, hl with | [_], _ => rfl) (by walk_at "len") fun cdv A outer s H vs Q E hr h => ?_
  refine ⟨_, (pss_cons (ps_set (i := 1) sc__law_needs.nd rfl (by first | exact Or.inl rfl | exact Or.inr rfl) (pe_disp (pps_cons pe_str (pe_tup (pa_cons pe_int (pa_cons pe_int pa_nil))) (pps_cons pe_str (pe_tup (pa_cons pe_int (pa_cons pe_int pa_nil))) (pps_cons pe_str (pe_tup (pa_cons pe_int (pa_cons pe_int pa_nil))) (pps_cons pe_str (pe_tup (pa_cons pe_int (pa_cons (pe_un un_neg pe_int) pa_nil))) (pps_cons pe_str (pe_tup (pa_cons pe_int (pa_cons (pe_un un_neg pe_int) pa_nil))) pps_nil))))) (by rfl) (by rfl) (fun z => by cases z) (by decide)))
    (pss_cons (ps_asg (pe_tup (pa_cons (pe_tup (pa_cons pe_int (pa_cons pe_int pa_nil))) (pa_cons (pe_tup (pa_cons pe_int (pa_cons pe_int pa_nil))) pa_nil))) (pg_tupK (K := K) (n := 2) rfl (pgs_cons (pg_sub (pv 1) pe_str (set_dict (hu_of hr))) (pgs_cons (pg_sub (pv 1) pe_str (set_dict (hu_of hr))) pgs_nil))))
    (pss_one (ps_ret (pe_dget2 (hu_of hr) (pv 1) (pv 0) (pe_tup (pa_cons pe_int (pa_cons (pe_un un_neg pe_int) pa_nil))) ⟨rfl, rfl, rfl, rfl⟩))))), ?_⟩
  obtain ⟨r, rfl, q⟩ := h
  walk_at "rd"
  have two : 2 ≤ sizeLine := by rw [sizeLine_eq]; omega
  intro d hd
  refine ⟨two, fun p1 n1 => ⟨two, fun p2 n2 => ⟨two, fun p3 n3 => ⟨two, fun p4 n4 => ⟨two, fun p5 n5 => ?_⟩⟩⟩⟩⟩
  have s1 := ((((same_new (o := HO.dK []) hd).trans (same_new (o := HO.tup [V.int 0, V.int 1]) n1)).trans (same_new (o := HO.tup [V.int 0, V.int 1]) n2)).trans (same_new (o := HO.tup [V.int 1, V.int 1]) n3)).trans ((same_new (o := HO.tup [V.int 1, V.int (-1)]) n4).trans (same_new (o := HO.tup [V.int 1, V.int (-1)]) n5))
  have a5 : upd (upd (upd (upd (upd (upd H d (HO.dK [])) p1 (HO.tup [V.int 0, V.int 1])) p2 (HO.tup [V.int 0, V.int 1])) p3 (HO.tup [V.int 1, V.int 1])) p4 (HO.tup [V.int 1, V.int (-1)])) p5 (HO.tup [V.int 1, V.int (-1)]) p5 = some (HO.tup [V.int 1, V.int (-1)]) := upd_same
  have a4 := keep_at (u := HO.tup [V.int 1, V.int (-1)]) (upd_same (H := upd (upd (upd (upd H d (HO.dK [])) p1 (HO.tup [V.int 0, V.int 1])) p2 (HO.tup [V.int 0, V.int 1])) p3 (HO.tup [V.int 1, V.int 1])) (a := p4) (o := HO.tup [V.int 1, V.int (-1)])) n5
  have a3 := keep_at (u := HO.tup [V.int 1, V.int (-1)]) (keep_at (u := HO.tup [V.int 1, V.int (-1)]) (upd_same (H := upd (upd (upd H d (HO.dK [])) p1 (HO.tup [V.int 0, V.int 1])) p2 (HO.tup [V.int 0, V.int 1])) (a := p3) (o := HO.tup [V.int 1, V.int 1])) n4) n5
  have a2 := keep_at (u := HO.tup [V.int 1, V.int (-1)]) (keep_at (u := HO.tup [V.int 1, V.int (-1)]) (keep_at (u := HO.tup [V.int 1, V.int 1]) (upd_same (H := upd (upd H d (HO.dK [])) p1 (HO.tup [V.int 0, V.int 1])) (a := p2) (o := HO.tup [V.int 0, V.int 1])) n3) n4) n5
  have a1 := keep_at (u := HO.tup [V.int 1, V.int (-1)]) (keep_at (u := HO.tup [V.int 1, V.int (-1)]) (keep_at (u := HO.tup [V.int 1, V.int 1]) (keep_at (u := HO.tup [V.int 0, V.int 1]) (upd_same (H := upd H d (HO.dK [])) (a := p1) (o := HO.tup [V.int 0, V.int 1])) n2) n3) n4) n5
  have a0 := keep_at (u := HO.tup [V.int 1, V.int (-1)]) (keep_at (u := HO.tup [V.int 1, V.int (-1)]) (keep_at (u := HO.tup [V.int 1, V.int 1]) (keep_at (u := HO.tup [V.int 0, V.int 1]) (keep_at (u := HO.tup [V.int 0, V.int 1]) (upd_same (H := H) (a := d) (o := HO.dK [])) n1) n2) n3) n4) n5
  have s0 : Same H _ := s1
  generalize upd (upd (upd (upd (upd (upd H d (HO.dK [])) p1 (HO.tup [V.int 0, V.int 1])) p2 (HO.tup [V.int 0, V.int 1])) p3 (HO.tup [V.int 1, V.int 1])) p4 (HO.tup [V.int 1, V.int (-1)])) p5 (HO.tup [V.int 1, V.int (-1)]) = H1 at *
  refine ⟨a0, [(Sum.inr (Str.ofString "put"), .ref p1), (Sum.inr (Str.ofString "hear"), .ref p2), (Sum.inr (Str.ofString "same"), .ref p3), (Sum.inr (Str.ofString "drop"), .ref p4), (Sum.inr (Str.ofString "tell"), .ref p5)], rfl, by exact (by decide : 5 ≤ 15), ?_⟩
  have hm : mergeK [] [((Sum.inr (Str.ofString "put") : Key), V.ref p1), (Sum.inr (Str.ofString "hear"), .ref p2), (Sum.inr (Str.ofString "same"), .ref p3), (Sum.inr (Str.ofString "drop"), .ref p4), (Sum.inr (Str.ofString "tell"), .ref p5)] = needK [p1, p2, p3, p4, p5] := by kernel_rfl
  rw [hm]
  have hd0 : H d = none := hd
  have e0 : upd H1 d (HO.dK (needK [p1, p2, p3, p4, p5])) d = some (HO.dK (needK [p1, p2, p3, p4, p5])) := upd_same
  have nd : ∀ {x : Addr} {xs : List V}, H1 x = some (.tup xs) → upd H1 d (HO.dK (needK [p1, p2, p3, p4, p5])) x = some (.tup xs) := fun {x xs} e => (upd_ne (ne_of e a0 (by intro z; cases z))).trans e
  replace a1 := nd a1
  replace a2 := nd a2
  replace a3 := nd a3
  replace a4 := nd a4
  replace a5 := nd a5
  have s2 : Same H (upd H1 d (HO.dK (needK [p1, p2, p3, p4, p5]))) := fun b o e => (upd_ne (ne_of_none e hd0)).trans (s0 _ _ e)
  generalize upd H1 d (HO.dK (needK [p1, p2, p3, p4, p5])) = H2 at *
  refine ⟨two, fun p6 n6 => ⟨two, fun p7 n7 => ⟨two, fun p8 n8 => ?_⟩⟩⟩
  have s3 := s2.trans (((same_new (o := HO.tup [V.int 2, V.int 1]) n6).trans (same_new (o := HO.tup [V.int 2, V.int 0]) n7)).trans (same_new (o := HO.tup [V.ref p6, V.ref p7]) n8))
  have up : ∀ {x : Addr} {o : HO}, H2 x = some o → upd (upd (upd H2 p6 (HO.tup [V.int 2, V.int 1])) p7 (HO.tup [V.int 2, V.int 0])) p8 (HO.tup [V.ref p6, V.ref p7]) x = some o := fun {x o} e => keep_at (keep_at (keep_at e n6) n7) n8
  replace a1 := up a1
  replace a2 := up a2
  replace a3 := up a3
  replace a4 := up a4
  replace a5 := up a5
  replace e0 := up e0
  have a6 : upd (upd (upd H2 p6 (HO.tup [V.int 2, V.int 1])) p7 (HO.tup [V.int 2, V.int 0])) p8 (HO.tup [V.ref p6, V.ref p7]) p6 = some (HO.tup [V.int 2, V.int 1]) := keep_at (keep_at upd_same n7) n8
  have a7 : upd (upd (upd H2 p6 (HO.tup [V.int 2, V.int 1])) p7 (HO.tup [V.int 2, V.int 0])) p8 (HO.tup [V.ref p6, V.ref p7]) p7 = some (HO.tup [V.int 2, V.int 0]) := keep_at upd_same n8
  have a8 : upd (upd (upd H2 p6 (HO.tup [V.int 2, V.int 1])) p7 (HO.tup [V.int 2, V.int 0])) p8 (HO.tup [V.ref p6, V.ref p7]) p8 = some (HO.tup [V.ref p6, V.ref p7]) := upd_same
  clear up nd a0
  generalize upd (upd (upd H2 p6 (HO.tup [V.int 2, V.int 1])) p7 (HO.tup [V.int 2, V.int 0])) p8 (HO.tup [V.ref p6, V.ref p7]) = H3 at *
  refine ⟨p8, _, rfl, .inl (.inl a8), rfl, _, _, rfl, ?_⟩
  walk_at "rd"
  have b1 : DPut H3 d (V.str (Str.ofString "over")) (V.ref p6) _ := DPut.k (k := Sum.inr (Str.ofString "over")) e0 (by rw [sizeLine_eq]; unfold needK; exact (by decide : 5 < 16777216))
  have m6 : putK (needK [p1, p2, p3, p4, p5]) (Sum.inr (Str.ofString "over")) (V.ref p6) = needK [p1, p2, p3, p4, p5, p6] := by kernel_rfl
  have m7 : putK (needK [p1, p2, p3, p4, p5, p6]) (Sum.inr (Str.ofString "swap")) (V.ref p7) = needK [p1, p2, p3, p4, p5, p6, p7] := by kernel_rfl
  rw [m6] at b1
  have e1 : upd H3 d (HO.dK (needK [p1, p2, p3, p4, p5, p6])) d = some (HO.dK (needK [p1, p2, p3, p4, p5, p6])) := upd_same
  have b2 : DPut (upd H3 d (HO.dK (needK [p1, p2, p3, p4, p5, p6]))) d (V.str (Str.ofString "swap")) (V.ref p7) _ := DPut.k (k := Sum.inr (Str.ofString "swap")) e1 (by rw [sizeLine_eq]; unfold needK; exact (by decide : 6 < 16777216))
  rw [m7, upd_upd] at b2
  have e2 : upd H3 d (HO.dK (needK [p1, p2, p3, p4, p5, p6, p7])) d = some (HO.dK (needK [p1, p2, p3, p4, p5, p6, p7])) := upd_same
  have nd : ∀ {x : Addr} {xs : List V}, H3 x = some (.tup xs) → upd H3 d (HO.dK (needK [p1, p2, p3, p4, p5, p6, p7])) x = some (.tup xs) := fun {x xs} e => (upd_ne (ne_of e e0 (by intro z; cases z))).trans e
  replace a1 := nd a1
  replace a2 := nd a2
  replace a3 := nd a3
  replace a4 := nd a4
  replace a5 := nd a5
  replace a6 := nd a6
  replace a7 := nd a7
  have s4 : Same H (upd H3 d (HO.dK (needK [p1, p2, p3, p4, p5, p6, p7]))) := fun b o e => (upd_ne (ne_of_none e hd0)).trans (s3 _ _ e)
  refine ⟨d, _, rfl, b1, d, _, rfl, b2, ?_⟩
  clear nd b1 b2 e1
  generalize upd H3 d (HO.dK (needK [p1, p2, p3, p4, p5, p6, p7])) = H4 at *
  walk_at "rd"
  refine ⟨.inl ⟨_, .inl e2⟩, two, fun p9 n9 => ?_⟩
  have g := DGet.k (k := Sum.inr r.word) (keep_at (u := HO.tup [V.int 2, V.int (-1)]) e2 n9)
  have s5 := s4.trans (same_new (o := HO.tup [V.int 2, V.int (-1)]) n9)
  have fin : ∀ (o : Option V) (x : Addr), valV (needK [p1, p2, p3, p4, p5, p6, p7]) (Sum.inr r.word) = o → o.getD (V.ref p9) = V.ref x → upd H4 p9 (HO.tup [V.int 2, V.int (-1)]) x = some (.tup [.int r.touch, .int r.more]) →
      ∃ o, DGet (upd H4 p9 (HO.tup [V.int 2, V.int (-1)])) d (V.str r.word) o ∧ Q (o.getD (V.ref p9)) (upd H4 p9 (HO.tup [V.int 2, V.int (-1)])) := fun o x h1 h2 h3 => by
    rw [h1] at g
    refine ⟨o, g, ?_⟩
    rw [h2]
    exact q _ x s5 (.inl (.inl h3))
  cases r with
  | put n => exact fin (some (.ref p1)) p1 (by kernel_rfl) rfl (keep_at a1 n9)
  | hear => exact fin (some (.ref p2)) p2 (by kernel_rfl) rfl (keep_at a2 n9)
  | same => exact fin (some (.ref p3)) p3 (by kernel_rfl) rfl (keep_at a3 n9)
  | drop => exact fin (some (.ref p4)) p4 (by kernel_rfl) rfl (keep_at a4 n9)
  | tell => exact fin (some (.ref p5)) p5 (by kernel_rfl) rfl (keep_at a5 n9)
  | over => exact fin (some (.ref p6)) p6 (by kernel_rfl) rfl (keep_at a6 n9)
  | swap => exact fin (some (.ref p7)) p7 (by kernel_rfl) rfl (keep_at a7 n9)
  | _ => exact fin none p9 (by kernel_rfl) rfl upd_same
theorem ok_rows (T : Tx w K mg) (F__law_next : Cal P w K mg base 3 "_law_next" (sp__law_next K) []) (F__law_needs : Cal P w K mg base 1 "_law_needs" (sp__law_needs K) []) : Cal P w K mg base 4 "_law_rows" (sp__law_rows K) [] := by
  refine cal_of T.D__law_rows T.g__law_rows sc__law_rows (fun _ _ _ _ _ _ us hl => match us, hl with | [_, _, _, _], _ => rfl) (by walk_at "len") fun cdv A outer s H vs Q E hr h => ?_
  refine ⟨_, (pss_cons (ps_par (i := 4) (j := 5) rfl sc__law_rows.nd rfl rfl (by decide) rfl rfl (pa_cons (pe_lst pa_nil) (pa_cons (pe_lst (pa_cons pe_str (pa_cons pe_str (pa_cons pe_str (pa_cons pe_str (pa_cons pe_str (pa_cons pe_str (pa_cons pe_str (pa_cons pe_str (pa_cons pe_str (pa_cons pe_str (pa_cons pe_str pa_nil)))))))))))) pa_nil)) rfl)
    (pss_cons (ps_for PassesOwn.never rfl (pi_range1 (by rfl) T.b_range (pa_cons (pv 3) pa_nil)) (pg_name (i := 6) sc__law_rows.nd rfl (by first | exact Or.inl rfl | exact Or.inr rfl)) (pss_cons (ps_set (i := 7) sc__law_rows.nd rfl (by first | exact Or.inl rfl | exact Or.inr rfl) (pe_ix (r := rIx K) ix_seq (pv 5) (pe_c F__law_next hr (by decide) (by rfl) (pa_cons (pv 0) (pa_cons pe_int pa_nil))) (fun _ _ => rfl)))
    (pss_one (ps_if (PW.pt (pw_and (pt_cmpR op_le (pe_ix (r := rIx K) ix_seq (pe_c F__law_needs hr (by decide) (by rfl) (pa_cons (pv 7) pa_nil)) pe_int (fun _ _ => rfl)) (pv 1) (nomark _)) (pw_and1 (pt_cmpR op_le (pe_op op_add (pv 1) (pe_ix (r := rIx K) ix_seq (pe_c F__law_needs hr (by decide) (by rfl) (pa_cons (pv 7) pa_nil)) pe_int (fun _ _ => rfl))) (pe_callB (call_min2' rfl) (by rfl) T.b_min (by decide +kernel) (pa_cons pe_int (pa_cons (pe_op op_sub (pe_op op_add (pv 2) pe_int) (pe_callB (r := rLenQ K) call_lenQ (by rfl) T.b_len (by decide +kernel) (pa_cons (pv 4) pa_nil))) pa_nil))) (nomark _))))) (pss_cons (ps_expr (pe_bm PySem.F.plainAttrs_list PySem.F.slot_list_append PySem.F.type_list_append mt_append (pv 4) (pa_cons (pe_ifExp (pt_cmpR op_eq (pv 7) pe_str (nomark _)) (pe_tup (pa_cons (pv 7) (pa_cons (pe_ix (r := rIx K) ix_seq (pe_tup (pa_cons pe_int (pa_cons pe_int (pa_cons (pe_un un_neg pe_int) (pa_cons pe_int (pa_cons pe_int pa_nil)))))) (pe_c F__law_next hr (by decide) (by rfl) (pa_cons (pv 0) (pa_cons pe_int pa_nil))) (fun _ _ => rfl)) pa_nil))) (pe_tup (pa_cons (pv 7) pa_nil))) pa_nil)))
    (pss_one (ps_set (i := 1) sc__law_rows.nd rfl (by first | exact Or.inl rfl | exact Or.inr rfl) (pe_op op_add (pv 1) (pe_ix (r := rIx K) ix_seq (pe_c F__law_needs hr (by decide) (by rfl) (pa_cons (pv 7) pa_nil)) pe_int (fun _ _ => rfl)))))) pss_nil))))
    (pss_cons (ps_while PassesOwn.never (pt_cmpR op_gt (pv 1) (pv 2) (nomark _)) (pss_cons (ps_expr (pe_bm PySem.F.plainAttrs_list PySem.F.slot_list_append PySem.F.type_list_append mt_append (pv 4) (pa_cons (pe_tup (pa_cons (pe_ix (r := rIx K) ix_seq (pe_tup (pa_cons pe_str (pa_cons pe_str pa_nil))) (pe_c F__law_next hr (by decide) (by rfl) (pa_cons (pv 0) (pa_cons pe_int pa_nil))) (fun _ _ => rfl)) pa_nil)) pa_nil)))
    (pss_one (ps_set (i := 1) sc__law_rows.nd rfl (by first | exact Or.inl rfl | exact Or.inr rfl) (pe_op op_sub (pv 1) pe_int)))))
    (pss_cons (ps_while PassesOwn.never (pt_cmpR op_lt (pv 1) (pv 2) (nomark _)) (pss_cons (ps_expr (pe_bm PySem.F.plainAttrs_list PySem.F.slot_list_append PySem.F.type_list_append mt_append (pv 4) (pa_cons (pe_ifExp (PW.pt (pw_or (pt_cmpR op_eq (pe_c F__law_next hr (by decide) (by rfl) (pa_cons (pv 0) (pa_cons pe_int pa_nil))) pe_int (nomark _)) (pw_or1 (pt_cmpR op_eq (pv 1) pe_int (nomark _))))) (pe_tup (pa_cons pe_str (pa_cons (pe_c F__law_next hr (by decide) (by rfl) (pa_cons (pv 0) (pa_cons pe_int pa_nil))) pa_nil))) (pe_tup (pa_cons pe_str pa_nil))) pa_nil)))
    (pss_one (ps_set (i := 1) sc__law_rows.nd rfl (by first | exact Or.inl rfl | exact Or.inr rfl) (pe_op op_add (pv 1) pe_int)))))
    (pss_one (ps_ret (pv 4))))))), ?_⟩
  obtain ⟨ms, st, high, aim, many, sc, b, k0, ns, rfl, tk0, stm, est, esq, hb0, hk0, h0, h1, h2, h3, h40, h4, q⟩ := h
  walk_at "rd"
  have z0 : 0 ≤ sizeLine := Nat.zero_le _
  have z1 : 11 ≤ sizeLine := by rw [sizeLine_eq]; omega
  refine ⟨z0, fun f hf => ⟨z1, fun wh hwh => ?_⟩⟩
  have i0 : RI K H (upd (upd H f (.lst [])) wh (.lst (rowsAll.map fun r => V.str r.word))) ms st f wh sc b ns [] :=
    ⟨tk0, stm, Sx.of ((same_new hf).trans (same_new hwh)), ⟨k0, est⟩, esq, hb0, hf, (same_new hf).free hwh, (ne_of_none upd_same hwh).symm, ⟨k0, hk0, keep_at (keep_at est hf) hwh⟩, upd_same, ⟨[], keep_at upd_same hwh, .nil⟩⟩
  refine a_for ?_
  walk_at "rd"
  refine ⟨by omega, by omega, ?_⟩
  refine for_go2 walk_range (fun i σ H1 => ∃ rs now o6 o7, σ = [some (.ref st), some (.int now), some (.int aim), some (.int many), some (.ref f), some (.ref wh), o6, o7] ∧ RI K H H1 ms st f wh sc b ns rs ∧ Up high rs now ∧ 0 ≤ now ∧ now ≤ 12 ∧ rs.length ≤ i) ⟨[], high, _, _, rfl, i0, .nil, h0, h1, Nat.le_refl _⟩ (fun _ _ _ _ _ => trivial) ?_ ?_
  · rintro Pw yes i y σ H1 H2 hi ⟨rs, now, o6, o7, rfl, ri, up, n0, n1, hlen⟩ ⟨e0, ey⟩
    subst e0 ey
    have hi2 : i < 12 := by omega
    walk_at "rd"
    obtain ⟨k, hk, ek⟩ := ri.now
    refine ⟨st, sc, b, k, 11, ns, rfl, ek, ri.sqL, hb0, hk, by decide, fun H2 v sx e2 v0 v1 => ?_⟩
    replace ri := ri.step (by omega) sx e2
    obtain ⟨x, ex, hx⟩ := atI_nat (xs := rowsAll.map fun r => V.str r.word) v0 (by exact v1)
    obtain ⟨r, hr, rfl⟩ := List.mem_map.mp hx
    refine a_ixV (SqL.of ri.words) ex ?_
    refine ⟨r, rfl, fun H3 a s3 ha => ?_⟩
    replace ri := ri.grow s3
    refine a_ixTV ha atI_0 ⟨_, rfl, ?_⟩
    split
    next g1 =>
      refine ⟨r, rfl, fun H4 a4 s4 ha4 => ?_⟩
      replace ri := ri.grow s4
      refine a_ixTV ha4 atI_1 ⟨_, rfl, ?_⟩
      obtain ⟨vs, evs, avs, lvs⟩ := ri.len
      refine ⟨f, vs, rfl, .inl (SqL.of evs), ?_⟩
      walk_at "rd"
      have back_ : ∀ (H5 : Hp) (q : Row), q.word = r.word → q.more = r.more → RI K H H5 ms st f wh sc b ns (rs ++ [q]) → Up high (rs ++ [q]) (now + q.more) → 0 ≤ now + q.more → now + q.more ≤ 12 → sp__law_needs K [.str r.word] H5 (fun x H1 => rIx K x (.int 1) H1 fun y H2 => ∃ x, y = .int x ∧ Pw (i + 1)
          [some (.ref st), some (.int (now + x)), some (.int aim), some (.int many), some (.ref f), some (.ref wh), some (.int (0 + (i : Nat))), some (.str r.word)] H2) C8.E0 := fun H5 q ew em ri5 up5 m0 m1 => by
        refine ⟨q, by rw [ew], fun H6 a6 s6 ha6 => ?_⟩
        refine a_ixTV ha6 atI_1 ⟨_, rfl, yes _ _ _ ⟨rs ++ [q], now + q.more, _, _, rfl, ri5.grow s6, up5, m0, m1, by rw [List.length_append, List.length_singleton]; omega⟩⟩
      refine ⟨_, _, rfl, _, rfl, ?_⟩
      split
      next g2 =>
        have g3 : now + r.more ≤ 12 := by omega
        have nn : 0 ≤ now + r.more := by
          have : (r.touch : Int) + r.more ≥ 0 := by cases r <;> (simp only [Row.touch, Row.more]; decide)
          omega
        refine ⟨.inl ⟨rfl, _, SqL.of evs⟩, ?_⟩
        by_cases hp : r.word = Str.ofString "put"
        · obtain ⟨n9, rfl⟩ : ∃ n, r = .put n := by
            cases r <;> first
              | exact ⟨_, rfl⟩
              | exact absurd hp (by simp only [Row.word]; decide +kernel)
          rw [if_pos hp]
          refine ⟨by rw [sizeLine_eq]; omega, fun p5 np5 => ?_⟩
          have s5 := same_new (o := HO.tup [V.int 0, V.int 1, V.int (-1), V.int 7, V.int 32767]) np5
          have e5 : upd H4 p5 (HO.tup [V.int 0, V.int 1, V.int (-1), V.int 7, V.int 32767]) p5 = some (HO.tup [V.int 0, V.int 1, V.int (-1), V.int 7, V.int 32767]) := upd_same
          replace ri := ri.grow s5
          generalize upd H4 p5 (HO.tup [V.int 0, V.int 1, V.int (-1), V.int 7, V.int 32767]) = H5 at *
          obtain ⟨k5, hk5, ek5⟩ := ri.now
          refine ⟨st, sc, b, k5, 5, ns, rfl, ek5, ri.sqL, hb0, hk5, by decide, fun H6 v6 sx6 e6 v60 v61 => ?_⟩
          have np5s : p5 ∉ [st] := fun z => by rw [List.mem_singleton.mp z, ek5] at e5; cases e5
          replace e5 := sx6 _ _ np5s e5
          replace ri := ri.step (by omega) sx6 e6
          obtain ⟨x, ex, hx⟩ := atI_nat (xs := [V.int 0, V.int 1, V.int (-1), V.int 7, V.int 32767]) v60 (by exact v61)
          obtain ⟨n, rfl, hn⟩ : ∃ n, x = V.int n ∧ -32768 ≤ n ∧ n ≤ 32767 := by
            simp only [List.mem_cons, List.not_mem_nil, or_false] at hx
            rcases hx with rfl | rfl | rfl | rfl | rfl <;> exact ⟨_, rfl, by decide, by decide⟩
          refine a_ixTV (.inl (.inl e5)) ex ⟨by rw [sizeLine_eq]; omega, fun p7 np7 => ?_⟩
          have s7 := same_new (o := HO.tup [V.str (Row.put n9).word, V.int n]) np7
          have ri7 := ri.grow s7
          obtain ⟨vs7, e7, a7, l7⟩ := ri7.len
          have tk7 := ri.tk
          refine ⟨f, vs7, _, rfl, rfl, e7, by rw [l7, sizeLine_eq]; omega, ?_⟩
          refine back_ _ (.put n) rfl rfl (ri7.app e7 a7 (.tup (.inl (.inl (new_at tk7 np7))) (.cons (.str _) (.cons (.int n) .nil)))) (up.snoc g1 g3 (fun m e => by cases e; exact hn)) nn g3
        · rw [if_neg hp]
          refine ⟨by rw [sizeLine_eq]; omega, fun p7 np7 => ?_⟩
          have s7 := same_new (o := HO.tup [V.str r.word]) np7
          have ri7 := ri.grow s7
          obtain ⟨vs7, e7, a7, l7⟩ := ri7.len
          have tk7 := ri.tk
          refine ⟨f, vs7, _, rfl, rfl, e7, by rw [l7, sizeLine_eq]; omega, ?_⟩
          have nop : ∀ n, r ≠ .put n := fun n e => hp (by rw [e]; rfl)
          have ea : r.d = .tuple [.str r.word] := by
            cases r <;> first
              | exact absurd rfl (nop _)
              | rfl
          exact back_ _ r rfl rfl (ri7.app e7 a7 (by rw [ea]; exact .tup (.inl (.inl (new_at tk7 np7))) (.cons (.str _) .nil))) (up.snoc g1 g3 (fun m e => absurd e (nop m))) nn g3
      next g2 => exact yes _ _ _ ⟨rs, now, _, _, rfl, ri, up, n0, n1, by omega⟩
    next g1 => exact yes _ _ _ ⟨rs, now, _, _, rfl, ri, up, n0, n1, by omega⟩
  · rintro σ H1 ⟨rs, now, o6, o7, rfl, ri, up, n0, n1, hlen⟩
    walk_at "rd"
    refine while_go (fun m σ H2 => ∃ rs now o6 o7, σ = [some (.ref st), some (.int now), some (.int aim), some (.int many), some (.ref f), some (.ref wh), o6, o7] ∧ RI K H H2 ms st f wh sc b ns rs ∧ Up high rs now ∧ 0 ≤ now ∧ now ≤ 12 ∧ (rs.length : Int) + now ≤ 30 ∧ m = (now - aim).toNat) _ ⟨rs, now, _, _, rfl, ri, up, n0, n1, by omega, rfl⟩ ?_
    rintro Pw yes m σ H2 ⟨rs, now, o6, o7, rfl, ri, up, n0, n1, hlen, rfl⟩
    walk_at "rd"
    split
    next g1 =>
      refine ⟨_, fun σ' H' q => q, ?_⟩
      obtain ⟨vs, evs, avs, lvs⟩ := ri.len
      refine ⟨.inl ⟨rfl, _, SqL.of evs⟩, by rw [sizeLine_eq]; omega, fun p5 np5 => ?_⟩
      have s5 := same_new (o := HO.tup [V.str (Str.ofString "drop"), V.str (Str.ofString "tell")]) np5
      have e5 : upd H2 p5 (HO.tup [V.str (Str.ofString "drop"), V.str (Str.ofString "tell")]) p5 = some (HO.tup [V.str (Str.ofString "drop"), V.str (Str.ofString "tell")]) := upd_same
      replace ri := ri.grow s5
      generalize upd H2 p5 (HO.tup [V.str (Str.ofString "drop"), V.str (Str.ofString "tell")]) = H5 at *
      obtain ⟨k5, hk5, ek5⟩ := ri.now
      refine ⟨st, sc, b, k5, 2, ns, rfl, ek5, ri.sqL, hb0, hk5, by decide, fun H6 v6 sx6 e6 v60 v61 => ?_⟩
      have np5s : p5 ∉ [st] := fun z => by rw [List.mem_singleton.mp z, ek5] at e5; cases e5
      replace e5 := sx6 _ _ np5s e5
      replace ri := ri.step (by omega) sx6 e6
      obtain ⟨x, ex, hx⟩ := atI_nat (xs := [V.str (Str.ofString "drop"), V.str (Str.ofString "tell")]) v60 (by exact v61)
      obtain ⟨r, rfl, er, et, em⟩ : ∃ r : Row, x = V.str r.word ∧ r.d = .tuple [.str r.word] ∧ r.touch = 1 ∧ r.more = -1 ∧ ∀ n, r ≠ .put n := by
        simp only [List.mem_cons, List.not_mem_nil, or_false] at hx
        rcases hx with rfl | rfl
        · exact ⟨.drop, rfl, rfl, rfl, rfl, fun n z => nomatch z⟩
        · exact ⟨.tell, rfl, rfl, rfl, rfl, fun n z => nomatch z⟩
      refine a_ixTV (.inl (.inl e5)) ex ⟨by rw [sizeLine_eq]; omega, fun p7 np7 => ?_⟩
      have s7 := same_new (o := HO.tup [V.str r.word]) np7
      have ri7 := ri.grow s7
      obtain ⟨vs7, e7, a7, l7⟩ := ri7.len
      refine ⟨f, vs7, _, rfl, rfl, e7, by rw [l7, sizeLine_eq]; omega, ?_⟩
      have up7 := up.snoc (r := r) (by omega) (by omega) (fun n z => absurd z (em.2 n))
      refine ⟨(now - 1 - aim).toNat, by omega, yes _ _ _ ⟨rs ++ [r], now - 1, _, _, rfl, ri7.app e7 a7 (by rw [er]; exact .tup (.inl (.inl (new_at ri.tk np7))) (.cons (.str _) .nil)), by rw [em.1] at up7; exact up7, by omega, by omega, by rw [List.length_append, List.length_singleton]; omega, rfl⟩⟩
    next g1 =>
      refine while_go (fun m σ H2 => ∃ rs now o6 o7, σ = [some (.ref st), some (.int now), some (.int aim), some (.int many), some (.ref f), some (.ref wh), o6, o7] ∧ RI K H H2 ms st f wh sc b ns rs ∧ Up high rs now ∧ 0 ≤ now ∧ now ≤ aim ∧ (rs.length : Int) + (aim - now) ≤ 60 ∧ m = (aim - now).toNat) _ ⟨rs, now, _, _, rfl, ri, up, n0, by omega, by omega, rfl⟩ ?_
      rintro Pw yes m σ H3 ⟨rs, now, o6, o7, rfl, ri, up, n0, n1, hlen, rfl⟩
      walk_at "rd"
      split
      next g2 =>
        refine ⟨_, fun σ' H' q => q, ?_⟩
        have putc : ∀ (H6 : Hp), RI K H H6 ms st f wh sc b ns rs → sp__law_next K [.ref st, .int 9] H6 (fun x H1 => 2 ≤ sizeLine ∧ ∀ (p : Addr), H1 p = none → rAppend (.ref f) [.ref p] (upd H1 p (HO.tup [.str (Str.ofString "put"), x])) fun x H1 => ∃ m', m' < (aim - now).toNat ∧ Pw m'
            [some (.ref st), some (.int (now + 1)), some (.int aim), some (.int many), some (.ref f), some (.ref wh), o6, o7] H1) C8.E0 := fun H6 ri => by
          obtain ⟨k5, hk5, ek5⟩ := ri.now
          refine ⟨st, sc, b, k5, 9, ns, rfl, ek5, ri.sqL, hb0, hk5, by decide, fun H7 v7 sx7 e7 v70 v71 => ⟨by rw [sizeLine_eq]; omega, fun p7 np7 => ?_⟩⟩
          replace ri := ri.step (by omega) sx7 e7
          have ri7 := ri.grow (same_new (o := HO.tup [V.str (Str.ofString "put"), V.int v7]) np7)
          obtain ⟨vs7, e7, a7, l7⟩ := ri7.len
          refine ⟨f, vs7, _, rfl, rfl, e7, by rw [l7, sizeLine_eq]; omega, (aim - (now + 1)).toNat, by omega, yes _ _ _ ⟨rs ++ [.put v7], now + 1, _, _, rfl, ri7.app e7 a7 (.tup (.inl (.inl (new_at ri.tk np7))) (.cons (.str _) (.cons (.int v7) .nil))), up.snoc (r := .put v7) n0 (by show now + 1 ≤ 12; omega) (fun n z => by cases z; omega), by omega, by omega, by rw [List.length_append, List.length_singleton]; omega, rfl⟩⟩
        obtain ⟨vs, evs, avs, lvs⟩ := ri.len
        refine ⟨.inl ⟨rfl, _, SqL.of evs⟩, ?_⟩
        obtain ⟨k5, hk5, ek5⟩ := ri.now
        refine ⟨st, sc, b, k5, 2, ns, rfl, ek5, ri.sqL, hb0, hk5, by decide, fun H6 v6 sx6 e6 v60 v61 => ?_⟩
        replace ri := ri.step (by omega) sx6 e6
        refine ⟨rfl, ?_⟩
        split
        next g3 => exact putc H6 ri
        next g3 =>
          split
          next g4 => exact putc H6 ri
          next g4 =>
            refine ⟨by rw [sizeLine_eq]; omega, fun p7 np7 => ?_⟩
            have ri7 := ri.grow (same_new (o := HO.tup [V.str (Str.ofString "same")]) np7)
            obtain ⟨vs7, e7, a7, l7⟩ := ri7.len
            refine ⟨f, vs7, _, rfl, rfl, e7, by rw [l7, sizeLine_eq]; omega, (aim - (now + 1)).toNat, by omega, yes _ _ _ ⟨rs ++ [.same], now + 1, _, _, rfl, ri7.app e7 a7 (.tup (.inl (.inl (new_at ri.tk np7))) (.cons (.str _) .nil)), up.snoc (r := .same) (by show (1 : Int) ≤ now; omega) (by show now + 1 ≤ 12; omega) (fun n z => nomatch z), by omega, by omega, by rw [List.length_append, List.length_singleton]; omega, rfl⟩⟩
      next g2 =>
        have e : now = aim := by omega
        subst e
        obtain ⟨⟨k9, hk9, e9⟩, o2⟩ := ri.out
        exact q _ f rs k9 ri.s0 e9 hk9 hf o2 up.ok up.at_ up.puts (by omega)
end
end Pb

/-! L3a -/
set_option Elab.async false
set_option linter.all false
set_option maxRecDepth 100000
set_option maxHeartbeats 4000000
namespace Pb
open PySem PySem.Spec PyProof.Rows L2
open C8 (Cal Mak Met pe_c pe_mk pe_mt pe_mt0 pe_gc fnScope_by)
/-! short words -/
local macro_rules | `(tactic| walk_at "rd") => `(tactic| try simp only [tVar, tC, tAdd, tSub, t2I, tIsN, tNotN, tB, tAnd, tOr, tNot, tAndV, tOrV, tNotV, tIf, tSeq, tPar, tPar3, tNext, tBreak, tCont, tDrop, tRet, tRetN, tIfS, gName, gNil, gCons, gTup, gSub, tAsg, tAug, ipI, iList, iTup, iRng1, iRng2, iStr, iEnum, iZip,
  tOp, tUn, rI, rI0, rU, tTest, tChain, tFld, sFld, sFldAug, L2.rAdd, L2.rSub, tNil, tCons, tTup, tLst, tCall, tMeth, tMake, tCB, tNoPart, tPart, tSl, tBM0, tBM, tDGet, tDGet1, tDGet2, tDIn, tDNotIn, sDPut, tDNewK, rEq, rNe, scal_ii, scal_ss, scal_bb, scal_nn, scal_ni, scal_in, scal_ns, scal_sn, scal_is, scal_si, List.take_succ_cons, List.take_zero, List.drop_succ_cons, List.drop_zero, upd_same, upd_upd, and_assoc, tKGet, gStar, tDisp, tPairs, tYes,
  L2.start, List.map_cons, List.map_nil, List.length_cons, List.length_nil, List.cons_append, List.nil_append, List.append_nil, List.replicate, Nat.sub_self, Nat.add_sub_cancel, Nat.reduceAdd, Nat.reduceSub, List.set_cons_zero, List.set_cons_succ, List.getElem?_cons_zero, List.getElem?_cons_succ,
  Option.some.injEq, V.int.injEq, V.bl.injEq, V.str.injEq, V.ref.injEq, exists_eq_left', exists_eq_left, exists_eq', exists_eq, true_and, and_true, if_true, if_false, Bool.false_eq_true, List.cons.injEq, Bool.not_true, Bool.not_false, cxK, cxP, cxW, ite_true, ite_false, wipe, reduceCtorEq, and_self, decide_true, decide_false, exists_and_left, exists_const, decide_eq_true_eq])
local macro_rules | `(tactic| walk_at "len") => `(tactic| (intro vs H Q E h; repeat (first | (obtain ⟨e, _⟩ := h; subst e; rfl) | (obtain ⟨_, h⟩ := h))))
local macro_rules | `(tactic| walk_at "wd") => `(tactic| simp (config := {decide := true}) only [V.str.injEq, scal_ss, true_and, if_true, if_false])

/-! ### made blocks are code -/
def allLabels : List Str := ["a", "put", "b", "go", "c", "if"]
def hOf (ls : List Str) (hs : List Int) (l : Str) : Int := (((ls.zip hs).find? fun q => decide (q.1 = l)).map (·.2)).getD 0
def Chain (bs : List Blk) : Prop := ∀ i b c, bs[i]? = some b → bs[i + 1]? = some c → c.label ∈ b.fin.labels
/-- the end of the j-th block; aim: how high its rows lead -/
inductive EndOk (ls : List Str) (hs : List Int) (j : Nat) (aim : Int) : Fin → Prop where
  | stop (h : ¬ j + 1 < ls.length) (h0 : 0 ≤ aim) (h1 : aim ≤ 12) : EndOk ls hs j aim .stop
  | go (a : Nat) (l : Str) (ha : ls[a]? = some l) (hj : j + 1 < ls.length → a = j + 1) (h : hs[a]? = some aim) : EndOk ls hs j aim (.go l)
  | iff (a c : Nat) (l m : Str) (ha : ls[a]? = some l) (hc : ls[c]? = some m) (hj : j + 1 < ls.length → a = j + 1) (h : hs[a]? = some (aim - 1)) (h2 : hs[c]? = some (aim - 1)) (e : Fin) (he : e = .iff l m ∨ e = .iff m l) : EndOk ls hs j aim e
structure BlkOk1 (ls : List Str) (hs : List Int) (j : Nat) (b : Blk) : Prop where
  label : ls[j]? = some b.label
  rows : ∃ high aim, hs[j]? = some high ∧ Up high b.rows aim ∧ EndOk ls hs j aim b.fin
structure Labels (ls : List Str) (hs : List Int) : Prop where
  ex : ∃ n, ls = allLabels.take n ∧ 1 ≤ n ∧ n ≤ 6
  len : hs.length = ls.length
  first : hs[0]? = some 0
  range : ∀ h ∈ hs, 0 ≤ h ∧ h ≤ 6
theorem Labels.size {ls : List Str} {hs : List Int} (L : Labels ls hs) : 1 ≤ ls.length ∧ ls.length ≤ 6 := by
  obtain ⟨n, rfl, h1, h2⟩ := L.ex
  rw [List.length_take]
  have : allLabels.length = 6 := rfl
  omega
theorem Labels.nodup {ls : List Str} {hs : List Int} (L : Labels ls hs) : ls.Nodup := by
  obtain ⟨n, rfl, h1, h2⟩ := L.ex
  exact List.Nodup.sublist (List.take_sublist _ _) (by decide +kernel)
theorem Labels.name {ls : List Str} {hs : List Int} (L : Labels ls hs) {l : Str} (h : l ∈ ls) : nameS l = true := by
  obtain ⟨n, rfl, h1, h2⟩ := L.ex
  have q : allLabels.all nameS = true := by decide +kernel
  exact List.all_eq_true.mp q l (List.mem_of_mem_take h)
theorem hOf_at : ∀ {ls : List Str} {hs : List Int} {i : Nat} {l : Str} {h : Int}, ls.Nodup → ls[i]? = some l → hs[i]? = some h → hOf ls hs l = h
  | [], _, _, _, _, _, e, _ => by simp at e
  | _ :: _, [], _, _, _, _, _, e => by simp at e
  | x :: ls, y :: hs, 0, l, h, nd, e1, e2 => by
    simp at e1 e2
    subst e1 e2
    unfold hOf
    rw [List.zip_cons_cons, List.find?_cons_of_pos (by exact decide_eq_true rfl)]
    rfl
  | x :: ls, y :: hs, i + 1, l, h, nd, e1, e2 => by
    have nd2 := List.nodup_cons.mp nd
    have e1' : ls[i]? = some l := by simpa using e1
    have ne : ¬ x = l := fun z => nd2.1 (by rw [z]; exact List.mem_of_getElem? e1')
    have ih := hOf_at (i := i) nd2.2 e1' (by simpa using e2)
    unfold hOf at ih ⊢
    rw [List.zip_cons_cons, List.find?_cons_of_neg (by show ¬ decide (x = l) = true; rw [decide_eq_false ne]; exact Bool.false_ne_true)]
    exact ih
theorem wok_end {h : Int} {rs : List Row} {e : Fin} {aim : Int} (u : Up h rs aim) (h1 : (e.touch : Int) ≤ aim) (h2 : aim + e.more ≤ 12) : wok h (rs.map Row.word ++ [e.word]) :=
  wok_snoc u.ok (by rw [Fin.touch_eq, u.at_]; exact h1) (by rw [Fin.more_eq, u.at_]; exact h2)
theorem gen_good {ls : List Str} {hs : List Int} {bs : List Blk} (L : Labels ls hs) (hl : bs.length = ls.length) (ok : ∀ j b, bs[j]? = some b → BlkOk1 ls hs j b) (few : ∀ b ∈ bs, b.rows.length ≤ 12) : Good bs (hOf ls hs) ∧ Chain bs := by
  have labs : bs.map Blk.label = ls := by
    refine List.ext_getElem? fun i => ?_
    rw [List.getElem?_map]
    cases e : bs[i]? with
    | none =>
      have := List.getElem?_eq_none_iff.mp e
      exact (List.getElem?_eq_none_iff.mpr (by omega)).symm
    | some b => exact (ok i b e).label.symm
  have idx : ∀ {b : Blk}, b ∈ bs → ∃ j, bs[j]? = some b := fun {b} hb => by
    obtain ⟨j, hj, e⟩ := List.getElem_of_mem hb
    exact ⟨j, by rw [List.getElem?_eq_getElem hj, e]⟩
  have chain : Chain bs := fun i b c e1 e2 => by
    have o1 := ok i b e1
    have o2 := ok (i + 1) c e2
    obtain ⟨high, aim, h1, u, en⟩ := o1.rows
    have hlt : i + 1 < ls.length := by
      have := (List.getElem?_eq_some_iff.mp e2).1
      omega
    cases en' : b.fin with
    | stop =>
      rw [en'] at en
      cases en with
      | stop h _ _ => exact absurd hlt h
      | iff a c l m ha hc hj h h2 e he => rcases he with he | he <;> cases he
    | go l =>
      rw [en'] at en
      cases en with
      | go a l ha hj h =>
        rw [hj hlt, o2.label] at ha
        cases ha
        exact List.mem_singleton.mpr rfl
      | iff a c l m ha hc hj h h2 e he => rcases he with he | he <;> cases he
    | iff l1 l2 =>
      rw [en'] at en
      cases en with
      | iff a c2 l m ha hc hj h h2 e he =>
        rw [hj hlt, o2.label] at ha
        cases ha
        rcases he with he | he
        · cases he; exact List.mem_cons_self ..
        · cases he; exact List.mem_cons_of_mem _ (List.mem_singleton.mpr rfl)
  have hat : ∀ {a : Nat} {l : Str} {h : Int}, ls[a]? = some l → hs[a]? = some h → hOf ls hs l = h := fun e1 e2 => hOf_at L.nodup e1 e2
  have sz := L.size
  refine ⟨⟨by omega, by omega, fun b hb => ?_, few, fun b hb => ?_, by rw [labs]; exact L.nodup, fun b e => ?_, fun b hb => ?_, fun b hb l hl2 => ?_, fun b hb => ?_⟩, chain⟩
  · exact L.name (by rw [← labs]; exact List.mem_map.mpr ⟨b, hb, rfl⟩)
  · obtain ⟨j, e⟩ := idx hb
    obtain ⟨high, aim, h1, u, en⟩ := (ok j b e).rows
    exact u.puts
  · have e0 : bs[0]? = some b := by rw [← e]; cases bs <;> rfl
    exact hat (ok 0 b e0).label L.first
  · obtain ⟨j, e⟩ := idx hb
    obtain ⟨high, aim, h1, u, en⟩ := (ok j b e).rows
    rw [hat (ok j b e).label h1]
    unfold Blk.words
    have rg : ∀ {a : Nat} {h : Int}, hs[a]? = some h → 0 ≤ h ∧ h ≤ 6 := fun e => L.range _ (List.mem_of_getElem? e)
    cases en' : b.fin with
    | stop =>
      rw [en'] at en
      cases en with
      | stop h g0 g1 => exact wok_end u g0 (by show aim + 0 ≤ 12; omega)
      | iff a c l m ha hc hj h h2 e he => rcases he with he | he <;> cases he
    | go l =>
      rw [en'] at en
      cases en with
      | go a l ha hj h => exact wok_end u (rg h).1 (by have := (rg h).2; show aim + 0 ≤ 12; omega)
      | iff a c l m ha hc hj h h2 e he => rcases he with he | he <;> cases he
    | iff l1 l2 =>
      rw [en'] at en
      cases en with
      | iff a c2 l m ha hc hj h h2 e he => exact wok_end u (by have := (rg h).1; show (1 : Int) ≤ aim; omega) (by have := (rg h).2; show aim + (-1) ≤ 12; omega)
  · obtain ⟨j, e⟩ := idx hb
    obtain ⟨high, aim, h1, u, en⟩ := (ok j b e).rows
    have hout : out (hOf ls hs) b = aim + b.fin.more := by
      unfold out Blk.words
      rw [hat (ok j b e).label h1, after_snoc, u.at_, Fin.more_eq]
    rw [labs]
    cases en' : b.fin with
    | stop => rw [en'] at hl2; cases hl2
    | go l1 =>
      rw [en'] at en hl2
      rw [List.mem_singleton.mp hl2]
      cases en with
      | go a l ha hj h => exact ⟨List.mem_of_getElem? ha, by rw [hat ha h, hout, en']; show aim = aim + 0; omega⟩
      | iff a c l m ha hc hj h h2 e he => rcases he with he | he <;> cases he
    | iff l1 l2 =>
      rw [en'] at en hl2
      cases en with
      | iff a c2 x m ha hc hj h h2 e he =>
        have q : l = x ∨ l = m := by
          rcases he with he | he <;> cases he <;> rcases List.mem_cons.mp hl2 with z | z
          · exact .inl z
          · exact .inr (List.mem_singleton.mp z)
          · exact .inr z
          · exact .inl (List.mem_singleton.mp z)
        have hm : aim + b.fin.more = aim - 1 := by rw [en']; show aim + (-1) = aim - 1; omega
        rcases q with q | q
        · rw [q]; exact ⟨List.mem_of_getElem? ha, by rw [hat ha h, hout, hm]⟩
        · rw [q]; exact ⟨List.mem_of_getElem? hc, by rw [hat hc h2, hout, hm]⟩
  · have reach : ∀ (j : Nat) (b : Blk), bs[j]? = some b → Reach bs b.label := fun j => by
      induction j with
      | zero => exact fun b e => .first (by rw [← e]; cases bs <;> rfl)
      | succ j ih =>
        intro b e
        have hj : j < bs.length := by have := (List.getElem?_eq_some_iff.mp e).1; omega
        have e0 := List.getElem?_eq_getElem hj
        exact .step (List.getElem_mem hj) (ih _ e0) (chain j _ b e0 e)
    obtain ⟨j, e⟩ := idx hb
    exact reach j b e
end Pb

/-! L3 -/
set_option Elab.async false
set_option linter.all false
set_option maxRecDepth 100000
set_option maxHeartbeats 4000000
namespace Pb
open PySem PySem.Spec PyProof.Rows L2
open C8 (Cal Mak Met pe_c pe_mk pe_mt pe_mt0 pe_gc fnScope_by)
/-! short words -/
local macro_rules | `(tactic| walk_at "rd") => `(tactic| try simp only [tVar, tC, tAdd, tSub, t2I, tIsN, tNotN, tB, tAnd, tOr, tNot, tAndV, tOrV, tNotV, tIf, tSeq, tPar, tPar3, tNext, tBreak, tCont, tDrop, tRet, tRetN, tIfS, gName, gNil, gCons, gTup, gSub, tAsg, tAug, ipI, iList, iTup, iRng1, iRng2, iStr, iEnum, iZip,
  tOp, tUn, rI, rI0, rU, tTest, tChain, tFld, sFld, sFldAug, L2.rAdd, L2.rSub, tNil, tCons, tTup, tLst, tCall, tMeth, tMake, tCB, tNoPart, tPart, tSl, tBM0, tBM, tDGet, tDGet1, tDGet2, tDIn, tDNotIn, sDPut, tDNewK, rEq, rNe, scal_ii, scal_ss, scal_bb, scal_nn, scal_ni, scal_in, scal_ns, scal_sn, scal_is, scal_si, List.take_succ_cons, List.take_zero, List.drop_succ_cons, List.drop_zero, upd_same, upd_upd, and_assoc, tKGet, gStar, tDisp, tPairs, tYes,
  L2.start, List.map_cons, List.map_nil, List.length_cons, List.length_nil, List.cons_append, List.nil_append, List.append_nil, List.replicate, Nat.sub_self, Nat.add_sub_cancel, Nat.reduceAdd, Nat.reduceSub, List.set_cons_zero, List.set_cons_succ, List.getElem?_cons_zero, List.getElem?_cons_succ,
  Option.some.injEq, V.int.injEq, V.bl.injEq, V.str.injEq, V.ref.injEq, exists_eq_left', exists_eq_left, exists_eq', exists_eq, true_and, and_true, if_true, if_false, Bool.false_eq_true, List.cons.injEq, Bool.not_true, Bool.not_false, cxK, cxP, cxW, ite_true, ite_false, wipe, reduceCtorEq, and_self, decide_true, decide_false, exists_and_left, exists_const, decide_eq_true_eq])
local macro_rules | `(tactic| walk_at "len") => `(tactic| (intro vs H Q E h; repeat (first | (obtain ⟨e, _⟩ := h; subst e; rfl) | (obtain ⟨_, h⟩ := h))))
local macro_rules | `(tactic| walk_at "wd") => `(tactic| simp (config := {decide := true}) only [V.str.injEq, scal_ss, true_and, if_true, if_false])

/-- the law's script and its counter -/
structure StI (K : PySem.W.Frag) (H0 H : Hp) (st sc : Addr) (b : Int) (ns : List Int) : Prop where
  s0 : Sx [st] H0 H
  k0 : ∃ k, 0 ≤ k ∧ H0 st = some (.lst (stateL sc b k))
  sq : SqL K H0 sc (ns.map V.int)
  b0 : 0 ≤ b
  now : ∃ k, 0 ≤ k ∧ H st = some (.lst (stateL sc b k))
section
variable {K : PySem.W.Frag} {H0 H H' : Hp} {st sc : Addr} {b : Int} {ns : List Int} {E : XK}
theorem StI.sqL (i : StI K H0 H st sc b ns) : SqL K H sc (ns.map V.int) := by
  obtain ⟨k, _, e⟩ := i.k0
  exact sqL_sx i.s0 e (fun z => by cases ns <;> cases z) i.sq
theorem StI.grow (i : StI K H0 H st sc b ns) (s : Same H H') : StI K H0 H' st sc b ns where
  s0 := i.s0.trans (Sx.of s)
  k0 := i.k0
  sq := i.sq
  b0 := i.b0
  now := by
    obtain ⟨k, h0, e⟩ := i.now
    exact ⟨k, h0, s _ _ e⟩
theorem StI.step (i : StI K H0 H st sc b ns) {k : Int} (h0 : 0 ≤ k) (s : Sx [st] H H') (e : H' st = some (.lst (stateL sc b k))) : StI K H0 H' st sc b ns where
  s0 := i.s0.trans s
  k0 := i.k0
  sq := i.sq
  b0 := i.b0
  now := ⟨k, h0, e⟩
/-- a change at a place of one's own -/
theorem StI.own (i : StI K H0 H st sc b ns) {f : Addr} {o : HO} (hf : H0 f = none) : StI K H0 (upd H f o) st sc b ns where
  s0 := fun c u hc ec => by
    rw [upd_ne (ne_of_none ec hf)]
    exact i.s0 c u hc ec
  k0 := i.k0
  sq := i.sq
  b0 := i.b0
  now := by
    obtain ⟨k, h0, e⟩ := i.now
    obtain ⟨k2, h2, e2⟩ := i.k0
    exact ⟨k, h0, (upd_ne (ne_of_none e2 hf)).trans e⟩
/-- a place of one's own is not the state's -/
theorem StI.off (i : StI K H0 H st sc b ns) {f : Addr} (hf : H0 f = none) : f ∉ [st] := fun z => by
  obtain ⟨k, _, e⟩ := i.k0
  rw [List.mem_singleton.mp z, e] at hf
  cases hf
theorem StI.fresh (i : StI K H0 H st sc b ns) {x : Addr} (e : H x = none) : H0 x = none := by
  cases q : H0 x with
  | none => rfl
  | some o =>
    have e2 := i.s0 x o (fun z => by
      obtain ⟨k, _, ek⟩ := i.now
      rw [List.mem_singleton.mp z, ek] at e
      cases e) q
    rw [e2] at e
    cases e
theorem a_next (i : StI K H0 H st sc b ns) {lim : Int} (hl : 0 < lim) {Q : VK} (q : ∀ H' v, StI K H0 H' st sc b ns → Sx [st] H H' → 0 ≤ v → v < lim → Q (.int v) H') : sp__law_next K [.ref st, .int lim] H Q E := by
  obtain ⟨k, h0, e⟩ := i.now
  exact ⟨st, sc, b, k, lim, ns, rfl, e, i.sqL, i.b0, h0, hl, fun H' v sx e' v0 v1 => q H' v (i.step (by omega) sx e') sx v0 v1⟩
theorem a_rows {ms : List Addr} (tk : Tk H ms) (stm : st ∈ ms) (i : StI K H0 H st sc b ns) {high aim many : Int} (h0 : 0 ≤ high) (h1 : high ≤ 12) (h2 : 0 ≤ aim) (h3 : aim ≤ 12) (h4 : 0 ≤ many) (h5 : many ≤ 12) {Q : VK}
    (q : ∀ H' f rs, StI K H0 H' st sc b ns → Sx [st] H H' → H f = none → Dp K (hide H' ms) (.ref f) (rowsD rs) → Up high rs aim → rs.length ≤ 60 → Q (.ref f) H') : sp__law_rows K [.ref st, .int high, .int aim, .int many] H Q E := by
  obtain ⟨k, hk, e⟩ := i.now
  exact ⟨ms, st, high, aim, many, sc, b, k, ns, rfl, tk, stm, e, i.sqL, i.b0, hk, h0, h1, h2, h3, h4, h5, fun H' f rs k' sx e' hk' hf hd w1 w2 w3 w4 => q H' f rs (i.step hk' sx e') sx hf hd ⟨w1, w2, w3⟩ w4⟩
end
theorem cut_upto {xs : List V} {i : Int} (h : 0 ≤ i) : cutV xs none (some i) = xs.take i.toNat := by
  unfold cutV HT.sIx
  have e : ¬ i < 0 := by omega
  simp only [e, if_false, List.drop_zero, Nat.sub_zero]
  rcases Nat.le_total i.toNat xs.length with q | q
  · rw [Nat.min_eq_left q]
  · rw [Nat.min_eq_right q, List.take_of_length_le (Nat.le_refl _), List.take_of_length_le q]
/-- what stands while code is made: the labels at la, the heights at hi -/
structure CI (K : PySem.W.Frag) (H0 H : Hp) (st sc : Addr) (b : Int) (ns : List Int) (la hi : Addr) (ls : List Str) (hs : List Int) : Prop where
  i : StI K H0 H st sc b ns
  la0 : H0 la = none
  hi0 : H0 hi = none
  ne : la ≠ hi
  atl : H la = some (.lst (ls.map V.str))
  ath : H hi = some (.lst (hs.map V.int))
section
variable {K : PySem.W.Frag} {H0 H H' : Hp} {st sc la hi : Addr} {b : Int} {ns : List Int} {E : XK} {ls : List Str} {hs : List Int}
theorem CI.grow (c : CI K H0 H st sc b ns la hi ls hs) (s : Same H H') : CI K H0 H' st sc b ns la hi ls hs := ⟨c.i.grow s, c.la0, c.hi0, c.ne, s _ _ c.atl, s _ _ c.ath⟩
theorem CI.step (c : CI K H0 H st sc b ns la hi ls hs) (i : StI K H0 H' st sc b ns) (s : Sx [st] H H') : CI K H0 H' st sc b ns la hi ls hs := ⟨i, c.la0, c.hi0, c.ne, s _ _ (c.i.off c.la0) c.atl, s _ _ (c.i.off c.hi0) c.ath⟩
theorem CI.own (c : CI K H0 H st sc b ns la hi ls hs) {f : Addr} {o : HO} (hf : H0 f = none) (h1 : f ≠ la) (h2 : f ≠ hi) : CI K H0 (upd H f o) st sc b ns la hi ls hs := ⟨c.i.own hf, c.la0, c.hi0, c.ne, (upd_ne h1.symm).trans c.atl, (upd_ne h2.symm).trans c.ath⟩
end
section
variable {K : PySem.W.Frag} {H0 H H' : Hp} {st sc la hi : Addr} {b : Int} {ns : List Int} {E : XK} {ls : List Str} {hs : List Int} {Q : VK}
theorem CI.lenL (c : CI K H0 H st sc b ns la hi ls hs) (q : Q (.int ls.length) H) : rLenQ K [.ref la] H Q := ⟨la, _, rfl, .inl (SqL.of c.atl), by rw [List.length_map]; exact q⟩
theorem CI.lenH (c : CI K H0 H st sc b ns la hi ls hs) (q : Q (.int hs.length) H) : rLenQ K [.ref hi] H Q := ⟨hi, _, rfl, .inl (SqL.of c.ath), by rw [List.length_map]; exact q⟩
theorem atI_map {α : Type} {f : α → V} {xs : List α} {i : Nat} {x : α} (e : xs[i]? = some x) : atI (xs.map f) (i : Int) = some (f x) := by
  have h := (List.getElem?_eq_some_iff.mp e).1
  unfold atI ixN
  rw [if_pos (by omega), List.length_map, if_pos (by omega)]
  show (xs.map f)[((i : Int)).toNat]? = _
  rw [Int.toNat_natCast, List.getElem?_map, e]
  rfl
theorem CI.ixL (c : CI K H0 H st sc b ns la hi ls hs) {i : Nat} {l : Str} (e : ls[i]? = some l) (q : Q (.str l) H) : rIx K (.ref la) (.int i) H Q := a_ixV (SqL.of c.atl) (atI_map (f := V.str) e) q
theorem CI.ixH (c : CI K H0 H st sc b ns la hi ls hs) {i : Nat} {h : Int} (e : hs[i]? = some h) (q : Q (.int h) H) : rIx K (.ref hi) (.int i) H Q := a_ixV (SqL.of c.ath) (atI_map (f := V.int) e) q
end
/-- .. the found blocks at f -/
structure CF (K : PySem.W.Frag) (H0 H : Hp) (st sc : Addr) (b : Int) (ns : List Int) (la hi : Addr) (ls : List Str) (hs : List Int) (f : Addr) (bs : List Blk) : Prop where
  c : CI K H0 H st sc b ns la hi ls hs
  f0 : H0 f = none
  fl : f ≠ la
  fh : f ≠ hi
  found : ∃ vs, H f = some (.lst vs) ∧ DpAll K (hide H [f, st]) vs (bs.map Blk.d)
section
variable {K : PySem.W.Frag} {H0 H H' : Hp} {st sc la hi f : Addr} {b : Int} {ns : List Int} {ls : List Str} {hs : List Int} {bs : List Blk}
theorem CF.grow (c : CF K H0 H st sc b ns la hi ls hs f bs) (s : Same H H') : CF K H0 H' st sc b ns la hi ls hs f bs := ⟨c.c.grow s, c.f0, c.fl, c.fh, by
  obtain ⟨vs, e, a⟩ := c.found
  exact ⟨vs, s _ _ e, DpAll.mono (Same.hide s _) a⟩⟩
theorem CF.step (c : CF K H0 H st sc b ns la hi ls hs f bs) (i : StI K H0 H' st sc b ns) (s : Sx [st] H H') : CF K H0 H' st sc b ns la hi ls hs f bs := ⟨c.c.step i s, c.f0, c.fl, c.fh, by
  obtain ⟨vs, e, a⟩ := c.found
  exact ⟨vs, s _ _ (c.c.i.off c.f0) e, DpAll.mono (s.hide fun x hx => by rw [List.mem_singleton.mp hx]; exact List.mem_cons_of_mem _ (List.mem_singleton.mpr rfl)) a⟩⟩
theorem CF.tk (c : CF K H0 H st sc b ns la hi ls hs f bs) : Tk H [f, st] := fun m hm => by
  rcases List.mem_cons.mp hm with z | hm
  · obtain ⟨_, q, _⟩ := c.found
    rw [z, q]; exact fun z => nomatch z
  · obtain ⟨_, _, q⟩ := c.c.i.now
    rw [List.mem_singleton.mp hm, q]; exact fun z => nomatch z
theorem CF.hid (s : Sx [st] H H') : Same (hide H [f, st]) (hide H' [f, st]) := s.hide fun x hx => by rw [List.mem_singleton.mp hx]; exact List.mem_cons_of_mem _ (List.mem_singleton.mpr rfl)
theorem CF.app (c : CF K H0 H st sc b ns la hi ls hs f bs) {vs : List V} {v : V} {x : Blk} (e : H f = some (.lst vs)) (a : DpAll K (hide H [f, st]) vs (bs.map Blk.d)) (hv : Dp K (hide H [f, st]) v x.d) : CF K H0 (upd H f (.lst (vs ++ [v]))) st sc b ns la hi ls hs f (bs ++ [x]) :=
  ⟨c.c.own c.f0 c.fl c.fh, c.f0, c.fl, c.fh, _, upd_same, by
    rw [hide_upd (List.mem_cons_self ..), List.map_append]
    exact DpAll.append a (.cons hv .nil)⟩
end
def sp__law_code (K : PySem.W.Frag) : Sp := fun vs H Q _ => ∃ (st sc : Addr) (b cap : Int) (ns : List Int), vs = [.ref st, .int cap] ∧ StI K H H st sc b ns ∧ 0 < cap ∧ cap ≤ 6 ∧
  ∀ H' f bs, StI K H H' st sc b ns → H f = none → Dp K (hide H' [st]) (.ref f) (blocksD bs) → (bs = [] ∨ ∃ h, Good bs h ∧ Chain bs) → Q (.ref f) H'
section
variable {P : Program} {w : World} {K : PySem.W.Frag} {mg : Str → Option Value} {base : Heap}
theorem ok_code (T : Tx w K mg) (F__law_next : Cal P w K mg base 3 "_law_next" (sp__law_next K) []) (F__law_rows : Cal P w K mg base 4 "_law_rows" (sp__law_rows K) []) : Cal P w K mg base 5 "_law_code" (sp__law_code K) [] := by
  refine cal_of T.D__law_code T.g__law_code sc__law_code (fun _ _ _ _ _ _ us hl => match us, hl with | [_, _], _ => rfl) (by walk_at "len") fun cdv A outer s H vs Q E hr h => ?_
  refine ⟨_, (pss_cons (ps_asg (pe_tup (pa_cons (pe_slice (r := rSlL K) sl_list (pe_lst (pa_cons pe_str (pa_cons pe_str (pa_cons pe_str (pa_cons pe_str (pa_cons pe_str (pa_cons pe_str pa_nil))))))) po_none (po_some (pe_op op_add pe_int (pe_c F__law_next hr (by decide) (by rfl) (pa_cons (pv 0) (pa_cons (pv 1) pa_nil)))))) (pa_cons (pe_lst (pa_cons pe_int pa_nil)) pa_nil))) (pg_tupK (K := K) (n := 2) rfl (pgs_cons (pg_name (i := 2) sc__law_code.nd rfl (by first | exact Or.inl rfl | exact Or.inr rfl)) (pgs_cons (pg_name (i := 3) sc__law_code.nd rfl (by first | exact Or.inl rfl | exact Or.inr rfl)) pgs_nil))))
    (pss_cons (ps_while PassesOwn.never (pt_cmpR op_lt (pe_callB (r := rLenQ K) call_lenQ (by rfl) T.b_len (by decide +kernel) (pa_cons (pv 3) pa_nil)) (pe_callB (r := rLenQ K) call_lenQ (by rfl) T.b_len (by decide +kernel) (pa_cons (pv 2) pa_nil)) (nomark _)) (pss_one (ps_expr (pe_bm PySem.F.plainAttrs_list PySem.F.slot_list_append PySem.F.type_list_append mt_append (pv 3) (pa_cons (pe_ix (r := rIx K) ix_seq (pe_tup (pa_cons pe_int (pa_cons pe_int (pa_cons pe_int (pa_cons pe_int (pa_cons pe_int (pa_cons pe_int pa_nil))))))) (pe_c F__law_next hr (by decide) (by rfl) (pa_cons (pv 0) (pa_cons pe_int pa_nil))) (fun _ _ => rfl)) pa_nil)))))
    (pss_cons (ps_set (i := 4) sc__law_code.nd rfl (by first | exact Or.inl rfl | exact Or.inr rfl) (pe_lst pa_nil))
    (pss_cons (ps_for PassesOwn.never rfl (pi_enum (by rfl) T.b_enumerate (pa_cons (pv 2) pa_nil)) (pg_tupK (K := K) (n := 2) rfl (pgs_cons (pg_name (i := 5) sc__law_code.nd rfl (by first | exact Or.inl rfl | exact Or.inr rfl)) (pgs_cons (pg_name (i := 6) sc__law_code.nd rfl (by first | exact Or.inl rfl | exact Or.inr rfl)) pgs_nil))) (pss_cons (ps_set (i := 7) sc__law_code.nd rfl (by first | exact Or.inl rfl | exact Or.inr rfl) (pe_ifExp (pt_cmpR op_lt (pe_op op_add (pv 5) pe_int) (pe_callB (r := rLenQ K) call_lenQ (by rfl) T.b_len (by decide +kernel) (pa_cons (pv 2) pa_nil)) (nomark _)) (pe_op op_add (pv 5) pe_int) (pe_c F__law_next hr (by decide) (by rfl) (pa_cons (pv 0) (pa_cons (pe_op op_add (pe_callB (r := rLenQ K) call_lenQ (by rfl) T.b_len (by decide +kernel) (pa_cons (pv 2) pa_nil)) pe_int) pa_nil)))))
    (pss_cons (ps_setLc (i := 8) rfl sc__law_code.nd rfl rfl (sw_true rfl rfl rfl (by decide +kernel)) (pi_range1 (by rfl) T.b_range (pa_cons (pe_callB (r := rLenQ K) call_lenQ (by rfl) T.b_len (by decide +kernel) (pa_cons (pv 2) pa_nil)) pa_nil)) (blkOk_by (own := [("_law_k", 9)]) (N := ["_law_state", "_law_cap", "_law_labels", "_law_highs", "_law_found", "_law_at", "_law_label", "_law_after", "_law_alike", "_law_k", "_law_aim", "_law_end", "_law_pair", "_law_rows_here", "_law_block"]) (sc := L2.defScope s__law_code) (by decide +kernel)) (fun _ _ _ _ _ => (pg_m (pg_name (i := 9) sc__law_code.nd rfl (by first | exact Or.inl rfl | exact Or.inr rfl)))) (fun _ _ _ _ _ => (pts_one (pt_m (PW.pt (pw_and (pt_cmpR op_lt (pv 7) (pe_callB (r := rLenQ K) call_lenQ (by rfl) T.b_len (by decide +kernel) (pa_cons (pv 2) pa_nil)) (nomark _)) (pw_and1 (pt_cmpR op_eq (pe_ix (r := rIx K) ix_seq (pv 3) (pv 9) (fun _ _ => rfl)) (pe_ix (r := rIx K) ix_seq (pv 3) (pv 7) (fun _ _ => rfl)) (nomark _)))))))) (fun _ _ _ _ _ => (pe_m (pe_ix (r := rIx K) ix_seq (pv 2) (pv 9) (fun _ _ => rfl)))))
    (pss_cons (ps_par (i := 10) (j := 11) rfl sc__law_code.nd rfl rfl (by decide) rfl rfl (pa_cons (pe_ifExp (pt_cmpR op_lt (pv 7) (pe_callB (r := rLenQ K) call_lenQ (by rfl) T.b_len (by decide +kernel) (pa_cons (pv 2) pa_nil)) (nomark _)) (pe_ix (r := rIx K) ix_seq (pv 3) (pv 7) (fun _ _ => rfl)) (pe_c F__law_next hr (by decide) (by rfl) (pa_cons (pv 0) (pa_cons pe_int pa_nil)))) (pa_cons (pe_tup (pa_cons pe_str pa_nil)) pa_nil)) rfl)
    (pss_cons (ps_if (pt_cmpR op_lt (pv 7) (pe_callB (r := rLenQ K) call_lenQ (by rfl) T.b_len (by decide +kernel) (pa_cons (pv 2) pa_nil)) (nomark _)) (pss_cons (ps_set (i := 11) sc__law_code.nd rfl (by first | exact Or.inl rfl | exact Or.inr rfl) (pe_tup (pa_cons pe_str (pa_cons (pe_ix (r := rIx K) ix_seq (pv 2) (pv 7) (fun _ _ => rfl)) pa_nil))))
    (pss_one (ps_if (pt_cmpR op_gt (pe_c F__law_next hr (by decide) (by rfl) (pa_cons (pv 0) (pa_cons pe_int pa_nil))) pe_int (nomark _)) (pss_cons (ps_set (i := 12) sc__law_code.nd rfl (by first | exact Or.inl rfl | exact Or.inr rfl) (pe_lst (pa_cons (pe_ix (r := rIx K) ix_seq (pv 2) (pv 7) (fun _ _ => rfl)) (pa_cons (pe_ix (r := rIx K) ix_seq (pv 8) (pe_c F__law_next hr (by decide) (by rfl) (pa_cons (pv 0) (pa_cons (pe_callB (r := rLenQ K) call_lenQ (by rfl) T.b_len (by decide +kernel) (pa_cons (pv 8) pa_nil)) pa_nil))) (fun _ _ => rfl)) pa_nil))))
    (pss_one (ps_par (i := 11) (j := 10) rfl sc__law_code.nd rfl rfl (by decide) rfl rfl (pa_cons (pe_op op_catT (pe_tup (pa_cons pe_str pa_nil)) (pe_callTy (r := rTupOf K) call_tupOf (by rfl) T.b_tuple (by decide +kernel) (pa_cons (pe_ifExp (pt_cmpR op_eq (pe_c F__law_next hr (by decide) (by rfl) (pa_cons (pv 0) (pa_cons pe_int pa_nil))) pe_int (nomark _)) (pv 12) (pe_revL (pv 12))) pa_nil))) (pa_cons (pe_op op_add (pv 10) pe_int) pa_nil)) rfl))) pss_nil))) pss_nil)
    (pss_cons (ps_set (i := 13) sc__law_code.nd rfl (by first | exact Or.inl rfl | exact Or.inr rfl) (pe_c F__law_rows hr (by decide) (by rfl) (pa_cons (pv 0) (pa_cons (pe_ix (r := rIx K) ix_seq (pv 3) (pv 5) (fun _ _ => rfl)) (pa_cons (pv 10) (pa_cons (pe_c F__law_next hr (by decide) (by rfl) (pa_cons (pv 0) (pa_cons pe_int pa_nil))) pa_nil))))))
    (pss_one (ps_expr (pe_bm PySem.F.plainAttrs_list PySem.F.slot_list_append PySem.F.type_list_append mt_append (pv 4) (pa_cons (pe_tup (pa_cons (pv 6) (pa_cons (pv 13) (pa_cons (pv 11) pa_nil)))) pa_nil))))))))))
    (pss_one (ps_ret (pe_ifExp (pt_val (pe_callB (r := rAll K) (cr_all rfl) (by rfl) T.b_all (by decide +kernel) (pa_cons (pe_lc rfl sc__law_code.nd (pi_listK (K := K) (pv 4)) (blkOk_by (own := [("_law_block", 14)]) (N := ["_law_state", "_law_cap", "_law_labels", "_law_highs", "_law_found", "_law_at", "_law_label", "_law_after", "_law_alike", "_law_k", "_law_aim", "_law_end", "_law_pair", "_law_rows_here", "_law_block"]) (sc := L2.defScope s__law_code) (by decide +kernel)) (fun _ _ _ _ _ => (pg_m (pg_name (i := 14) sc__law_code.nd rfl (by first | exact Or.inl rfl | exact Or.inr rfl)))) (fun _ _ _ _ _ => pts_nilM) (fun _ _ _ _ _ => (pe_m (pe_cmpR op_lt (pe_callB (r := rLenQ K) call_lenQ (by rfl) T.b_len (by decide +kernel) (pa_cons (pe_ix (r := rIx K) ix_seq (pv 14) pe_int (fun _ _ => rfl)) pa_nil)) pe_int (nomark _))))) pa_nil))) (pv 4) (pe_lst pa_nil)))))))), ?_⟩
  obtain ⟨st, sc, b, cap, ns, rfl, i0, hc0, hc1, q⟩ := h
  walk_at "rd"
  have big : ∀ n : Nat, n ≤ 1000 → n ≤ sizeLine := fun n h => by rw [sizeLine_eq]; omega
  refine ⟨big _ (by decide), fun p0 np0 => ?_⟩
  have i1 := i0.grow (same_new (o := HO.lst (allLabels.map V.str)) np0)
  have e0 : upd H p0 (HO.lst (allLabels.map V.str)) p0 = some (HO.lst (allLabels.map V.str)) := upd_same
  have ne0 := i0.off np0
  change sp__law_next K [V.ref st, V.int cap] (upd H p0 (HO.lst (allLabels.map V.str))) _ _
  generalize upd H p0 (HO.lst (allLabels.map V.str)) = H1 at *
  refine a_next i1 hc0 fun H2 v i2 sx2 v0 v1 => ⟨_, rfl, p0, _, rfl, SqL.of (sx2 _ _ ne0 e0), fun la nla => ⟨big _ (by decide), fun hi nhi => ⟨big _ (by decide), fun pr npr => ?_⟩⟩⟩
  have ec : cutV (allLabels.map V.str) none (some (1 + v)) = (allLabels.take (1 + v).toNat).map V.str := by rw [cut_upto (by omega), ← List.map_take]
  rw [ec] at nhi npr ⊢
  have hls : ∃ n, allLabels.take (1 + v).toNat = allLabels.take n ∧ 1 ≤ n ∧ n ≤ 6 := ⟨(1 + v).toNat, rfl, by omega, by omega⟩
  generalize allLabels.take (1 + v).toNat = ls at *
  have hsz : 1 ≤ ls.length ∧ ls.length ≤ 6 := by
    obtain ⟨n, rfl, g1, g2⟩ := hls
    rw [List.length_take]
    have : allLabels.length = 6 := rfl
    omega
  have fresh : ∀ {x : Addr}, H2 x = none → H x = none := fun {x} e => by
    cases q : H x with
    | none => rfl
    | some o =>
      have := i2.s0 x o (fun z => by
        obtain ⟨k, _, ek⟩ := i2.now
        rw [List.mem_singleton.mp z, ek] at e
        cases e) q
      rw [this] at e
      cases e
  have nhi2 := (same_new (o := HO.lst (ls.map V.str)) nla).free nhi
  have c0 : CI K H (upd (upd (upd H2 la (.lst (ls.map V.str))) hi (.lst [.int 0])) pr (.tup [.ref la, .ref hi])) st sc b ns la hi ls [0] :=
    ⟨i2.grow (((same_new nla).trans (same_new nhi)).trans (same_new npr)), fresh nla, fresh nhi2, ne_of_none upd_same nhi, keep_at (keep_at upd_same nhi) npr, keep_at upd_same npr⟩
  refine a_t2V (.inl (.inl upd_same)) ?_
  generalize upd (upd (upd H2 la (.lst (ls.map V.str))) hi (.lst [.int 0])) pr (.tup [.ref la, .ref hi]) = H3 at *
  walk_at "rd"
  refine while_go (fun m σ H4 => ∃ hs, σ = [some (.ref st), some (.int cap), some (.ref la), some (.ref hi), none, none, none, none, none, none, none, none, none, none, none] ∧ CI K H H4 st sc b ns la hi ls hs ∧ hs.length ≤ ls.length ∧ hs[0]? = some 0 ∧ (∀ h ∈ hs, 0 ≤ h ∧ h ≤ 6) ∧ m = ls.length - hs.length) _ ⟨[0], rfl, c0, hsz.1, rfl, by decide, rfl⟩ ?_
  rintro Pw yes m σ H4 ⟨hs, rfl, c, g1, g2, g3, rfl⟩
  walk_at "rd"
  refine c.lenH (c.lenL ⟨_, rfl, _, rfl, ?_⟩)
  split
  next g4 =>
    refine ⟨_, fun σ' H' q => q, .inl ⟨rfl, _, SqL.of c.ath⟩, big _ (by decide), fun p5 np5 => ?_⟩
    have s5 := same_new (o := HO.tup [V.int 0, V.int 1, V.int 2, V.int 3, V.int 4, V.int 6]) np5
    have e5 : upd H4 p5 (HO.tup [V.int 0, V.int 1, V.int 2, V.int 3, V.int 4, V.int 6]) p5 = some (HO.tup [V.int 0, V.int 1, V.int 2, V.int 3, V.int 4, V.int 6]) := upd_same
    replace c := c.grow s5
    generalize upd H4 p5 (HO.tup [V.int 0, V.int 1, V.int 2, V.int 3, V.int 4, V.int 6]) = H5 at *
    refine a_next c.i (by decide) fun H6 v6 i6 sx6 v60 v61 => ?_
    have n5 : p5 ∉ [st] := fun z => by
      obtain ⟨k, _, ek⟩ := c.i.now
      rw [List.mem_singleton.mp z, ek] at e5
      cases e5
    replace e5 := sx6 _ _ n5 e5
    replace c := c.step i6 sx6
    obtain ⟨x, ex, hx⟩ := atI_nat (xs := [V.int 0, V.int 1, V.int 2, V.int 3, V.int 4, V.int 6]) v60 (by exact v61)
    obtain ⟨n, rfl, hn⟩ : ∃ n, x = V.int n ∧ 0 ≤ n ∧ n ≤ 6 := by
      simp only [List.mem_cons, List.not_mem_nil, or_false] at hx
      rcases hx with rfl | rfl | rfl | rfl | rfl | rfl <;> exact ⟨_, rfl, by decide, by decide⟩
    refine a_ixTV (.inl (.inl e5)) ex ⟨hi, _, _, rfl, rfl, c.ath, by rw [List.length_map]; exact Nat.lt_of_le_of_lt (Nat.le_trans g1 hsz.2) (by rw [sizeLine_eq]; decide), ?_⟩
    have em : hs.map V.int ++ [V.int n] = (hs ++ [n]).map V.int := by rw [List.map_append]; rfl
    rw [em]
    refine ⟨ls.length - (hs ++ [n]).length, by rw [List.length_append, List.length_singleton]; omega, yes _ _ _ ⟨hs ++ [n], rfl, ⟨c.i.own c.hi0, c.la0, c.hi0, c.ne, (upd_ne c.ne).trans c.atl, upd_same⟩, by rw [List.length_append, List.length_singleton]; omega, ?_, ?_, rfl⟩⟩
    · rw [List.getElem?_append_left (by have := (List.getElem?_eq_some_iff.mp g2).1; exact this)]
      exact g2
    · intro h hh
      rcases List.mem_append.mp hh with hh | hh
      · exact g3 h hh
      · rw [List.mem_singleton.mp hh]; exact hn
  next g4 =>
    have hlen : hs.length = ls.length := by omega
    have L : Labels ls hs := ⟨hls, hlen, g2, g3⟩
    refine ⟨big _ (by decide), fun f nf => ?_⟩
    have nf0 : H f = none := by
      cases q : H f with
      | none => rfl
      | some o =>
        have e := c.i.s0 f o (fun z => by
          obtain ⟨k, _, ek⟩ := c.i.now
          rw [List.mem_singleton.mp z, ek] at nf
          cases nf) q
        rw [e] at nf
        cases nf
    have fla : f ≠ la := (ne_of_none c.atl nf).symm
    have fhi : f ≠ hi := (ne_of_none c.ath nf).symm
    have c5 := c.grow (same_new (o := HO.lst []) nf)
    have f5 : upd H4 f (HO.lst []) f = some (.lst []) := upd_same
    generalize upd H4 f (HO.lst []) = H5 at *
    clear c yes
    refine a_for ?_
    walk_at "rd"
    refine ⟨_, SqL.of c5.atl, ?_⟩
    have h5 : upd H4 f (HO.lst []) f = upd H4 f (HO.lst []) f := rfl
    refine for_go2 (walk_enum (xs := ls.map V.str)) (fun i σ H6 => ∃ bs o5 o6 o7 o8 o10 o11 o12 o13, σ = [some (.ref st), some (.int cap), some (.ref la), some (.ref hi), some (.ref f), o5, o6, o7, o8, none, o10, o11, o12, o13, none] ∧ CF K H H6 st sc b ns la hi ls hs f bs ∧
      bs.length = i ∧ ∀ j b, bs[j]? = some b → BlkOk1 ls hs j b ∧ b.rows.length ≤ 60) ⟨[], _, _, _, _, _, _, _, _, rfl, ⟨c5, nf0, fla, fhi, [], f5, .nil⟩, rfl, fun j b e => by simp at e⟩ (fun i σ H6 _ q => by
        obtain ⟨_, _, _, _, _, _, _, _, _, _, q, _⟩ := q
        exact SqL.of q.c.atl) ?_ ?_
    · rintro Pw yes i y σ H6 H7 hil ⟨bs, o5, o6, o7, o8, o10, o11, o12, o13, rfl, c, el, ok⟩ ⟨p7, y1, y2, rfl, np7, rfl, ey1, ey2⟩
      cases ey1
      rw [List.length_map] at hil
      replace ey2 : (ls.map V.str)[i]? = some y2 := ey2
      rw [List.getElem?_map] at ey2
      cases elb : ls[i]? with
      | none => rw [elb] at ey2; cases ey2
      | some l =>
        rw [elb] at ey2
        cases ey2
        refine a_t2V (.inl (.inl upd_same)) ?_
        have s7 := same_new (o := HO.tup [V.int (i : Nat), V.str l]) np7
        replace c := c.grow s7
        generalize upd H6 p7 (HO.tup [V.int (i : Nat), V.str l]) = H7 at *
        simp only [List.set_cons_zero, List.set_cons_succ]
        refine seq_mid (fun σ' H8 => ∃ a : Nat, σ' = [some (.ref st), some (.int cap), some (.ref la), some (.ref hi), some (.ref f), some (.int (i : Nat)), some (.str l), some (.int a), o8, none, o10, o11, o12, o13, none] ∧ CF K H H8 st sc b ns la hi ls hs f bs ∧ a ≤ ls.length ∧ (i + 1 < ls.length → a = i + 1)) (fun Kx yes1 => ?_) ?_
        · walk_at "rd"
          refine c.c.lenL ⟨_, rfl, ?_⟩
          split
          next g5 => exact yes1 _ _ ⟨i + 1, rfl, c, by omega, fun _ => rfl⟩
          next g5 =>
            refine c.c.lenL ⟨_, rfl, a_next c.c.i (by omega) fun H8 v8 i8 sx8 v80 v81 => yes1 _ _ ⟨v8.toNat, ?_, c.step i8 sx8, by omega, fun z => absurd z (by omega)⟩⟩
            have : ((v8.toNat : Nat) : Int) = v8 := by omega
            rw [this]
        rintro σ' H8 ⟨a, rfl, c, ha, ha1⟩
        refine seq_mid (fun σ' H9 => ∃ al as, σ' = [some (.ref st), some (.int cap), some (.ref la), some (.ref hi), some (.ref f), some (.int (i : Nat)), some (.str l), some (.int a), some (.ref al), none, o10, o11, o12, o13, none] ∧ CF K H H9 st sc b ns la hi ls hs f bs ∧ al ≠ st ∧ H9 al = some (.lst (as.map V.str)) ∧ as.length ≤ 6 ∧
          (a < ls.length → as ≠ [] ∧ ∀ x ∈ as, ∃ k : Nat, ls[k]? = some x ∧ hs[k]? = hs[a]?)) (fun Kx yes1 => ?_) ?_
        · walk_at "rd"
          refine a_lc ?_
          walk_at "rd"
          refine c.c.lenL ⟨_, rfl, by omega, by omega, fun D nD => ?_⟩
          have ndD : D ∉ [st] := fun z => by
            obtain ⟨k, _, ek⟩ := c.c.i.now
            rw [List.mem_singleton.mp z, ek] at nD
            cases nD
          refine lc_pure (K := K) (n := ls.length) (ms := []) walk_range nD Tk.nil (by rw [sizeLine_eq]; omega) (fun _ _ => trivial) (fun k => decide (a < ls.length) && decide (hs[k]? = hs[a]?)) (fun k => .str (ls.getD k "")) (fun k x H9 H10 hk s9 hD9 y => ?_) (fun H9 ys s9 e9 hys => ?_)
          · obtain ⟨e0, ex⟩ := y
            subst e0 ex
            have c9 := c.c.grow s9
            walk_at "rd"
            have hk0 : (0 : Int) + (k : Nat) = ((k : Nat) : Int) := by omega
            rw [hk0]
            have elk : ls[k]? = some (ls.getD k "") := by rw [List.getD_eq_getElem?_getD, List.getElem?_eq_getElem hk]; rfl
            refine c9.lenL ⟨_, rfl, ?_⟩
            split
            next g6 =>
              have ga : a < ls.length := by omega
              have eha : hs[a]? = some hs[a] := List.getElem?_eq_getElem (by omega)
              have ehk : hs[k]? = some hs[k] := List.getElem?_eq_getElem (by omega)
              refine c9.ixH ehk (c9.ixH eha ⟨rfl, ?_⟩)
              rw [decide_eq_true ga, Bool.true_and, ehk, eha]
              refine ⟨?_, fun _ => Same.refl _, fun _ => c9.ixL elk ⟨Same.refl _, .str _⟩⟩
              by_cases z : hs[k] = hs[a]
              · rw [z, decide_eq_true rfl, decide_eq_true rfl]
              · rw [decide_eq_false fun y => z (V.int.inj y), decide_eq_false fun y => z (Option.some.inj y)]
            next g6 =>
              have ga : ¬ a < ls.length := by omega
              rw [decide_eq_false ga, Bool.false_and]
              exact ⟨rfl, fun _ => Same.refl _, fun z => nomatch z⟩
          · have e2 : ((List.range ls.length).filter fun k => decide (a < ls.length) && decide (hs[k]? = hs[a]?)).map (fun k => PyData.str (ls.getD k "")) = (((List.range ls.length).filter fun k => decide (a < ls.length) && decide (hs[k]? = hs[a]?)).map fun k => ls.getD k "").map PyData.str := by rw [List.map_map]; rfl
            rw [e2] at hys
            have e3 := DpAll.strs_inv hys
            rw [e3] at e9
            refine yes1 _ _ ⟨D, _, rfl, c.grow s9, fun z => ndD (List.mem_singleton.mpr z), e9, ?_, fun ga => ⟨?_, fun x hx => ?_⟩⟩
            · rw [List.length_map]
              have := List.length_filter_le (fun k => decide (a < ls.length) && decide (hs[k]? = hs[a]?)) (List.range ls.length)
              rw [List.length_range] at this
              omega
            · intro z
              have m : ls.getD a "" ∈ (((List.range ls.length).filter fun k => decide (a < ls.length) && decide (hs[k]? = hs[a]?)).map fun k => ls.getD k "") :=
                List.mem_map.mpr ⟨a, List.mem_filter.mpr ⟨List.mem_range.mpr ga, by rw [decide_eq_true ga, decide_eq_true rfl]; rfl⟩, rfl⟩
              rw [z] at m
              cases m
            · obtain ⟨k, hk, rfl⟩ := List.mem_map.mp hx
              obtain ⟨hk1, hk2⟩ := List.mem_filter.mp hk
              have hkn := List.mem_range.mp hk1
              exact ⟨k, by rw [List.getD_eq_getElem?_getD, List.getElem?_eq_getElem hkn]; rfl, of_decide_eq_true (Bool.and_eq_true_iff.mp hk2).2⟩
        rintro σ' H9 ⟨al, as, rfl, c, nal, eal, hal, alike⟩
        refine seq_mid (fun σ' H10 => ∃ aim ve, σ' = [some (.ref st), some (.int cap), some (.ref la), some (.ref hi), some (.ref f), some (.int (i : Nat)), some (.str l), some (.int a), some (.ref al), none, some (.int aim), some ve, o12, o13, none] ∧ CF K H H10 st sc b ns la hi ls hs f bs ∧ H10 al = some (.lst (as.map V.str)) ∧
          Dp K (hide H10 [f, st]) ve Fin.stop.d ∧ 0 ≤ aim ∧ aim ≤ 6 ∧ (a < ls.length → hs[a]? = some aim)) (fun Kx yes1 => ?_) ?_
        · walk_at "rd"
          have stopT : ∀ (H10 : Hp) (aim : Int), CF K H H10 st sc b ns la hi ls hs f bs → H10 al = some (.lst (as.map V.str)) → 0 ≤ aim → aim ≤ 6 → (a < ls.length → hs[a]? = some aim) → ∀ p, H10 p = none → Kx [some (.ref st), some (.int cap), some (.ref la), some (.ref hi), some (.ref f), some (.int (i : Nat)), some (.str l), some (.int a), some (.ref al), none, some (.int aim), some (.ref p), o12, o13, none] (upd H10 p (.tup [.str (Str.ofString "stop")])) := fun H10 aim c e a0 a1 a2 p np =>
            yes1 _ _ ⟨aim, .ref p, rfl, c.grow (same_new np), keep_at e np, .tup (.inl (.inl (new_at c.tk np))) (.cons (.str _) .nil), a0, a1, a2⟩
          refine c.c.lenL ⟨_, rfl, ?_⟩
          split
          next g6 =>
            have eha : hs[a]? = some hs[a] := List.getElem?_eq_getElem (by omega)
            have rg := g3 _ (List.mem_of_getElem? eha)
            exact c.c.ixH eha ⟨big _ (by decide), fun p np => stopT _ _ c eal rg.1 rg.2 (fun _ => eha) p np⟩
          next g6 =>
            refine a_next c.c.i (by decide) fun H10 v10 i10 sx10 v100 v101 => ⟨big _ (by decide), fun p np => stopT _ _ (c.step i10 sx10) (sx10 _ _ (fun z => nal (List.mem_singleton.mp z)) eal) v100 (by omega) (fun z => absurd z (by omega)) p np⟩
        rintro σ' H10 ⟨aim, ve, rfl, c, eal, hve, a0, a1, a2⟩
        refine seq_mid (fun σ' H11 => ∃ aim ve e o12, σ' = [some (.ref st), some (.int cap), some (.ref la), some (.ref hi), some (.ref f), some (.int (i : Nat)), some (.str l), some (.int a), some (.ref al), none, some (.int aim), some ve, o12, o13, none] ∧ CF K H H11 st sc b ns la hi ls hs f bs ∧
          Dp K (hide H11 [f, st]) ve (Fin.d e) ∧ 0 ≤ aim ∧ aim ≤ 7 ∧ EndOk ls hs i aim e) (fun Kx yes1 => ?_) ?_
        · walk_at "rd"
          refine c.c.lenL ⟨_, rfl, ?_⟩
          split
          next g6 =>
            have ga : a < ls.length := by omega
            have eha := a2 ga
            have ela : ls[a]? = some ls[a] := List.getElem?_eq_getElem ga
            obtain ⟨asn, asm⟩ := alike ga
            refine c.c.ixL ela ⟨big _ (by decide), fun p np => ?_⟩
            have dgo : Dp K (hide (upd H10 p (.tup [.str (Str.ofString "go"), .str ls[a]])) [f, st]) (.ref p) (Fin.go ls[a]).d := .tup (.inl (.inl (new_at c.tk np))) (.cons (.str _) (.cons (.str _) .nil))
            have c11 := c.grow (same_new (o := HO.tup [V.str (Str.ofString "go"), V.str ls[a]]) np)
            have eal11 := keep_at (u := HO.tup [V.str (Str.ofString "go"), V.str ls[a]]) eal np
            generalize upd H10 p (.tup [.str (Str.ofString "go"), .str ls[a]]) = H11 at *
            refine a_next c11.c.i (by decide) fun H12 v12 i12 sx12 v120 v121 => ⟨_, rfl, ?_⟩
            have c12 := c11.step i12 sx12
            have eal12 := sx12 _ _ (fun z => nal (List.mem_singleton.mp z)) eal11
            split
            next g7 =>
              refine c12.c.ixL ela ⟨al, _, rfl, .inl (SqL.of eal12), ?_⟩
              have asl : 0 < as.length := List.length_pos_iff.mpr asn
              rw [List.length_map]
              refine a_next c12.c.i (by omega) fun H13 v13 i13 sx13 v130 v131 => ?_
              have c13 := c12.step i13 sx13
              have eal13 := sx13 _ _ (fun z => nal (List.mem_singleton.mp z)) eal12
              obtain ⟨xv, ex, hx⟩ := atI_nat (xs := as.map V.str) v130 (by rw [List.length_map]; exact v131)
              obtain ⟨m, hm, rfl⟩ := List.mem_map.mp hx
              obtain ⟨k, ek1, ek2⟩ := asm m hm
              have fin : ∀ (H16 : Hp) (pr2 p2 p1 : Addr) (x y : Str), CF K H H16 st sc b ns la hi ls hs f bs → H16 pr2 = some (.lst [.str x, .str y]) → H16 p2 = some (.tup [.str (Str.ofString "if")]) → EndOk ls hs i (aim + 1) (.iff x y) → rTupOf K [.ref pr2] H16 fun y H2 => rCatT K (.ref p2) y H2 fun x H1 =>
                  Kx [some (.ref st), some (.int cap), some (.ref la), some (.ref hi), some (.ref f), some (.int (i : Nat)), some (.str l), some (.int a), some (.ref al), none, some (.int (aim + 1)), some x, some (.ref p1), o13, none] H1 := fun H16 pr2 p2 p1 x y c16 e1 e2 en => by
                refine ⟨pr2, _, rfl, .inl ⟨SqL.of e1, fun t nt => ?_⟩⟩
                have e2' := keep_at (u := HO.tup [V.str x, V.str y]) e2 nt
                refine ⟨p2, t, _, _, rfl, rfl, .inl (.inl e2'), .inl (.inl upd_same), by simp, big 3 (by decide), (fun z => nomatch z), fun _ p np => ?_⟩
                have c17 := (c16.grow (same_new (o := HO.tup [V.str x, V.str y]) nt))
                exact yes1 _ _ ⟨aim + 1, _, .iff x y, _, rfl, c17.grow (same_new np), .tup (.inl (.inl (new_at c17.tk np))) (.cons (.str _) (.cons (.str _) (.cons (.str _) .nil))), by omega, by omega, en⟩
              have hka : hs[k]? = some ((aim + 1) - 1) := by rw [ek2, eha]; congr 1; omega
              have haa : hs[a]? = some ((aim + 1) - 1) := by rw [eha]; congr 1; omega
              refine a_ixV (SqL.of eal13) ex ⟨big _ (by decide), fun p1 np1 => ⟨big _ (by decide), fun p2 np2 => ?_⟩⟩
              have c15 := (c13.grow (same_new (o := HO.lst [V.str ls[a], V.str m]) np1)).grow (same_new (o := HO.tup [V.str (Str.ofString "if")]) np2)
              have e15 := keep_at (u := HO.tup [V.str (Str.ofString "if")]) (upd_same (H := H13) (a := p1) (o := HO.lst [V.str ls[a], V.str m])) np2
              have f15 : upd (upd H13 p1 (HO.lst [V.str ls[a], V.str m])) p2 (HO.tup [V.str (Str.ofString "if")]) p2 = some (HO.tup [V.str (Str.ofString "if")]) := upd_same
              generalize upd (upd H13 p1 (HO.lst [V.str ls[a], V.str m])) p2 (HO.tup [V.str (Str.ofString "if")]) = H15 at *
              have off : ∀ {x : Addr} {o : HO}, H15 x = some o → (∀ k, o ≠ .lst (stateL sc b k)) → x ∉ [st] := fun {x o} e ne z => by
                obtain ⟨k, _, ek⟩ := c15.c.i.now
                rw [List.mem_singleton.mp z, ek] at e
                exact ne k (Option.some.inj e).symm
              refine a_next c15.c.i (by decide) fun H16 v16 i16 sx16 v160 v161 => ⟨rfl, ?_⟩
              have c16 := c15.step i16 sx16
              have e16 := sx16 _ _ (off e15 (fun k z => by unfold stateL at z; cases z)) e15
              have f16 := sx16 _ _ (off f15 (fun k z => by cases z)) f15
              split
              next g8 => exact fin H16 p1 p2 p1 _ _ c16 e16 f16 (.iff a k _ _ ela ek1 ha1 haa hka _ (.inl rfl))
              next g8 =>
                unfold tRevL
                walk_at "rd"
                refine ⟨_, SqL.of e16, fun p3 np3 => ?_⟩
                exact fin _ p3 p2 p1 m ls[a] (c16.grow (same_new np3)) upd_same (keep_at f16 np3) (.iff a k _ _ ela ek1 ha1 haa hka _ (.inr rfl))
            next g7 => exact yes1 _ _ ⟨aim, _, _, _, rfl, c12, Dp.mono (CF.hid sx12) dgo, a0, by omega, .go a _ ela ha1 eha⟩
          next g6 => exact yes1 _ _ ⟨aim, ve, .stop, _, rfl, c, hve, a0, by omega, .stop (fun z => by have := ha1 z; omega) a0 (by omega)⟩
        rintro σ' H11 ⟨aim, ve, e, o12, rfl, c, hve, a0, a1, en⟩
        walk_at "rd"
        have ehi : hs[i]? = some hs[i] := List.getElem?_eq_getElem (by omega)
        have rgi := g3 _ (List.mem_of_getElem? ehi)
        refine c.c.ixH ehi ?_
        refine a_next c.c.i (by decide) fun H12 v12 i12 sx12 v120 v121 => ?_
        have c12 := c.step i12 sx12
        have hve12 := Dp.mono (CF.hid sx12) hve
        refine a_rows c12.tk (List.mem_cons_of_mem _ (List.mem_singleton.mpr rfl)) i12 rgi.1 (by omega) a0 (by omega) v120 (by omega) fun H13 rf rs i13 sx13 nrf drf up few => ?_
        have c13 := c12.step i13 sx13
        have hve13 := Dp.mono (CF.hid sx13) hve12
        obtain ⟨vs, evs, avs⟩ := c13.found
        refine ⟨.inl ⟨rfl, _, SqL.of evs⟩, big _ (by decide), fun p np => ?_⟩
        have s14 := same_new (o := HO.tup [V.str l, V.ref rf, ve]) np
        have c14 := c13.grow s14
        obtain ⟨vs2, evs2, avs2⟩ := c14.found
        have hrf := drf
        have lvs : vs2.length = bs.length := by rw [DpAll.length avs2, List.length_map]
        refine ⟨f, vs2, _, rfl, rfl, evs2, by rw [lvs, el, sizeLine_eq]; omega, ?_⟩
        refine yes _ _ _ ⟨bs ++ [⟨l, rs, e⟩], _, _, _, _, _, _, _, _, rfl, c14.app (x := ⟨l, rs, e⟩) evs2 avs2 (.tup (.inl (.inl (new_at c13.tk np))) (.cons (.str _) (.cons (Dp.mono (Same.hide s14 _) hrf) (.cons (Dp.mono (Same.hide s14 _) hve13) .nil)))), by rw [List.length_append, List.length_singleton, el], fun j x ex => ?_⟩
        by_cases hj : j < bs.length
        · rw [List.getElem?_append_left hj] at ex
          exact ok j x ex
        · rw [List.getElem?_append_right (by omega)] at ex
          have hj0 : j - bs.length = 0 := by
            cases q : j - bs.length with
            | zero => rfl
            | succ n => rw [q] at ex; simp at ex
          rw [hj0] at ex
          cases ex
          have hji : j = i := by omega
          subst hji
          exact ⟨⟨elb, _, _, ehi, up, en⟩, few⟩
    · rintro σ H6 ⟨bs, o5, o6, o7, o8, o10, o11, o12, o13, rfl, c, el, ok⟩
      rw [List.length_map] at el
      obtain ⟨vs, evs, avs⟩ := c.found
      walk_at "rd"
      refine a_lc ?_
      walk_at "rd"
      refine ⟨⟨vs, SqL.of evs⟩, fun D nD => ?_⟩
      refine lc_data (K := K) (ds := bs.map Blk.d) (ms := [f, st]) walk_list nD c.tk (by rw [List.length_map, sizeLine_eq]; omega) avs (fun H7 s7 => SqL.of (s7 _ _ evs)) (fun _ => true) (fun d => .bool (match d with
        | .tuple [_, .list rs, _] => decide (rs.length < 13)
        | _ => false)) (fun y d H7 hd7 s7 hD7 hy => ?_) (fun H7 ys s7 e7 hys => ?_)
      · obtain ⟨x, hx, rfl⟩ := List.mem_map.mp hd7
        walk_at "rd"
        refine ⟨fun z => z.elim, fun _ => a_ixTh hy atI_1 fun u hu => a_lenL (Dp.mono same_show hu) ⟨_, rfl, Same.refl _, ?_⟩⟩
        show Dp K _ _ (.bool (decide ((x.rows.map Row.d).length < 13)))
        have e : decide (((x.rows.map Row.d).length : Int) < 13) = decide ((x.rows.map Row.d).length < 13) := by
          by_cases q : (x.rows.map Row.d).length < 13
          · rw [decide_eq_true q, decide_eq_true (by omega)]
          · rw [decide_eq_false q, decide_eq_false (by omega)]
        rw [e]
        exact .bl _
      · rw [List.filter_eq_self.mpr fun _ _ => rfl] at hys
        have e2 : (bs.map Blk.d).map (fun d => PyData.bool (match d with
            | .tuple [_, .list rs, _] => decide (rs.length < 13)
            | _ => false)) = (bs.map fun x => decide (x.rows.length < 13)).map PyData.bool := by
          rw [List.map_map, List.map_map]
          refine List.map_congr_left fun x _ => ?_
          show PyData.bool (decide ((x.rows.map Row.d).length < 13)) = PyData.bool (decide (x.rows.length < 13))
          rw [List.length_map]
        rw [e2] at hys
        refine a_all (bs := bs.map fun x => decide (x.rows.length < 13)) (.lst (SqL.of e7) (DpAll.mono same_show hys)) ?_
        have c7 := c.grow s7
        refine ⟨_, rfl, ?_⟩
        cases hall : (bs.map fun x => decide (x.rows.length < 13)).all id with
        | true =>
          rw [if_pos rfl]
          have few : ∀ x ∈ bs, x.rows.length ≤ 12 := fun x hx => by
            rw [List.all_map] at hall
            have := of_decide_eq_true (List.all_eq_true.mp hall x hx)
            omega
          obtain ⟨G, Ch⟩ := gen_good L el (fun j x e => (ok j x e).1) few
          obtain ⟨vs7, evs7, avs7⟩ := c7.found
          refine q _ f bs c7.c.i c7.f0 (.lst (.inl (.inl ?_)) (DpAll.mono (same_less fun a ha => List.mem_cons_of_mem _ ha) avs7)) (.inr ⟨_, G, Ch⟩)
          rw [hide_at (c7.c.i.off c7.f0)]
          exact evs7
        | false =>
          rw [if_neg (by decide)]
          walk_at "rd"
          refine ⟨big _ (by decide), fun p np => ?_⟩
          have i8 := c7.c.i.grow (same_new (o := HO.lst []) np)
          have np0 : H p = none := by
            cases z : H p with
            | none => rfl
            | some o =>
              have e := c7.c.i.s0 p o (fun z => by
                obtain ⟨k, _, ek⟩ := c7.c.i.now
                rw [List.mem_singleton.mp z, ek] at np
                cases np) z
              rw [e] at np
              cases np
          refine q _ p [] i8 np0 (.lst (.inl (.inl ?_)) .nil) (.inl rfl)
          rw [hide_at (i8.off np0), upd_same]
end
end Pb

/-! L4 -/
set_option Elab.async false
set_option linter.all false
set_option maxRecDepth 100000
set_option maxHeartbeats 4000000
namespace Pb
open PySem PySem.Spec PyProof.Rows L2
open C8 (Cal Mak Met pe_c pe_mk pe_mt pe_mt0 pe_gc fnScope_by)
/-! short words -/
local macro_rules | `(tactic| walk_at "rd") => `(tactic| try simp only [tVar, tC, tAdd, tSub, t2I, tIsN, tNotN, tB, tAnd, tOr, tNot, tAndV, tOrV, tNotV, tIf, tSeq, tPar, tPar3, tNext, tBreak, tCont, tDrop, tRet, tRetN, tIfS, gName, gNil, gCons, gTup, gSub, tAsg, tAug, ipI, iList, iTup, iRng1, iRng2, iStr, iEnum, iZip,
  tOp, tUn, rI, rI0, rU, tTest, tChain, tFld, sFld, sFldAug, L2.rAdd, L2.rSub, tNil, tCons, tTup, tLst, tCall, tMeth, tMake, tCB, tNoPart, tPart, tSl, tBM0, tBM, tDGet, tDGet1, tDGet2, tDIn, tDNotIn, sDPut, tDNewK, rEq, rNe, scal_ii, scal_ss, scal_bb, scal_nn, scal_ni, scal_in, scal_ns, scal_sn, scal_is, scal_si, List.take_succ_cons, List.take_zero, List.drop_succ_cons, List.drop_zero, upd_same, upd_upd, and_assoc, tKGet, gStar, tDisp, tPairs, tYes,
  L2.start, List.map_cons, List.map_nil, List.length_cons, List.length_nil, List.cons_append, List.nil_append, List.append_nil, List.replicate, Nat.sub_self, Nat.add_sub_cancel, Nat.reduceAdd, Nat.reduceSub, List.set_cons_zero, List.set_cons_succ, List.getElem?_cons_zero, List.getElem?_cons_succ,
  Option.some.injEq, V.int.injEq, V.bl.injEq, V.str.injEq, V.ref.injEq, exists_eq_left', exists_eq_left, exists_eq', exists_eq, true_and, and_true, if_true, if_false, Bool.false_eq_true, List.cons.injEq, Bool.not_true, Bool.not_false, cxK, cxP, cxW, ite_true, ite_false, wipe, reduceCtorEq, and_self, decide_true, decide_false, exists_and_left, exists_const, decide_eq_true_eq])
local macro_rules | `(tactic| walk_at "len") => `(tactic| (intro vs H Q E h; repeat (first | (obtain ⟨e, _⟩ := h; subst e; rfl) | (obtain ⟨_, h⟩ := h))))
local macro_rules | `(tactic| walk_at "wd") => `(tactic| simp (config := {decide := true}) only [V.str.injEq, scal_ss, true_and, if_true, if_false])

def sp__law_worths (K : PySem.W.Frag) : Sp := fun vs H Q _ => ∃ (st sc : Addr) (b : Int) (ns : List Int), vs = [.ref st] ∧ StI K H H st sc b ns ∧
  ∀ H' f ws, StI K H H' st sc b ns → H f = none → H' f = some (.lst (ws.map V.int)) → Worths ws → ws.length ≤ 10 → Q (.ref f) H'
def sp__law_back (K : PySem.W.Frag) : Sp := fun vs H Q _ => ∃ n : Int, vs = [.int n] ∧ Q (.int (back n)) H
section
variable {P : Program} {w : World} {K : PySem.W.Frag} {mg : Str → Option Value} {base : Heap}
theorem ok_worths (T : Tx w K mg) (F__law_next : Cal P w K mg base 3 "_law_next" (sp__law_next K) []) : Cal P w K mg base 4 "_law_worths" (sp__law_worths K) [] := by
  refine cal_of T.D__law_worths T.g__law_worths sc__law_worths (fun _ _ _ _ _ _ us hl => match us, hl with | [_], _ => rfl) (by walk_at "len") fun cdv A outer s H vs Q E hr h => ?_
  refine ⟨_, (pss_one (ps_ret (pe_lc rfl sc__law_worths.nd (pi_range1 (by rfl) T.b_range (pa_cons (pe_c F__law_next hr (by decide) (by rfl) (pa_cons (pv 0) (pa_cons pe_int pa_nil))) pa_nil)) (blkOk_by (own := [("_law_turn", 1)]) (N := ["_law_state", "_law_turn"]) (sc := L2.defScope s__law_worths) (by decide +kernel)) (fun _ _ _ _ _ => (pg_m (pg_name (i := 1) sc__law_worths.nd rfl (by first | exact Or.inl rfl | exact Or.inr rfl)))) (fun _ _ _ _ _ => pts_nilM) (fun _ _ _ _ _ => (pe_m (pe_ix (r := rIx K) ix_seq (pe_tup (pa_cons pe_int (pa_cons pe_int (pa_cons pe_int (pa_cons (pe_un un_neg pe_int) (pa_cons pe_int (pa_cons pe_int pa_nil))))))) (pe_c F__law_next hr (by decide) (by rfl) (pa_cons (pv 0) (pa_cons pe_int pa_nil))) (fun _ _ => rfl))))))), ?_⟩
  obtain ⟨st, sc, b, ns, rfl, i0, q⟩ := h
  walk_at "rd"
  refine a_lc ?_
  walk_at "rd"
  refine a_next i0 (by decide) fun H1 v i1 sx1 v0 v1 => ⟨_, rfl, by omega, by omega, fun D nD => ?_⟩
  have nD0 : H D = none := i1.fresh nD
  refine lc_inv walk_range (fun i H2 => StI K H H2 st sc b ns ∧ ∃ ws : List Int, H2 D = some (.lst (ws.map V.int)) ∧ Worths ws ∧ ws.length = i) ⟨i1.own nD0, [], upd_same, (fun _ h => nomatch h), rfl⟩ (fun _ _ _ _ => trivial) ?_ ?_
  · rintro Pw yes i x H2 H3 hi ⟨i2, ws, e2, hw, hl⟩ ⟨e0, ex⟩
    subst e0 ex
    walk_at "rd"
    refine ⟨by rw [sizeLine_eq]; omega, fun p np => ?_⟩
    have i3 := i2.grow (same_new (o := HO.tup [V.int 0, V.int 0, V.int 1, V.int (-1), V.int 5, V.int 30000]) np)
    have e3 : upd H3 p (HO.tup [V.int 0, V.int 0, V.int 1, V.int (-1), V.int 5, V.int 30000]) p = some (HO.tup [V.int 0, V.int 0, V.int 1, V.int (-1), V.int 5, V.int 30000]) := upd_same
    replace e2 := keep_at (u := HO.tup [V.int 0, V.int 0, V.int 1, V.int (-1), V.int 5, V.int 30000]) e2 np
    generalize upd H3 p (HO.tup [V.int 0, V.int 0, V.int 1, V.int (-1), V.int 5, V.int 30000]) = H4 at *
    refine a_next i3 (by decide) fun H5 v5 i5 sx5 v50 v51 => ?_
    have np5 : p ∉ [st] := fun z => by
      obtain ⟨k, _, ek⟩ := i3.now
      rw [List.mem_singleton.mp z, ek] at e3
      cases e3
    replace e3 := sx5 _ _ np5 e3
    replace e2 := sx5 _ _ (i3.off nD0) e2
    obtain ⟨x, ex, hx⟩ := atI_nat (xs := [V.int 0, V.int 0, V.int 1, V.int (-1), V.int 5, V.int 30000]) v50 (by exact v51)
    obtain ⟨m, rfl, hm⟩ : ∃ m, x = V.int m ∧ -32768 ≤ m ∧ m ≤ 32767 := by
      simp only [List.mem_cons, List.not_mem_nil, or_false] at hx
      rcases hx with rfl | rfl | rfl | rfl | rfl | rfl <;> exact ⟨_, rfl, by decide, by decide⟩
    refine a_ixTV (.inl (.inl e3)) ex ⟨_, e2, by rw [List.length_map, sizeLine_eq]; omega, yes _ _ ⟨i5.own nD0, ws ++ [m], by rw [upd_same, List.map_append]; rfl, hw.append (.one hm), by rw [List.length_append, List.length_singleton, hl]⟩⟩
  · rintro H2 ⟨i2, ws, e2, hw, hl⟩
    exact q _ D ws i2 nD0 e2 hw (by omega)
theorem ok_back (T : Tx w K mg) : Cal P w K mg base 1 "_law_back" (sp__law_back K) [] := by
  refine cal_of T.D__law_back T.g__law_back sc__law_back (fun _ _ _ _ _ _ us hl => match us, hl with | [_], _ => rfl) (by walk_at "len") fun cdv A outer s H vs Q E hr h => ?_
  refine ⟨_, (pss_cons (ps_while PassesOwn.never (pt_cmpR op_gt (pv 0) pe_int (nomark _)) (pss_one (ps_set (i := 0) sc__law_back.nd rfl (by first | exact Or.inl rfl | exact Or.inr rfl) (pe_op op_sub (pv 0) (pe_op op_mul pe_int (pe_callB (call_max2' rfl) (by rfl) T.b_max (by decide +kernel) (pa_cons pe_int (pa_cons (pe_op op_fdiv (pe_op op_sub (pv 0) pe_int) pe_int) pa_nil))))))))
    (pss_cons (ps_while PassesOwn.never (pt_cmpR op_lt (pv 0) (pe_un un_neg pe_int) (nomark _)) (pss_one (ps_set (i := 0) sc__law_back.nd rfl (by first | exact Or.inl rfl | exact Or.inr rfl) (pe_op op_add (pv 0) (pe_op op_mul pe_int (pe_callB (call_max2' rfl) (by rfl) T.b_max (by decide +kernel) (pa_cons pe_int (pa_cons (pe_op op_fdiv (pe_op op_sub (pe_un un_neg pe_int) (pv 0)) pe_int) pa_nil))))))))
    (pss_one (ps_ret (pv 0))))), ?_⟩
  obtain ⟨n, rfl, q⟩ := h
  walk_at "rd"
  refine while_go (fun m σ H1 => ∃ x : Int, σ = [some (.int x)] ∧ H1 = H ∧ back x = back n ∧ m = (x - 32767).toNat) _ ⟨n, rfl, rfl, rfl, rfl⟩ ?_
  rintro Pw yes m σ H1 ⟨x, rfl, rfl, e, rfl⟩
  walk_at "rd"
  split
  next g1 =>
    refine ⟨_, fun σ' H' q => q, ?_⟩
    refine ⟨⟨by decide, by decide⟩, _, _, rfl, _, rfl, .inl ⟨by decide, by decide⟩, ?_⟩
    have k1 : 1 ≤ max 1 ((x - 32767) / 65536) := Int.le_max_left _ _
    generalize max 1 ((x - 32767) / 65536) = k at *
    refine ⟨_, ?_, yes _ _ _ ⟨x - 65536 * k, rfl, rfl, ?_, rfl⟩⟩
    · omega
    · rw [← e]
      unfold back
      omega
  next g1 =>
    refine while_go (fun m σ H2 => ∃ x : Int, σ = [some (.int x)] ∧ H2 = H1 ∧ back x = back n ∧ x ≤ 32767 ∧ m = (-32768 - x).toNat) _ ⟨x, rfl, rfl, e, by omega, rfl⟩ ?_
    rintro Pw yes m σ H2 ⟨x, rfl, rfl, e, hx, rfl⟩
    walk_at "rd"
    split
    next g2 =>
      refine ⟨_, fun σ' H' q => q, ?_⟩
      refine ⟨⟨by decide, by decide⟩, _, _, rfl, _, rfl, .inl ⟨by decide, by decide⟩, ?_⟩
      have k1 : 1 ≤ max 1 ((-32768 - x) / 65536) := Int.le_max_left _ _
      have k2 : max 1 ((-32768 - x) / 65536) = 1 ∨ max 1 ((-32768 - x) / 65536) = (-32768 - x) / 65536 := by
        rcases Int.le_total 1 ((-32768 - x) / 65536) with h | h
        · exact .inr (Int.max_eq_right h)
        · exact .inl (Int.max_eq_left h)
      have k3 : x + 65536 * max 1 ((-32768 - x) / 65536) ≤ 32767 := by
        rcases k2 with k2 | k2 <;> rw [k2] <;> omega
      clear k2
      generalize max 1 ((-32768 - x) / 65536) = k at *
      refine ⟨_, ?_, yes _ _ _ ⟨x + 65536 * k, rfl, rfl, ?_, k3, rfl⟩⟩
      · omega
      · rw [← e]
        unfold back
        omega
    next g2 =>
      have eb : back x = x := by unfold back; omega
      rw [← e, eb] at q
      exact q
end
end Pb

/-! L5 -/
set_option Elab.async false
set_option linter.all false
set_option maxRecDepth 100000
set_option maxHeartbeats 4000000
namespace Pb
open PySem PySem.Spec PyProof.Rows L2
open C8 (Cal Mak Met pe_c pe_mk pe_mt pe_mt0 pe_gc fnScope_by)
/-! short words -/
local macro_rules | `(tactic| walk_at "rd") => `(tactic| try simp only [tVar, tC, tAdd, tSub, t2I, tIsN, tNotN, tB, tAnd, tOr, tNot, tAndV, tOrV, tNotV, tIf, tSeq, tPar, tPar3, tNext, tBreak, tCont, tDrop, tRet, tRetN, tIfS, gName, gNil, gCons, gTup, gSub, tAsg, tAug, ipI, iList, iTup, iRng1, iRng2, iStr, iEnum, iZip,
  tOp, tUn, rI, rI0, rU, tTest, tChain, tFld, sFld, sFldAug, L2.rAdd, L2.rSub, tNil, tCons, tTup, tLst, tCall, tMeth, tMake, tCB, tNoPart, tPart, tSl, tBM0, tBM, tDGet, tDGet1, tDGet2, tDIn, tDNotIn, sDPut, tDNewK, rEq, rNe, scal_ii, scal_ss, scal_bb, scal_nn, scal_ni, scal_in, scal_ns, scal_sn, scal_is, scal_si, List.take_succ_cons, List.take_zero, List.drop_succ_cons, List.drop_zero, upd_same, upd_upd, and_assoc, tKGet, gStar, tDisp, tPairs, tYes,
  L2.start, List.map_cons, List.map_nil, List.length_cons, List.length_nil, List.cons_append, List.nil_append, List.append_nil, List.replicate, Nat.sub_self, Nat.add_sub_cancel, Nat.reduceAdd, Nat.reduceSub, List.set_cons_zero, List.set_cons_succ, List.getElem?_cons_zero, List.getElem?_cons_succ,
  Option.some.injEq, V.int.injEq, V.bl.injEq, V.str.injEq, V.ref.injEq, exists_eq_left', exists_eq_left, exists_eq', exists_eq, true_and, and_true, if_true, if_false, Bool.false_eq_true, List.cons.injEq, Bool.not_true, Bool.not_false, cxK, cxP, cxW, ite_true, ite_false, wipe, reduceCtorEq, and_self, decide_true, decide_false, exists_and_left, exists_const, decide_eq_true_eq])
local macro_rules | `(tactic| walk_at "len") => `(tactic| (intro vs H Q E h; repeat (first | (obtain ⟨e, _⟩ := h; subst e; rfl) | (obtain ⟨_, h⟩ := h))))
local macro_rules | `(tactic| walk_at "wd") => `(tactic| simp (config := {decide := true}) only [V.str.injEq, scal_ss, true_and, if_true, if_false])

/-- one row done: what is told, the worths left, the pile; none: dry -/
def step1 (r : Row) (told ws pile : List Int) : Option (List Int × List Int × List Int) :=
  match r with
  | .tell => some (told ++ [topN pile 0], ws, popped pile)
  | .hear => (match ws with
    | [] => none
    | w :: ws => some (told, ws, pile ++ [w]))
  | r => some (told, ws, doneOn pile r)
/-- the three lists of a run -/
structure Piles (H : Hp) (pl tl wl : Addr) (told ws pile : List Int) : Prop where
  p : H pl = some (.lst (pile.map V.int))
  t : H tl = some (.lst (told.map V.int))
  w : H wl = some (.lst (ws.map V.int))
  pt : pl ≠ tl
  pw : pl ≠ wl
  tw : tl ≠ wl
section
variable {H H' : Hp} {pl tl wl : Addr} {told ws pile : List Int}
theorem Piles.grow (ps : Piles H pl tl wl told ws pile) (s : Same H H') : Piles H' pl tl wl told ws pile := ⟨s _ _ ps.p, s _ _ ps.t, s _ _ ps.w, ps.pt, ps.pw, ps.tw⟩
theorem Piles.putP (ps : Piles H pl tl wl told ws pile) (q : List Int) : Piles (upd H pl (.lst (q.map V.int))) pl tl wl told ws q := ⟨upd_same, (upd_ne ps.pt.symm).trans ps.t, (upd_ne ps.pw.symm).trans ps.w, ps.pt, ps.pw, ps.tw⟩
theorem Piles.putT (ps : Piles H pl tl wl told ws pile) (q : List Int) : Piles (upd H tl (.lst (q.map V.int))) pl tl wl q ws pile := ⟨(upd_ne ps.pt).trans ps.p, upd_same, (upd_ne ps.tw.symm).trans ps.w, ps.pt, ps.pw, ps.tw⟩
theorem Piles.putW (ps : Piles H pl tl wl told ws pile) (q : List Int) : Piles (upd H wl (.lst (q.map V.int))) pl tl wl told q pile := ⟨(upd_ne ps.pw).trans ps.p, (upd_ne ps.tw).trans ps.t, upd_same, ps.pt, ps.pw, ps.tw⟩
theorem Piles.tk (ps : Piles H pl tl wl told ws pile) : Tk H [pl, tl, wl] := Tk.cons ps.p (Tk.cons ps.t (Tk.cons ps.w Tk.nil))
theorem sxP {o : HO} : Sx [pl, tl, wl] H (upd H pl o) := Sx.upd (by simp)
theorem sxT {o : HO} : Sx [pl, tl, wl] H (upd H tl o) := Sx.upd (by simp)
theorem sxW {o : HO} : Sx [pl, tl, wl] H (upd H wl o) := Sx.upd (by simp)
end
theorem map_snoc {xs : List Int} {n : Int} : xs.map V.int ++ [V.int n] = (xs ++ [n]).map V.int := by rw [List.map_append]; rfl
theorem last_of {ns : List Int} (h : 1 ≤ ns.length) : (ns.map V.int)[(ns.map V.int).length - 1]? = some (.int (topN ns 0)) := last_top h
theorem topN_popped {ns : List Int} (h : 2 ≤ ns.length) : topN (popped ns) 0 = topN ns 1 := by
  unfold topN popped
  rw [List.length_take, List.getD_eq_getElem?_getD, List.getD_eq_getElem?_getD]
  rw [List.getElem?_take_of_lt (by omega)]
  congr 2
  omega
theorem popped2 {ns : List Int} (h : 2 ≤ ns.length) : popped (popped ns) = ns.take (ns.length - 2) := by
  unfold popped
  rw [List.length_take, List.take_take]
  congr 1
  omega
def sumTab (a b : Int) : List (Key × V) := [(Sum.inr (Str.ofString "plus"), .int (a + b)), (Sum.inr (Str.ofString "less"), .int (a - b)), (Sum.inr (Str.ofString "times"), .int (a * b))]
theorem sumTab_merge (a b : Int) : mergeK [] (sumTab a b) = sumTab a b := rfl
theorem sumTab_plus {a b : Int} : valV (mergeK [] (sumTab a b)) (Sum.inr (Str.ofString "plus")) = some (.int (a + b)) := rfl
theorem sumTab_less {a b : Int} : valV (mergeK [] (sumTab a b)) (Sum.inr (Str.ofString "less")) = some (.int (a - b)) := rfl
theorem sumTab_times {a b : Int} : valV (mergeK [] (sumTab a b)) (Sum.inr (Str.ofString "times")) = some (.int (a * b)) := rfl
def sp__law_step (K : PySem.W.Frag) : Sp := fun vs H Q _ => ∃ (pl tl wl : Addr) (v : V) (r : Row) (told ws pile : List Int), vs = [.ref pl, v, .ref tl, .ref wl] ∧ Piles H pl tl wl told ws pile ∧ Dp K (hide H [pl, tl, wl]) v r.d ∧ r.touch ≤ pile.length ∧ Worths pile ∧ pile.length ≤ 1000 ∧ told.length ≤ 200000 ∧
  (match step1 r told ws pile with
  | none => ∀ H', Same H H' → Q (.bl false) H'
  | some (t', w', p') => ∀ H', Sx [pl, tl, wl] H H' → Piles H' pl tl wl t' w' p' → Q (.bl true) H')
section
variable {P : Program} {w : World} {K : PySem.W.Frag} {mg : Str → Option Value} {base : Heap}
theorem ok_step (T : Tx w K mg) (F__law_back : Cal P w K mg base 1 "_law_back" (sp__law_back K) []) : Cal P w K mg base 2 "_law_step" (sp__law_step K) [] := by
  refine cal_of T.D__law_step T.g__law_step sc__law_step (fun _ _ _ _ _ _ us hl => match us, hl with | [_, _, _, _], _ => rfl) (by walk_at "len") fun cdv A outer s H vs Q E hr h => ?_
  refine ⟨_, (pss_cons (ps_set (i := 4) sc__law_step.nd rfl (by first | exact Or.inl rfl | exact Or.inr rfl) (pe_ix (r := rIx K) ix_seq (pv 1) pe_int (fun _ _ => rfl)))
    (pss_cons (ps_if (pt_cmpR op_eq (pv 4) pe_str (nomark _)) (pss_cons (ps_if (pt_cmpR (r := rEqD K) (op_eqD hr.units) (pv 3) (pe_lst pa_nil) (nomark _)) (pss_one (ps_ret pe_bl)) pss_nil)
    (pss_cons (ps_expr (pe_bm PySem.F.plainAttrs_list PySem.F.slot_list_append PySem.F.type_list_append mt_append (pv 0) (pa_cons (pe_bm PySem.F.plainAttrs_list PySem.F.slot_list_pop PySem.F.type_list_pop mt_popAt (pv 3) (pa_cons pe_int pa_nil)) pa_nil)))
    (pss_one (ps_ret pe_bl)))) pss_nil)
    (pss_cons (ps_if (pt_cmpR op_eq (pv 4) pe_str (nomark _)) (pss_one (ps_expr (pe_bm PySem.F.plainAttrs_list PySem.F.slot_list_append PySem.F.type_list_append mt_append (pv 0) (pa_cons (pe_ix (r := rIx K) ix_seq (pv 1) pe_int (fun _ _ => rfl)) pa_nil)))) (pss_one (ps_if (pt_cmpR op_eq (pv 4) pe_str (nomark _)) (pss_one (ps_expr (pe_bm PySem.F.plainAttrs_list PySem.F.slot_list_append PySem.F.type_list_append mt_append (pv 2) (pa_cons (pe_bm0 PySem.F.plainAttrs_list PySem.F.slot_list_pop PySem.F.type_list_pop mt_pop (pv 0)) pa_nil)))) (pss_one (ps_if (pt_cmpR op_eq (pv 4) pe_str (nomark _)) (pss_one (ps_expr (pe_bm0 PySem.F.plainAttrs_list PySem.F.slot_list_pop PySem.F.type_list_pop mt_pop (pv 0)))) (pss_one (ps_if (pt_cmpR op_eq (pv 4) pe_str (nomark _)) (pss_one (ps_expr (pe_bm PySem.F.plainAttrs_list PySem.F.slot_list_append PySem.F.type_list_append mt_append (pv 0) (pa_cons (pe_ix (r := rIx K) ix_seq (pv 0) (pe_un un_neg pe_int) (fun _ _ => rfl)) pa_nil)))) (pss_one (ps_if (pt_cmpR op_eq (pv 4) pe_str (nomark _)) (pss_one (ps_expr (pe_bm PySem.F.plainAttrs_list PySem.F.slot_list_append PySem.F.type_list_append mt_append (pv 0) (pa_cons (pe_ix (r := rIx K) ix_seq (pv 0) (pe_un un_neg pe_int) (fun _ _ => rfl)) pa_nil)))) (pss_cons (ps_par (i := 5) (j := 6) rfl sc__law_step.nd rfl rfl (by decide) rfl rfl (pa_cons (pe_bm0 PySem.F.plainAttrs_list PySem.F.slot_list_pop PySem.F.type_list_pop mt_pop (pv 0)) (pa_cons (pe_bm0 PySem.F.plainAttrs_list PySem.F.slot_list_pop PySem.F.type_list_pop mt_pop (pv 0)) pa_nil)) rfl)
    (pss_one (ps_if (pt_cmpR op_eq (pv 4) pe_str (nomark _)) (pss_one (ps_expr (pe_bm PySem.F.plainAttrs_list PySem.F.slot_list_extend PySem.F.type_list_extend mt_extend (pv 0) (pa_cons (pe_lst (pa_cons (pv 5) (pa_cons (pv 6) pa_nil))) pa_nil)))) (pss_one (ps_if (pt_cmpR op_eq (pv 4) pe_str (nomark _)) (pss_one (ps_expr (pe_bm PySem.F.plainAttrs_list PySem.F.slot_list_append PySem.F.type_list_append mt_append (pv 0) (pa_cons (pe_callTy call_int1 (by rfl) T.b_int (by decide +kernel) (pa_cons (pe_cmpR op_lt (pv 6) (pv 5) (nomark _)) pa_nil)) pa_nil)))) (pss_one (ps_expr (pe_bm PySem.F.plainAttrs_list PySem.F.slot_list_append PySem.F.type_list_append mt_append (pv 0) (pa_cons (pe_c F__law_back hr (by decide) (by rfl) (pa_cons (pe_dget (hu_of hr) (pe_disp (pps_cons pe_str (pe_op op_add (pv 6) (pv 5)) (pps_cons pe_str (pe_op op_sub (pv 6) (pv 5)) (pps_cons pe_str (pe_op op_mul (pv 6) (pv 5)) pps_nil))) (by rfl) (by rfl) (fun z => by cases z) (by decide)) (pv 4) (fun _ _ => rfl)) pa_nil)) pa_nil))))))))))))))))))
    (pss_one (ps_ret pe_bl))))), ?_⟩
  obtain ⟨pl, tl, wl, v, r, told, ws, pile, rfl, ps, hd, ht, hw, h1, h2, q⟩ := h
  have hd0 := Dp.mono same_show hd
  have big : ∀ n : Nat, n ≤ 300000 → n < sizeLine := fun n h => by rw [sizeLine_eq]; omega
  walk_at "rd"
  cases r <;> simp only [Row.d, Row.word, Row.args, Row.touch, step1] at hd0 ht q <;> refine a_ixT hd0 atI_0 fun u hu => ?_ <;> cases hu <;> walk_at "wd"
  case hear =>
    intro p np
    have ps1 := ps.grow (same_new (o := HO.lst []) np)
    have e1 : upd H p (HO.lst []) p = some (.lst []) := upd_same
    have s1 := same_new (o := HO.lst []) np
    generalize upd H p (HO.lst []) = H1 at *
    refine a_eqD (d := .list (ws.map PyData.int)) (e := .list []) (.lst (SqL.of ps1.w) (DpAll.ints ws)) (.lst (SqL.of e1) .nil) (shaped_of (n := 1) (shp_list fun d hd => by
      obtain ⟨i, _, rfl⟩ := List.mem_map.mp hd
      exact shp_int) (by decide)) rfl ?_
    cases ws with
    | nil => exact ⟨_, rfl, iteT (q H1 s1)⟩
    | cons n ws =>
      refine ⟨_, rfl, ?_⟩
      have e : PyData.eqv (.list ((n :: ws).map PyData.int)) (.list []) = false := by simp [PyData.eqv, PyData.eqvAll]
      rw [e, if_neg Bool.false_ne_true]
      refine ⟨.inl ⟨rfl, _, SqL.of ps1.p⟩, .inl ⟨rfl, _, SqL.of ps1.w⟩, wl, _, 0, 0, .int n, rfl, rfl, ps1.w, by decide, by decide, seqIndex_0, rfl, ?_⟩
      have ps2 := ps1.putW ws
      refine ⟨pl, _, _, rfl, rfl, ps2.p, by rw [List.length_map]; exact big _ (by omega), ?_⟩
      rw [map_snoc]
      exact q _ (((Sx.of s1).trans sxW).trans sxP) (ps2.putP _)
  case put n =>
    refine ⟨.inl ⟨rfl, _, SqL.of ps.p⟩, a_ixT hd0 atI_1 fun u hu => ?_⟩
    cases hu
    refine ⟨pl, _, _, rfl, rfl, ps.p, by rw [List.length_map]; exact big _ (by omega), ?_⟩
    rw [map_snoc]
    exact q _ sxP (ps.putP _)
  case tell =>
    refine ⟨.inl ⟨rfl, _, SqL.of ps.t⟩, .inl ⟨rfl, _, SqL.of ps.p⟩, pl, _, _, rfl, rfl, ps.p, last_top ht, ?_⟩
    rw [popped_drop]
    have ps2 := ps.putP (popped pile)
    refine ⟨tl, _, _, rfl, rfl, ps2.t, by rw [List.length_map]; exact big _ (by omega), ?_⟩
    rw [map_snoc]
    exact q _ (sxP.trans sxT) (ps2.putT _)
  case drop =>
    refine ⟨.inl ⟨rfl, _, SqL.of ps.p⟩, pl, _, _, rfl, rfl, ps.p, last_top ht, ?_⟩
    rw [popped_drop]
    exact q _ sxP (ps.putP _)
  case same =>
    refine ⟨.inl ⟨rfl, _, SqL.of ps.p⟩, a_ixV (SqL.of ps.p) (atI_neg (i := 0) ht) ?_⟩
    refine ⟨pl, _, _, rfl, rfl, ps.p, by rw [List.length_map]; exact big _ (by omega), ?_⟩
    rw [map_snoc]
    exact q _ sxP (ps.putP _)
  case over =>
    refine ⟨.inl ⟨rfl, _, SqL.of ps.p⟩, a_ixV (SqL.of ps.p) (atI_neg (i := 1) ht) ?_⟩
    refine ⟨pl, _, _, rfl, rfl, ps.p, by rw [List.length_map]; exact big _ (by omega), ?_⟩
    rw [map_snoc]
    exact q _ sxP (ps.putP _)
  case swap =>
    have l1 := popped_len (ns := pile) (by omega)
    refine ⟨.inl ⟨rfl, _, SqL.of ps.p⟩, pl, _, _, rfl, rfl, ps.p, last_top (by omega), ?_⟩
    rw [popped_drop]
    have ps1 := ps.putP (popped pile)
    refine ⟨.inl ⟨rfl, _, SqL.of ps1.p⟩, pl, _, _, rfl, rfl, ps1.p, last_top (by omega), ?_⟩
    rw [popped_drop]
    have ps2 := ps1.putP (popped (popped pile))
    have sx2 : Sx [pl, tl, wl] H (upd (upd H pl (.lst ((popped pile).map V.int))) pl (.lst ((popped (popped pile)).map V.int))) := sxP.trans sxP
    rw [topN_popped ht]
    generalize upd (upd H pl (.lst ((popped pile).map V.int))) pl (.lst ((popped (popped pile)).map V.int)) = H2 at *
    rw [popped2 ht] at ps2
    refine ⟨.inl ⟨rfl, _, SqL.of ps2.p⟩, fun p np => ?_⟩
    have ps3 := ps2.grow (same_new (o := HO.lst [V.int (topN pile 0), V.int (topN pile 1)]) np)
    refine ⟨pl, p, _, _, rfl, rfl, ps3.p, upd_same, by rw [List.length_map, List.length_take]; exact Nat.le_of_lt (big _ (by simp only [List.length_cons, List.length_nil]; omega)), ?_⟩
    have e : (pile.take (pile.length - 2)).map V.int ++ [V.int (topN pile 0), V.int (topN pile 1)] = (doneOn pile .swap).map V.int := by simp only [doneOn, List.map_append]; rfl
    rw [e]
    exact q _ (sx2.trans ((Sx.of (same_new np)).trans sxP)) (ps3.putP _)
  case under =>
    have l1 := popped_len (ns := pile) (by omega)
    refine ⟨.inl ⟨rfl, _, SqL.of ps.p⟩, pl, _, _, rfl, rfl, ps.p, last_top (by omega), ?_⟩
    rw [popped_drop]
    have ps1 := ps.putP (popped pile)
    refine ⟨.inl ⟨rfl, _, SqL.of ps1.p⟩, pl, _, _, rfl, rfl, ps1.p, last_top (by omega), ?_⟩
    rw [popped_drop]
    have ps2 := ps1.putP (popped (popped pile))
    have sx2 : Sx [pl, tl, wl] H (upd (upd H pl (.lst ((popped pile).map V.int))) pl (.lst ((popped (popped pile)).map V.int))) := sxP.trans sxP
    rw [topN_popped ht]
    generalize upd (upd H pl (.lst ((popped pile).map V.int))) pl (.lst ((popped (popped pile)).map V.int)) = H2 at *
    rw [popped2 ht] at ps2
    refine ⟨.inl ⟨rfl, _, SqL.of ps2.p⟩, _, rfl, _, rfl, .inr ?_⟩
    refine ⟨pl, _, _, rfl, rfl, ps2.p, by rw [List.length_map, List.length_take]; exact big _ (by omega), ?_⟩
    rw [map_snoc]
    exact q _ (sx2.trans sxP) (ps2.putP _)
  case plus =>
    have l1 := popped_len (ns := pile) (by omega)
    refine ⟨.inl ⟨rfl, _, SqL.of ps.p⟩, pl, _, _, rfl, rfl, ps.p, last_top (by omega), ?_⟩
    rw [popped_drop]
    have ps1 := ps.putP (popped pile)
    refine ⟨.inl ⟨rfl, _, SqL.of ps1.p⟩, pl, _, _, rfl, rfl, ps1.p, last_top (by omega), ?_⟩
    rw [popped_drop]
    have ps2 := ps1.putP (popped (popped pile))
    have sx2 : Sx [pl, tl, wl] H (upd (upd H pl (.lst ((popped pile).map V.int))) pl (.lst ((popped (popped pile)).map V.int))) := sxP.trans sxP
    rw [topN_popped ht]
    generalize upd (upd H pl (.lst ((popped pile).map V.int))) pl (.lst ((popped (popped pile)).map V.int)) = H2 at *
    rw [popped2 ht] at ps2
    have g0 := hw.top (i := 0) (by omega)
    have g1 := hw.top (i := 1) (by omega)
    refine ⟨.inl ⟨rfl, _, SqL.of ps2.p⟩, fun p np => ⟨_, rfl, _, rfl, _, rfl, _, rfl, _, rfl, _, rfl, .inl ⟨by omega, by omega⟩, sumTab (topN pile 1) (topN pile 0), rfl, by show 3 ≤ 15; decide, ?_⟩⟩
    have s3 := same_new (o := HO.dK (mergeK [] (sumTab (topN pile 1) (topN pile 0)))) np
    have q3 := DGet.k (k := Sum.inr (Str.ofString "plus")) (upd_same (H := H2) (a := p) (o := HO.dK (mergeK [] (sumTab (topN pile 1) (topN pile 0)))))
    rw [sumTab_plus] at q3
    have ps3 := ps2.grow s3
    generalize upd H2 p (HO.dK (mergeK [] (sumTab (topN pile 1) (topN pile 0)))) = H3 at *
    refine ⟨_, q3, _, rfl, ?_⟩
    refine ⟨pl, _, _, rfl, rfl, ps3.p, by rw [List.length_map, List.length_take]; exact big _ (by omega), ?_⟩
    rw [map_snoc]
    exact q _ (sx2.trans ((Sx.of s3).trans sxP)) (ps3.putP _)
  case less =>
    have l1 := popped_len (ns := pile) (by omega)
    refine ⟨.inl ⟨rfl, _, SqL.of ps.p⟩, pl, _, _, rfl, rfl, ps.p, last_top (by omega), ?_⟩
    rw [popped_drop]
    have ps1 := ps.putP (popped pile)
    refine ⟨.inl ⟨rfl, _, SqL.of ps1.p⟩, pl, _, _, rfl, rfl, ps1.p, last_top (by omega), ?_⟩
    rw [popped_drop]
    have ps2 := ps1.putP (popped (popped pile))
    have sx2 : Sx [pl, tl, wl] H (upd (upd H pl (.lst ((popped pile).map V.int))) pl (.lst ((popped (popped pile)).map V.int))) := sxP.trans sxP
    rw [topN_popped ht]
    generalize upd (upd H pl (.lst ((popped pile).map V.int))) pl (.lst ((popped (popped pile)).map V.int)) = H2 at *
    rw [popped2 ht] at ps2
    have g0 := hw.top (i := 0) (by omega)
    have g1 := hw.top (i := 1) (by omega)
    refine ⟨.inl ⟨rfl, _, SqL.of ps2.p⟩, fun p np => ⟨_, rfl, _, rfl, _, rfl, _, rfl, _, rfl, _, rfl, .inl ⟨by omega, by omega⟩, sumTab (topN pile 1) (topN pile 0), rfl, by show 3 ≤ 15; decide, ?_⟩⟩
    have s3 := same_new (o := HO.dK (mergeK [] (sumTab (topN pile 1) (topN pile 0)))) np
    have q3 := DGet.k (k := Sum.inr (Str.ofString "less")) (upd_same (H := H2) (a := p) (o := HO.dK (mergeK [] (sumTab (topN pile 1) (topN pile 0)))))
    rw [sumTab_less] at q3
    have ps3 := ps2.grow s3
    generalize upd H2 p (HO.dK (mergeK [] (sumTab (topN pile 1) (topN pile 0)))) = H3 at *
    refine ⟨_, q3, _, rfl, ?_⟩
    refine ⟨pl, _, _, rfl, rfl, ps3.p, by rw [List.length_map, List.length_take]; exact big _ (by omega), ?_⟩
    rw [map_snoc]
    exact q _ (sx2.trans ((Sx.of s3).trans sxP)) (ps3.putP _)
  case times =>
    have l1 := popped_len (ns := pile) (by omega)
    refine ⟨.inl ⟨rfl, _, SqL.of ps.p⟩, pl, _, _, rfl, rfl, ps.p, last_top (by omega), ?_⟩
    rw [popped_drop]
    have ps1 := ps.putP (popped pile)
    refine ⟨.inl ⟨rfl, _, SqL.of ps1.p⟩, pl, _, _, rfl, rfl, ps1.p, last_top (by omega), ?_⟩
    rw [popped_drop]
    have ps2 := ps1.putP (popped (popped pile))
    have sx2 : Sx [pl, tl, wl] H (upd (upd H pl (.lst ((popped pile).map V.int))) pl (.lst ((popped (popped pile)).map V.int))) := sxP.trans sxP
    rw [topN_popped ht]
    generalize upd (upd H pl (.lst ((popped pile).map V.int))) pl (.lst ((popped (popped pile)).map V.int)) = H2 at *
    rw [popped2 ht] at ps2
    have g0 := hw.top (i := 0) (by omega)
    have g1 := hw.top (i := 1) (by omega)
    refine ⟨.inl ⟨rfl, _, SqL.of ps2.p⟩, fun p np => ⟨_, rfl, _, rfl, _, rfl, _, rfl, _, rfl, _, rfl, .inl ⟨by omega, by omega⟩, sumTab (topN pile 1) (topN pile 0), rfl, by show 3 ≤ 15; decide, ?_⟩⟩
    have s3 := same_new (o := HO.dK (mergeK [] (sumTab (topN pile 1) (topN pile 0)))) np
    have q3 := DGet.k (k := Sum.inr (Str.ofString "times")) (upd_same (H := H2) (a := p) (o := HO.dK (mergeK [] (sumTab (topN pile 1) (topN pile 0)))))
    rw [sumTab_times] at q3
    have ps3 := ps2.grow s3
    generalize upd H2 p (HO.dK (mergeK [] (sumTab (topN pile 1) (topN pile 0)))) = H3 at *
    refine ⟨_, q3, _, rfl, ?_⟩
    refine ⟨pl, _, _, rfl, rfl, ps3.p, by rw [List.length_map, List.length_take]; exact big _ (by omega), ?_⟩
    rw [map_snoc]
    exact q _ (sx2.trans ((Sx.of s3).trans sxP)) (ps3.putP _)
end
end Pb

/-! L6 -/
set_option Elab.async false
set_option linter.all false
set_option maxRecDepth 100000
set_option maxHeartbeats 4000000
namespace Pb
open PySem PySem.Spec PyProof.Rows L2
open C8 (Cal Mak Met pe_c pe_mk pe_mt pe_mt0 pe_gc fnScope_by)
/-! short words -/
local macro_rules | `(tactic| walk_at "rd") => `(tactic| try simp only [tVar, tC, tAdd, tSub, t2I, tIsN, tNotN, tB, tAnd, tOr, tNot, tAndV, tOrV, tNotV, tIf, tSeq, tPar, tPar3, tNext, tBreak, tCont, tDrop, tRet, tRetN, tIfS, gName, gNil, gCons, gTup, gSub, tAsg, tAug, ipI, iList, iTup, iRng1, iRng2, iStr, iEnum, iZip,
  tOp, tUn, rI, rI0, rU, tTest, tChain, tFld, sFld, sFldAug, L2.rAdd, L2.rSub, tNil, tCons, tTup, tLst, tCall, tMeth, tMake, tCB, tNoPart, tPart, tSl, tBM0, tBM, tDGet, tDGet1, tDGet2, tDIn, tDNotIn, sDPut, tDNewK, rEq, rNe, scal_ii, scal_ss, scal_bb, scal_nn, scal_ni, scal_in, scal_ns, scal_sn, scal_is, scal_si, List.take_succ_cons, List.take_zero, List.drop_succ_cons, List.drop_zero, upd_same, upd_upd, and_assoc, tKGet, gStar, tDisp, tPairs, tYes,
  L2.start, List.map_cons, List.map_nil, List.length_cons, List.length_nil, List.cons_append, List.nil_append, List.append_nil, List.replicate, Nat.sub_self, Nat.add_sub_cancel, Nat.reduceAdd, Nat.reduceSub, List.set_cons_zero, List.set_cons_succ, List.getElem?_cons_zero, List.getElem?_cons_succ,
  Option.some.injEq, V.int.injEq, V.bl.injEq, V.str.injEq, V.ref.injEq, exists_eq_left', exists_eq_left, exists_eq', exists_eq, true_and, and_true, if_true, if_false, Bool.false_eq_true, List.cons.injEq, Bool.not_true, Bool.not_false, cxK, cxP, cxW, ite_true, ite_false, wipe, reduceCtorEq, and_self, decide_true, decide_false, exists_and_left, exists_const, decide_eq_true_eq])
local macro_rules | `(tactic| walk_at "len") => `(tactic| (intro vs H Q E h; repeat (first | (obtain ⟨e, _⟩ := h; subst e; rfl) | (obtain ⟨_, h⟩ := h))))
local macro_rules | `(tactic| walk_at "wd") => `(tactic| simp (config := {decide := true}) only [V.str.injEq, scal_ss, true_and, if_true, if_false])

def outD : Outcome → PyData
  | .ran told pile n => .tuple [.str "ran", .list (told.map .int), .list (pile.map .int), .int (n : Nat)]
  | .dry told l i => .tuple [.str "dry", .list (told.map .int), .str l, .int (i : Nat)]
  | .spent told => .tuple [.str "spent", .list (told.map .int)]
theorem same_own {H0 H H' : Hp} {ms : List Addr} (s : Same H0 H) (sx : Sx ms H H') (n : ∀ m ∈ ms, H0 m = none) : Same H0 H' := fun b o e => sx b o (fun z => by rw [n b z] at e; cases e) (s b o e)
theorem hide_own {H0 H : Hp} {ms ks : List Addr} (s : Same H0 H) (n : ∀ k ∈ ks, H0 k = none) : Same (hide H0 ms) (hide H ks) := fun b o e => by
  obtain ⟨e1, e2⟩ := hide_of e
  rw [hide_at fun z => by rw [n b z] at e1; cases e1]
  exact s b o e1
/-- what stands while the law's run goes on -/
structure RG (H0 H : Hp) (most : Nat) (pl tl wl : Addr) (s : RSt) : Prop where
  same : Same H0 H
  np : H0 pl = none
  nt : H0 tl = none
  nw : H0 wl = none
  ps : Piles H pl tl wl s.told s.ws s.pile
  le : s.steps ≤ most
  told : s.told.length ≤ s.steps
  pw : Worths s.pile
  ww : Worths s.ws
  deep : s.pile.length ≤ 1000
section
variable {H0 H H' : Hp} {most : Nat} {pl tl wl : Addr} {s : RSt}
theorem RG.own (g : RG H0 H most pl tl wl s) : ∀ k ∈ [pl, tl, wl], H0 k = none := fun k hk => by
  rcases List.mem_cons.mp hk with z | hk
  · rw [z]; exact g.np
  rcases List.mem_cons.mp hk with z | hk
  · rw [z]; exact g.nt
  · rw [List.mem_singleton.mp hk]; exact g.nw
theorem RG.grow (g : RG H0 H most pl tl wl s) (x : Same H H') : RG H0 H' most pl tl wl s := ⟨g.same.trans x, g.np, g.nt, g.nw, g.ps.grow x, g.le, g.told, g.pw, g.ww, g.deep⟩
theorem RG.to (g : RG H0 H most pl tl wl s) {s' : RSt} (sx : Sx [pl, tl, wl] H H') (ps : Piles H' pl tl wl s'.told s'.ws s'.pile) (le : s'.steps ≤ most) (told : s'.told.length ≤ s'.steps) (pw : Worths s'.pile) (ww : Worths s'.ws) (deep : s'.pile.length ≤ 1000) : RG H0 H' most pl tl wl s' :=
  ⟨same_own g.same sx g.own, g.np, g.nt, g.nw, ps, le, told, pw, ww, deep⟩
theorem RG.told_at {K : PySem.W.Frag} {ms : List Addr} (g : RG H0 H most pl tl wl s) (tk : Tk H0 ms) : Dp K (hide H ms) (.ref tl) (.list (s.told.map .int)) := .lst (.inl (.inl (by rw [hide_at (tk.out g.nt)]; exact g.ps.t))) (DpAll.ints _)
theorem RG.pile_at {K : PySem.W.Frag} {ms : List Addr} (g : RG H0 H most pl tl wl s) (tk : Tk H0 ms) : Dp K (hide H ms) (.ref pl) (.list (s.pile.map .int)) := .lst (.inl (.inl (by rw [hide_at (tk.out g.np)]; exact g.ps.p))) (DpAll.ints _)
end
theorem rowsRun_step1 {most : Nat} {l : Str} {r : Row} {rs : List Row} {i : Nat} {s : RSt} (hs : s.steps ≠ most) : rowsRun most l (r :: rs) i s = (match step1 r s.told s.ws s.pile with
  | none => .inl (.dry s.told l i)
  | some (t, w, p) => rowsRun most l rs (i + 1) ⟨t, w, p, s.steps + 1⟩) := by
  cases r <;> simp [rowsRun, hs, step1]
  cases s.ws <;> simp
theorem step1_some {r : Row} {told ws pile t w p : List Int} (e : step1 r told ws pile = some (t, w, p)) (ht : r.touch ≤ pile.length) (hw : Worths pile) (hww : Worths ws) (hr : ∀ n, r = .put n → -32768 ≤ n ∧ n ≤ 32767) :
    (p.length : Int) = pile.length + r.more ∧ Worths p ∧ Worths w ∧ t.length ≤ told.length + 1 := by
  by_cases h1 : r = .tell
  · subst h1
    simp only [step1, Option.some.injEq, Prod.mk.injEq] at e
    obtain ⟨rfl, rfl, rfl⟩ := e
    exact ⟨popped_len ht, popped_worths hw, hww, by rw [List.length_append, List.length_singleton]; exact Nat.le_refl _⟩
  by_cases h2 : r = .hear
  · subst h2
    cases ws with
    | nil => simp [step1] at e
    | cons n ws =>
      simp only [step1, Option.some.injEq, Prod.mk.injEq] at e
      obtain ⟨rfl, rfl, rfl⟩ := e
      exact ⟨by rw [List.length_append]; rfl, hw.append (.one (hww _ (List.mem_cons_self ..))), fun n hn => hww n (List.mem_cons_of_mem _ hn), Nat.le_succ _⟩
  · have e2 : step1 r told ws pile = some (told, ws, doneOn pile r) := by cases r <;> first | rfl | exact absurd rfl h1 | exact absurd rfl h2
    rw [e2] at e
    cases e
    exact ⟨doneOn_len ht (Row.plain_of h1 h2), doneOn_worths hw ht hr, hww, Nat.le_succ _⟩
theorem a_t5V {K : PySem.W.Frag} {H : Hp} {σ : L2.St} {Q : L2.St → Hp → Prop} {i j k l m : Nat} {p : Addr} {u v x z y : V} (h : SqT K H p [u, v, x, z, y]) (q : Q (((((σ.set i (some u)).set j (some v)).set k (some x)).set l (some z)).set m (some y)) H) : gT K 5 (gCons (gName i) (gCons (gName j) (gCons (gName k) (gCons (gName l) (gCons (gName m) gNil))))) (.ref p) σ H Q :=
  ⟨p, _, rfl, h, rfl, _, _, rfl, _, _, rfl, _, _, rfl, _, _, rfl, _, _, rfl, rfl, q⟩
theorem atI_natc {α : Type} {xs : List α} {i : Nat} {x : α} (e : xs[i]? = some x) : atI xs (i : Int) = some x := by
  have h := (List.getElem?_eq_some_iff.mp e).1
  unfold atI ixN
  rw [if_pos (by omega), if_pos (by omega)]
  exact e
theorem eqV_str {a b : Str} : eqV (.str a) (.str b) = decide (a = b) := by
  unfold eqV
  first
    | rfl
    | (by_cases q : a = b <;> simp [q])
/-- xs.index(x), the texts unlike -/
theorem a_index {K : PySem.W.Frag} {H : Hp} {a : Addr} {ls : List Str} {l : Str} {j : Nat} {Q : VK} (h : SqL K H a (ls.map V.str)) (nd : ls.Nodup) (e : ls[j]? = some l) (q : Q (.int (j : Nat)) H) : rIndex K (.ref a) [.str l] H Q :=
  ⟨a, _, .str l, j, .str l, rfl, rfl, h, rfl, flat_strs ls, by rw [List.getElem?_map, e]; rfl, by rw [eqV_str]; exact decide_eq_true rfl, fun m z' hm ez => by
    rw [List.getElem?_map] at ez
    cases q : ls[m]? with
    | none => rw [q] at ez; cases ez
    | some k =>
      rw [q] at ez
      cases ez
      rw [eqV_str]
      refine decide_eq_false fun z => ?_
      subst z
      have h1 := (List.getElem?_eq_some_iff.mp q)
      have h2 := (List.getElem?_eq_some_iff.mp e)
      obtain ⟨b1, c1⟩ := h1
      obtain ⟨b2, c2⟩ := h2
      exact (List.pairwise_iff_getElem.mp nd) m j b1 b2 hm (c1.trans c2.symm), q⟩
def sp__law_ran (K : PySem.W.Frag) : Sp := fun vs H Q _ => ∃ ms bl v bs h ns, ∃ most : Nat, vs = [bl, v, .int most] ∧ Tk H ms ∧ Dp K (hide H ms) bl (blocksD bs) ∧ Good bs h ∧ IntSeq K H v ns ∧ ns.length < 1000 ∧ Worths ns ∧ most ≤ 100000 ∧
  ∀ H' a, Same H H' → Dp K (hide H' ms) (.ref a) (outD (outcome bs ns most)) → Q (.ref a) H'
def LrInv (H : Hp) (bs : List Blk) (h : Str → Int) (ns : List Int) (most : Nat) (bl v : V) (pl tl wl : Addr) (m : Nat) (σ : L2.St) (H2 : Hp) : Prop := ∃ i b s o8 o9 o10 o11 o12 o13, σ = [some bl, some v, some (.int most), some (.ref pl), some (.ref tl), some (.ref wl), some (.int (s.steps : Nat)), some (.int (i : Nat)), o8, o9, o10, o11, o12, o13, none] ∧
  RG H H2 most pl tl wl s ∧ runFrom bs most m b.label s = outcome bs ns most ∧ most < m + s.steps ∧ bs[i]? = some b ∧ (s.pile.length : Int) = h b.label
theorem blk_parts {K : PySem.W.Frag} {H : Hp} {xs : List V} {bs : List Blk} {i : Nat} {b : Blk} (a : DpAll K H xs (bs.map Blk.d)) (e : bs[i]? = some b) : ∃ p ra ue rs, xs[i]? = some (.ref p) ∧ SqT K H p [.str b.label, .ref ra, ue] ∧ SqL K H ra rs ∧ DpAll K H rs (b.rows.map Row.d) ∧ Dp K H ue b.fin.d := by
  have e1 : (bs.map Blk.d)[i]? = some b.d := by rw [List.getElem?_map, e]; rfl
  obtain ⟨x, ex, hx⟩ := DpAll.get a e1
  obtain ⟨p, u, v, y, rfl, hs, hu, hv, hy⟩ := dp_t3 hx
  cases hu
  obtain ⟨ra, rs, rfl, h1, h2⟩ := dp_list hv
  exact ⟨p, ra, y, rs, ex, hs, h1, h2, hy⟩
section
variable {P : Program} {w : World} {K : PySem.W.Frag} {mg : Str → Option Value} {base : Heap}
theorem ok_ran (T : Tx w K mg) (F__law_step : Cal P w K mg base 2 "_law_step" (sp__law_step K) []) : Cal P w K mg base 3 "_law_ran" (sp__law_ran K) [] := by
  refine cal_of T.D__law_ran T.g__law_ran sc__law_ran (fun _ _ _ _ _ _ us hl => match us, hl with | [_, _, _], _ => rfl) (by walk_at "len") fun cdv A outer s H vs Q E hr h => ?_
  refine ⟨_, (pss_cons (ps_asg (pe_tup (pa_cons (pe_lst pa_nil) (pa_cons (pe_lst pa_nil) (pa_cons (pe_callTy (r := rListOf K) call_listOf (by rfl) T.b_list (by decide +kernel) (pa_cons (pv 1) pa_nil)) (pa_cons pe_int (pa_cons pe_int pa_nil)))))) (pg_tupK (K := K) (n := 5) rfl (pgs_cons (pg_name (i := 3) sc__law_ran.nd rfl (by first | exact Or.inl rfl | exact Or.inr rfl)) (pgs_cons (pg_name (i := 4) sc__law_ran.nd rfl (by first | exact Or.inl rfl | exact Or.inr rfl)) (pgs_cons (pg_name (i := 5) sc__law_ran.nd rfl (by first | exact Or.inl rfl | exact Or.inr rfl)) (pgs_cons (pg_name (i := 6) sc__law_ran.nd rfl (by first | exact Or.inl rfl | exact Or.inr rfl)) (pgs_cons (pg_name (i := 7) sc__law_ran.nd rfl (by first | exact Or.inl rfl | exact Or.inr rfl)) pgs_nil)))))))
    (pss_one (ps_while PassesOwn.never (pt_val pe_bl) (pss_cons (ps_asg (pe_ix (r := rIx K) ix_seq (pv 0) (pv 7) (fun _ _ => rfl)) (pg_tupK (K := K) (n := 3) rfl (pgs_cons (pg_name (i := 8) sc__law_ran.nd rfl (by first | exact Or.inl rfl | exact Or.inr rfl)) (pgs_cons (pg_name (i := 9) sc__law_ran.nd rfl (by first | exact Or.inl rfl | exact Or.inr rfl)) (pgs_cons (pg_name (i := 10) sc__law_ran.nd rfl (by first | exact Or.inl rfl | exact Or.inr rfl)) pgs_nil)))))
    (pss_cons (ps_for PassesOwn.never rfl (pi_enum (by rfl) T.b_enumerate (pa_cons (pv 9) pa_nil)) (pg_tupK (K := K) (n := 2) rfl (pgs_cons (pg_name (i := 11) sc__law_ran.nd rfl (by first | exact Or.inl rfl | exact Or.inr rfl)) (pgs_cons (pg_name (i := 12) sc__law_ran.nd rfl (by first | exact Or.inl rfl | exact Or.inr rfl)) pgs_nil))) (pss_cons (ps_if (pt_cmpR op_eq (pv 6) (pv 2) (nomark _)) (pss_one (ps_ret (pe_tup (pa_cons pe_str (pa_cons (pv 4) pa_nil))))) pss_nil)
    (pss_cons (ps_set (i := 6) sc__law_ran.nd rfl (by first | exact Or.inl rfl | exact Or.inr rfl) (pe_op op_add (pv 6) pe_int))
    (pss_one (ps_if (pt_not (pt_val (pe_c F__law_step hr (by decide) (by rfl) (pa_cons (pv 3) (pa_cons (pv 12) (pa_cons (pv 4) (pa_cons (pv 5) pa_nil))))))) (pss_one (ps_ret (pe_tup (pa_cons pe_str (pa_cons (pv 4) (pa_cons (pv 8) (pa_cons (pv 11) pa_nil))))))) pss_nil)))))
    (pss_cons (ps_if (pt_cmpR op_eq (pv 6) (pv 2) (nomark _)) (pss_one (ps_ret (pe_tup (pa_cons pe_str (pa_cons (pv 4) pa_nil))))) pss_nil)
    (pss_cons (ps_set (i := 6) sc__law_ran.nd rfl (by first | exact Or.inl rfl | exact Or.inr rfl) (pe_op op_add (pv 6) pe_int))
    (pss_cons (ps_if (pt_cmpR op_eq (pe_ix (r := rIx K) ix_seq (pv 10) pe_int (fun _ _ => rfl)) pe_str (nomark _)) (pss_one (ps_ret (pe_tup (pa_cons pe_str (pa_cons (pv 4) (pa_cons (pv 3) (pa_cons (pv 6) pa_nil))))))) pss_nil)
    (pss_cons (ps_set (i := 13) sc__law_ran.nd rfl (by first | exact Or.inl rfl | exact Or.inr rfl) (pe_ix (r := rIx K) ix_seq (pv 10) pe_int (fun _ _ => rfl)))
    (pss_cons (ps_if (pt_cmpR op_eq (pe_ix (r := rIx K) ix_seq (pv 10) pe_int (fun _ _ => rfl)) pe_str (nomark _)) (pss_one (ps_set (i := 13) sc__law_ran.nd rfl (by first | exact Or.inl rfl | exact Or.inr rfl) (pe_ifExp (pt_cmpR op_ne (pe_bm0 PySem.F.plainAttrs_list PySem.F.slot_list_pop PySem.F.type_list_pop mt_pop (pv 3)) pe_int (nomark _)) (pe_ix (r := rIx K) ix_seq (pv 10) pe_int (fun _ _ => rfl)) (pe_ix (r := rIx K) ix_seq (pv 10) pe_int (fun _ _ => rfl))))) pss_nil)
    (pss_one (ps_set (i := 7) sc__law_ran.nd rfl (by first | exact Or.inl rfl | exact Or.inr rfl) (pe_bm PySem.F.plainAttrs_list PySem.F.slot_list_index PySem.F.type_list_index mt_index (pe_lc rfl sc__law_ran.nd (pi_listK (K := K) (pv 0)) (blkOk_by (own := [("_law_block", 14)]) (N := ["_law_blocks", "_law_given", "_law_cap", "_law_pile", "_law_told", "_law_left", "_law_steps", "_law_at", "_law_label", "_law_rows_here", "_law_end", "_law_count", "_law_row", "_law_there", "_law_block"]) (sc := L2.defScope s__law_ran) (by decide +kernel)) (fun _ _ _ _ _ => (pg_m (pg_name (i := 14) sc__law_ran.nd rfl (by first | exact Or.inl rfl | exact Or.inr rfl)))) (fun _ _ _ _ _ => pts_nilM) (fun _ _ _ _ _ => (pe_m (pe_ix (r := rIx K) ix_seq (pv 14) pe_int (fun _ _ => rfl))))) (pa_cons (pv 13) pa_nil)))))))))))))), ?_⟩
  obtain ⟨ms, bl, v, bs, h, ns, most, rfl, tk, hbl, G, hv, hn, hw, hm, q⟩ := h
  obtain ⟨ba, xs, rfl, hba, hxs⟩ := dp_list hbl
  walk_at "rd"
  have big : ∀ n : Nat, n ≤ 1000000 → n ≤ sizeLine := fun n h => by rw [sizeLine_eq]; omega
  obtain ⟨va, rfl, hva⟩ := hv
  refine ⟨big _ (by decide), fun pl npl => ⟨big _ (by decide), fun tl ntl => ?_⟩⟩
  have s2 : Same H (upd (upd H pl (.lst [])) tl (.lst [])) := (same_new npl).trans (same_new ntl)
  have ntl0 := (same_new (o := HO.lst []) npl).free ntl
  have e2p : upd (upd H pl (.lst [])) tl (.lst []) pl = some (.lst []) := keep_at upd_same ntl
  have e2t : upd (upd H pl (.lst [])) tl (.lst []) tl = some (.lst []) := upd_same
  have npt : pl ≠ tl := ne_of_none upd_same ntl
  generalize upd (upd H pl (.lst [])) tl (.lst []) = H2 at *
  refine ⟨va, ns.map V.int, rfl, hva.imp (sqL_same s2) (sqT_same s2), fun wl nwl => ⟨big _ (by decide), fun p5 np5 => ?_⟩⟩
  refine a_t5V (.inl (.inl upd_same)) ?_
  have g0 : RG H (upd (upd H2 wl (.lst (ns.map V.int))) p5 (.tup [.ref pl, .ref tl, .ref wl, .int 0, .int 0])) most pl tl wl ⟨[], ns, [], 0⟩ :=
    RG.grow ⟨s2.trans (same_new nwl), npl, ntl0, s2.free nwl, ⟨keep_at e2p nwl, keep_at e2t nwl, upd_same, npt, ne_of_none e2p nwl, ne_of_none e2t nwl⟩, Nat.zero_le _, Nat.zero_le _, (fun n hn => nomatch hn), hw, Nat.zero_le _⟩ (same_new np5)
  generalize upd (upd H2 wl (.lst (ns.map V.int))) p5 (.tup [.ref pl, .ref tl, .ref wl, .int 0, .int 0]) = H3 at *
  clear e2p e2t nwl np5 s2 ntl
  obtain ⟨b0, bs0, ebs⟩ : ∃ b0 tl0, bs = b0 :: tl0 := by
    cases bs with
    | nil => exact absurd G.one (by simp)
    | cons b tl => exact ⟨b, tl, rfl⟩
  have spent : ∀ (H2 : Hp) (s : RSt), RG H H2 most pl tl wl s → outcome bs ns most = .spent s.told → ∀ p, H2 p = none → Q (.ref p) (upd H2 p (.tup [.str (Str.ofString "spent"), .ref tl])) := fun H2 s g e p np =>
    q _ p (g.same.trans (same_new np)) (by
      rw [e]
      exact .tup (.inl (.inl (new_at (tk.same g.same) np))) (.cons (.str _) (.cons (Dp.mono (Same.hide (same_new np) ms) (g.told_at tk)) .nil)))
  walk_at "rd"
  refine while_go (LrInv H bs h ns most (.ref ba) (.ref va) pl tl wl) (most + 1) ⟨0, b0, ⟨[], ns, [], 0⟩, _, _, _, _, _, _, rfl, g0, by rw [ebs]; rfl, by show most < most + 1 + 0; omega, by rw [ebs]; rfl, ?_⟩ ?_
  · show ((0 : Nat) : Int) = _
    rw [G.zero b0 (by rw [ebs]; rfl)]
    rfl
  clear g0
  rintro Pw yes m σ H4 ⟨i, b, s, o8, o9, o10, o11, o12, o13, rfl, g, eO, hlt, hb, hlen⟩
  obtain ⟨f, rfl⟩ : ∃ f, m = f + 1 := ⟨m - 1, by have := g.le; omega⟩
  have hbm := List.mem_of_getElem? hb
  rw [runFrom, blkAt_of G.nodup hbm] at eO
  walk_at "rd"
  refine ⟨_, fun σ' H' q => q, ?_⟩
  obtain ⟨bp, ra, ue, rs, exb, hbp, hrs, hra, hue⟩ := blk_parts hxs hb
  have up : ∀ {H' : Hp}, Same H H' → Same (hide H ms) H' := fun s => same_show.trans s
  refine a_ixV (sqL_same (up g.same) hba) (atI_natc exb) ?_
  refine a_t3V (sqT_same (up g.same) hbp) ?_
  have hlr := DpAll.length hra
  rw [List.length_map] at hlr
  walk_at "rd"
  refine a_for ?_
  walk_at "rd"
  refine ⟨_, sqL_same (up g.same) hrs, ?_⟩
  refine for_go2 (walk_enum (xs := rs)) (fun j σ H5 => ∃ s' o11 o12 o13, σ = [some (.ref ba), some (.ref va), some (.int most), some (.ref pl), some (.ref tl), some (.ref wl), some (.int (s'.steps : Nat)), some (.int (i : Nat)), some (.str b.label), some (.ref ra), some ue, o11, o12, o13, none] ∧ RG H H5 most pl tl wl s' ∧
    behind most b.fin (fun l s => runFrom bs most f l s) (rowsRun most b.label (b.rows.drop j) j s') = outcome bs ns most ∧ most < f + 1 + s'.steps ∧ (s'.pile.length : Int) = after (h b.label) (b.words.take j))
    ⟨s, _, _, _, rfl, g, eO, hlt, by rw [hlen, List.take_zero, after_nil]⟩ (fun j σ H5 _ q => by
      obtain ⟨_, _, _, _, _, q, _⟩ := q
      exact sqL_same (up q.same) hrs) ?_ ?_
  · rintro Pw1 yes1 j y σ H5 H6 hj ⟨s', o11, o12, o13, rfl, g, eO, hlt, hlen⟩ yy
    obtain ⟨p3, y1, y2, rfl, hp3, rfl, ey1, ey2⟩ := yy
    cases ey1
    obtain ⟨d, ed, hdd⟩ := DpAll.at hra ey2
    rw [List.getElem?_map] at ed
    cases er : b.rows[j]? with
    | none => rw [er] at ed; cases ed
    | some r =>
      rw [er] at ed
      cases ed
      have hil : j < b.rows.length := by omega
      have ew : b.words[j]? = some r.word := by
        unfold Blk.words
        rw [List.getElem?_append_left (by rw [List.length_map]; exact hil), List.getElem?_map, er]
        rfl
      have hok := wok_at (G.rows b hbm) ew
      rw [Row.touch_eq, Row.more_eq, ← hlen] at hok
      have nx : after (h b.label) (b.words.take (j + 1)) = s'.pile.length + r.more := by
        rw [List.take_succ, ew, hlen, ← Row.more_eq]
        exact after_snoc
      have hdrop : b.rows.drop j = r :: b.rows.drop (j + 1) := by
        rw [List.drop_eq_getElem_cons hil]
        rw [List.getElem?_eq_getElem hil] at er
        rw [Option.some.inj er]
      rw [hdrop] at eO
      refine a_t2V (.inl (.inl upd_same)) ?_
      have sg := same_new (o := HO.tup [V.int (j : Nat), y2]) hp3
      replace g := g.grow sg
      clear sg
      generalize upd H5 p3 (HO.tup [V.int (j : Nat), y2]) = H6 at *
      walk_at "rd"
      by_cases hs : s'.steps = most
      · rw [if_pos (by rw [hs])]
        walk_at "rd"
        rw [rowsRun_stop hs] at eO
        exact ⟨big _ (by decide), fun p np => spent _ s' g eO.symm p np⟩
      · rw [if_neg fun z => hs (by omega)]
        walk_at "rd"
        rw [rowsRun_step1 hs] at eO
        have htl := g.told
        have hle := g.le
        have hto : r.touch ≤ s'.pile.length := by have := hok.1; omega
        refine ⟨pl, tl, wl, y2, r, s'.told, s'.ws, s'.pile, rfl, g.ps, Dp.mono (hide_own g.same g.own) hdd, hto, g.pw, g.deep, by omega, ?_⟩
        cases es : step1 r s'.told s'.ws s'.pile with
        | none =>
          rw [es] at eO
          intro H7 s7
          refine ⟨false, rfl, ?_⟩
          rw [if_pos (by rfl)]
          refine ⟨big _ (by decide), fun p np => q _ p ((g.same.trans s7).trans (same_new np)) ?_⟩
          have g7 := g.grow s7
          rw [← eO]
          exact .tup (.inl (.inl (new_at (tk.same g7.same) np))) (.cons (.str _) (.cons (Dp.mono (Same.hide (same_new np) ms) (g7.told_at tk)) (.cons (.str _) (.cons (.int _) .nil))))
        | some q3 =>
          obtain ⟨t', w', p'⟩ := q3
          rw [es] at eO
          intro H7 sx7 ps7
          refine ⟨true, rfl, ?_⟩
          rw [if_neg (by decide)]
          obtain ⟨z1, z2, z3, z4⟩ := step1_some es hto g.pw g.ww (G.puts b hbm r (List.mem_of_getElem? er))
          have g7 : RG H H7 most pl tl wl ⟨t', w', p', s'.steps + 1⟩ := g.to sx7 ps7 (by show s'.steps + 1 ≤ most; omega) (by show t'.length ≤ s'.steps + 1; omega) z2 z3 (by show p'.length ≤ 1000; have := hok.2; omega)
          refine yes1 _ _ _ ⟨⟨t', w', p', s'.steps + 1⟩, _, _, _, rfl, g7, eO, by show most < f + 1 + (s'.steps + 1); omega, ?_⟩
          rw [nx]
          exact z1
  · rintro σ H5 ⟨s', o11, o12, o13, rfl, g, eO, hlt, hlen⟩
    rw [hlr] at eO hlen
    rw [List.drop_length] at eO
    rw [rowsRun] at eO
    have eO2 : finRun most b.fin (fun l s => runFrom bs most f l s) s' = outcome bs ns most := eO
    have ew : b.words[b.rows.length]? = some b.fin.word := by
      unfold Blk.words
      rw [List.getElem?_append_right (by rw [List.length_map]; omega), List.length_map, Nat.sub_self]
      rfl
    have hok := wok_at (G.rows b hbm) ew
    rw [Fin.touch_eq, Fin.more_eq, ← hlen] at hok
    have hout : out h b = s'.pile.length + b.fin.more := by
      unfold out
      rw [hlen, ← Fin.more_eq]
      have e : b.words = b.words.take b.rows.length ++ [b.fin.word] := by
        have hl : b.words.length = b.rows.length + 1 := by unfold Blk.words; simp
        have q := List.take_succ (l := b.words) (i := b.rows.length)
        rw [ew, List.take_of_length_le (by omega)] at q
        exact q
      have e2 : after (h b.label) b.words = after (h b.label) (b.words.take b.rows.length ++ [b.fin.word]) := by rw [← e]
      rw [e2]
      exact after_snoc
    walk_at "rd"
    by_cases hs : s'.steps = most
    · rw [if_pos (by rw [hs])]
      walk_at "rd"
      refine ⟨big _ (by decide), fun p np => spent _ s' g ?_ p np⟩
      rw [← eO2]
      unfold finRun
      rw [if_pos hs]
    · rw [if_neg fun z => hs (by omega)]
      walk_at "rd"
      unfold finRun at eO2
      rw [if_neg hs] at eO2
      have hue5 : ∀ {H' : Hp}, Same H H' → Dp K H' ue b.fin.d := fun s => Dp.mono (up s) hue
      refine a_ixT (hue5 g.same) atI_0 fun u hu => ?_
      cases hu
      have ends := G.ends b hbm
      have goto : ∀ (H7 : Hp) (s7 : RSt) (l : Str) (k : Int) (o11 o12 : Option V), RG H H7 most pl tl wl s7 → l ∈ bs.map Blk.label → runFrom bs most f l s7 = outcome bs ns most → most < f + s7.steps → (s7.pile.length : Int) = h l → k = (s7.steps : Nat) →
          tLc (iList K (tVar 0)) (gM (gName 14)) (tMT tYes) (tM (tOp (rIx K) (tVar 14) (tC (V.int 0)))) [14]
            [some (V.ref ba), some (V.ref va), some (V.int most), some (V.ref pl), some (V.ref tl), some (V.ref wl), some (V.int k), some (V.int i), some (V.str b.label), some (V.ref ra), some ue, o11, o12, some (.str l), none]
            H7 fun x_2 H1 => tyV K "list" x_2 H1 ∧ rIndex K x_2 [.str l] H1 fun x_3 H1 => ∃ m', m' < f + 1 ∧ Pw m'
              [some (V.ref ba), some (V.ref va), some (V.int most), some (V.ref pl), some (V.ref tl), some (V.ref wl), some (V.int k), some x_3, some (V.str b.label), some (V.ref ra), some ue, o11, o12, some (.str l), none] H1 := by
        intro H7 s7 l k o11 o12 g7 hl e7 hlt7 hlen7 ek
        subst ek
        refine a_lc ?_
        walk_at "rd"
        refine ⟨⟨xs, sqL_same (up g7.same) hba⟩, fun D nD => ?_⟩
        refine lc_data (K := K) (ds := bs.map Blk.d) (ms := ms) walk_list nD (tk.same g7.same) (by rw [List.length_map, sizeLine_eq]; have := G.six; omega) (DpAll.mono (Same.hide g7.same ms) hxs) (fun H8 s8 => sqL_same (up (g7.same.trans s8)) hba) (fun _ => true) (fun d => match d with
          | .tuple (x :: _) => x
          | _ => .none) (fun y d H8 hd8 s8 hD8 hy => ?_) (fun H8 ys s8 e8 hys => ?_)
        · obtain ⟨c, hc, rfl⟩ := List.mem_map.mp hd8
          walk_at "rd"
          exact ⟨fun z => z.elim, fun _ => a_ixTh hy atI_0 fun u hu => ⟨Same.refl _, hu⟩⟩
        · rw [List.filter_eq_self.mpr fun _ _ => rfl] at hys
          have e2 : ((bs.map Blk.d).map fun d => match d with
            | .tuple (x :: _) => x
            | _ => PyData.none) = (bs.map Blk.label).map PyData.str := by
            rw [List.map_map, List.map_map]
            rfl
          rw [e2] at hys
          have e3 := DpAll.strs_inv hys
          subst e3
          obtain ⟨j, hj, ej⟩ := List.getElem_of_mem hl
          have ej2 : (bs.map Blk.label)[j]? = some l := by rw [List.getElem?_eq_getElem hj, ej]
          obtain ⟨c, ec, ecl⟩ : ∃ c, bs[j]? = some c ∧ c.label = l := by
            rw [List.getElem?_map] at ej2
            cases q : bs[j]? with
            | none => rw [q] at ej2; cases ej2
            | some c => rw [q] at ej2; cases ej2; exact ⟨c, rfl, rfl⟩
          refine ⟨.inl ⟨rfl, _, SqL.of e8⟩, a_index (SqL.of e8) G.nodup ej2 ⟨f, Nat.lt_succ_self f, yes _ _ _ ⟨j, c, s7, _, _, _, _, _, _, rfl, g7.grow s8, by rw [ecl]; exact e7, hlt7, ec, by rw [ecl]; exact hlen7⟩⟩⟩
      cases ef : b.fin with
      | stop =>
        rw [ef] at eO2
        refine ⟨rfl, ?_⟩
        rw [if_pos (show V.str Fin.stop.word = V.str (Str.ofString "stop") from rfl)]
        refine ⟨big _ (by decide), fun p np => q _ p (g.same.trans (same_new np)) ?_⟩
        rw [← eO2]
        exact .tup (.inl (.inl (new_at (tk.same g.same) np))) (.cons (.str _) (.cons (Dp.mono (Same.hide (same_new np) ms) (g.told_at tk)) (.cons (Dp.mono (Same.hide (same_new np) ms) (g.pile_at tk)) (.cons (.int _) .nil))))
      | go l =>
        rw [ef] at eO2 hue5 ends hout hok
        refine ⟨rfl, ?_⟩
        rw [if_neg (show ¬ V.str (Fin.go l).word = V.str (Str.ofString "stop") by simp only [Fin.word]; decide +kernel)]
        refine a_ixT (hue5 g.same) atI_1 fun u hu => ?_
        cases hu
        refine a_ixT (hue5 g.same) atI_0 fun u hu => ?_
        cases hu
        refine ⟨rfl, ?_⟩
        rw [if_neg (show ¬ V.str (Fin.go l).word = V.str (Str.ofString "if") by simp only [Fin.word]; decide +kernel)]
        have hl := ends l (List.mem_singleton.mpr rfl)
        refine goto H5 ⟨s'.told, s'.ws, s'.pile, s'.steps + 1⟩ l _ _ _ (g.to Sx.refl g.ps (by show s'.steps + 1 ≤ most; have := g.le; omega) (by show s'.told.length ≤ s'.steps + 1; have := g.told; omega) g.pw g.ww g.deep) hl.1 eO2 (by show most < f + (s'.steps + 1); omega) ?_ rfl
        show (s'.pile.length : Int) = h l
        rw [hl.2, hout]
        exact (Int.add_zero _).symm
      | iff x y =>
        rw [ef] at eO2 hue5 ends hout hok
        refine ⟨rfl, ?_⟩
        rw [if_neg (show ¬ V.str (Fin.iff x y).word = V.str (Str.ofString "stop") by simp only [Fin.word]; decide +kernel)]
        refine a_ixT (hue5 g.same) atI_1 fun u hu => ?_
        cases hu
        refine a_ixT (hue5 g.same) atI_0 fun u hu => ?_
        cases hu
        refine ⟨rfl, ?_⟩
        rw [if_pos (show V.str (Fin.iff x y).word = V.str (Str.ofString "if") from rfl)]
        have h1 : 1 ≤ s'.pile.length := by have := hok.1; simp only [Fin.touch] at this; omega
        refine ⟨.inl ⟨rfl, _, SqL.of g.ps.p⟩, pl, _, _, rfl, rfl, g.ps.p, last_top h1, ?_⟩
        rw [popped_drop]
        have g1 : RG H (upd H5 pl (.lst ((popped s'.pile).map V.int))) most pl tl wl ⟨s'.told, s'.ws, popped s'.pile, s'.steps + 1⟩ := g.to sxP (g.ps.putP _) (by show s'.steps + 1 ≤ most; have := g.le; omega) (by show s'.told.length ≤ s'.steps + 1; have := g.told; omega) (popped_worths g.pw) g.ww (by show (popped s'.pile).length ≤ 1000; have := popped_len h1; have := g.deep; omega)
        generalize upd H5 pl (.lst ((popped s'.pile).map V.int)) = H6 at *
        have hlx := ends x (List.mem_cons_self ..)
        have hly := ends y (List.mem_cons_of_mem _ (List.mem_singleton.mpr rfl))
        have hpl : ((popped s'.pile).length : Int) = out h b := by
          rw [hout]
          exact popped_len h1
        refine ⟨rfl, ?_⟩
        replace eO2 : runFrom bs most f (if topN s'.pile 0 ≠ 0 then x else y) ⟨s'.told, s'.ws, popped s'.pile, s'.steps + 1⟩ = outcome bs ns most := eO2
        by_cases hz : topN s'.pile 0 = 0
        · rw [if_neg (by rw [hz]; decide)]
          rw [if_neg fun z => z hz] at eO2
          refine a_ixT (hue5 g1.same) atI_2 fun u hu => ?_
          cases hu
          exact goto H6 _ y _ _ _ g1 hly.1 eO2 (by show most < f + (s'.steps + 1); omega) (by rw [hly.2]; exact hpl) rfl
        · rw [if_pos (by rw [decide_eq_false fun z => hz (V.int.inj z)]; rfl)]
          rw [if_pos hz] at eO2
          refine a_ixT (hue5 g1.same) atI_1 fun u hu => ?_
          cases hu
          exact goto H6 _ x _ _ _ g1 hlx.1 eO2 (by show most < f + (s'.steps + 1); omega) (by rw [hlx.2]; exact hpl) rfl
end
end Pb

/-! L7 -/
set_option Elab.async false
set_option linter.all false
set_option maxRecDepth 100000
set_option maxHeartbeats 4000000
namespace Pb
open PySem PySem.Spec PyProof.Rows L2
open C8 (Cal Mak Met pe_c pe_mk pe_mt pe_mt0 pe_gc fnScope_by)
/-! short words -/
local macro_rules | `(tactic| walk_at "rd") => `(tactic| try simp only [tVar, tC, tAdd, tSub, t2I, tIsN, tNotN, tB, tAnd, tOr, tNot, tAndV, tOrV, tNotV, tIf, tSeq, tPar, tPar3, tNext, tBreak, tCont, tDrop, tRet, tRetN, tIfS, gName, gNil, gCons, gTup, gSub, tAsg, tAug, ipI, iList, iTup, iRng1, iRng2, iStr, iEnum, iZip,
  tOp, tUn, rI, rI0, rU, tTest, tChain, tFld, sFld, sFldAug, L2.rAdd, L2.rSub, tNil, tCons, tTup, tLst, tCall, tMeth, tMake, tCB, tNoPart, tPart, tSl, tBM0, tBM, tDGet, tDGet1, tDGet2, tDIn, tDNotIn, sDPut, tDNewK, rEq, rNe, scal_ii, scal_ss, scal_bb, scal_nn, scal_ni, scal_in, scal_ns, scal_sn, scal_is, scal_si, List.take_succ_cons, List.take_zero, List.drop_succ_cons, List.drop_zero, upd_same, upd_upd, and_assoc, tKGet, gStar, tDisp, tPairs, tYes,
  L2.start, List.map_cons, List.map_nil, List.length_cons, List.length_nil, List.cons_append, List.nil_append, List.append_nil, List.replicate, Nat.sub_self, Nat.add_sub_cancel, Nat.reduceAdd, Nat.reduceSub, List.set_cons_zero, List.set_cons_succ, List.getElem?_cons_zero, List.getElem?_cons_succ,
  Option.some.injEq, V.int.injEq, V.bl.injEq, V.str.injEq, V.ref.injEq, exists_eq_left', exists_eq_left, exists_eq', exists_eq, true_and, and_true, if_true, if_false, Bool.false_eq_true, List.cons.injEq, Bool.not_true, Bool.not_false, cxK, cxP, cxW, ite_true, ite_false, wipe, reduceCtorEq, and_self, decide_true, decide_false, exists_and_left, exists_const, decide_eq_true_eq])
local macro_rules | `(tactic| walk_at "len") => `(tactic| (intro vs H Q E h; repeat (first | (obtain ⟨e, _⟩ := h; subst e; rfl) | (obtain ⟨_, h⟩ := h))))
local macro_rules | `(tactic| walk_at "wd") => `(tactic| simp (config := {decide := true}) only [V.str.injEq, scal_ss, true_and, if_true, if_false])

def sp__law_words (K : PySem.W.Frag) : Sp := fun vs H Q _ => ∃ q H0 o, vs = [.ref q] ∧ IsAns K H0 H q o ∧ ∀ H' a, Same H H' → Dp K H' (.ref a) (outD o) → Q (.ref a) H'
/-- the law's own heights so far -/
structure HtI (H0 H : Hp) (d : Addr) (bs : List Blk) (h : Str → Int) (N : Nat) : Prop where
  same : Same H0 H
  nd : H0 d = none
  tab : ∃ ls : List Str, H d = some (.dK (highs ls h)) ∧ ls.Nodup ∧ (∀ l ∈ ls, l ∈ bs.map Blk.label) ∧ ∀ m, m < N → ∀ b, bs[m]? = some b → b.label ∈ ls
theorem highs_mem {h : Str → Int} : ∀ {ls : List Str} {l : Str}, l ∈ ls ↔ valV (highs ls h) (Sum.inr l) ≠ none
  | ls, l => by
    constructor
    · intro hl
      rw [highs_at hl]
      exact fun z => nomatch z
    · intro hn
      exact Decidable.byContradiction fun hl => hn (highs_off hl)
theorem highs_same {h : Str → Int} : ∀ {ls : List Str} {l : Str}, l ∈ ls → putK (highs ls h) (Sum.inr l) (.int (h l)) = highs ls h := by
  intro ls l hl
  have e : ((highs ls h).any fun kv => decide (kv.1 = (Sum.inr l : Key))) = true := by
    rw [valV_any, highs_at hl]
    rfl
  unfold putK
  rw [if_pos e]
  unfold highs
  rw [List.map_map]
  refine List.map_congr_left fun x _ => ?_
  show (if (Sum.inr x : Key) = Sum.inr l then ((Sum.inr x : Key), V.int (h l)) else (Sum.inr x, V.int (h x))) = _
  by_cases q : x = l
  · subst q
    rw [if_pos rfl]
  · rw [if_neg fun z => q (Sum.inr.inj z)]
theorem highs_inj {h : Str → Int} {ls ms : List Str} (e : highs ls h = highs ms h) : ls = ms := by
  have q : ∀ xs : List Str, (highs xs h).map (fun kv => match kv.1 with
    | .inr x => x
    | .inl _ => "") = xs := fun xs => by
    unfold highs
    rw [List.map_map]
    conv => rhs; rw [← List.map_id xs]
    rfl
  rw [← q ls, ← q ms, e]
section
variable {H0 H H' : Hp} {d : Addr} {bs : List Blk} {h : Str → Int} {N : Nat} {ls : List Str}
theorem HtI.grow (st : HtI H0 H d bs h N) (s : Same H H') : HtI H0 H' d bs h N := ⟨st.same.trans s, st.nd, by
  obtain ⟨ls, e, q⟩ := st.tab
  exact ⟨ls, s _ _ e, q⟩⟩
theorem HtI.of (st : HtI H0 H d bs h N) (ed : H d = some (.dK (highs ls h))) : ls.Nodup ∧ (∀ l ∈ ls, l ∈ bs.map Blk.label) ∧ ∀ m, m < N → ∀ b, bs[m]? = some b → b.label ∈ ls := by
  obtain ⟨ms, e, q⟩ := st.tab
  rw [ed] at e
  have e2 := highs_inj (HO.dK.inj (Option.some.inj e))
  rw [e2]
  exact q
theorem HtI.has (st : HtI H0 H d bs h N) (ed : H d = some (.dK (highs ls h))) : ∀ m, m < N → ∀ b, bs[m]? = some b → b.label ∈ ls := (st.of ed).2.2
theorem HtI.few (st : HtI H0 H d bs h N) (ed : H d = some (.dK (highs ls h))) : (highs ls h).length ≤ bs.length := by
  have q := nodup_sub_length (st.of ed).1 (st.of ed).2.1
  rw [List.length_map] at q
  unfold highs
  rw [List.length_map]
  exact q
theorem HtI.more (st : HtI H0 H d bs h N) (ed : H d = some (.dK (highs ls h))) {M : Nat} (q : ∀ m, m < M → ∀ b, bs[m]? = some b → b.label ∈ ls) : HtI H0 H d bs h M := ⟨st.same, st.nd, ls, ed, (st.of ed).1, (st.of ed).2.1, q⟩
theorem HtI.put (st : HtI H0 H d bs h N) {l : Str} (hl : l ∈ bs.map Blk.label) (ed : H d = some (.dK (highs ls h))) : HtI H0 (upd H d (.dK (putK (highs ls h) (Sum.inr l) (.int (h l))))) d bs h N ∧ ∃ ls', upd H d (.dK (putK (highs ls h) (Sum.inr l) (.int (h l)))) d = some (.dK (highs ls' h)) ∧ (∀ x ∈ ls, x ∈ ls') ∧ l ∈ ls' := by
  obtain ⟨q1, q2, q3⟩ := st.of ed
  by_cases hm : l ∈ ls
  · rw [highs_same hm]
    exact ⟨⟨same_own st.same (ms := [d]) (Sx.upd (List.mem_singleton.mpr rfl)) fun m hm => by rw [List.mem_singleton.mp hm]; exact st.nd, st.nd, ls, upd_same, q1, q2, q3⟩, ls, upd_same, fun x hx => hx, hm⟩
  · rw [highs_put hm]
    have nd2 : (ls ++ [l]).Nodup := List.nodup_append.mpr ⟨q1, by simp, fun a ha b hb => by rw [List.mem_singleton.mp hb]; exact fun z => hm (z ▸ ha)⟩
    exact ⟨⟨same_own st.same (ms := [d]) (Sx.upd (List.mem_singleton.mpr rfl)) fun m hm => by rw [List.mem_singleton.mp hm]; exact st.nd, st.nd, ls ++ [l], upd_same, nd2, fun x hx => (List.mem_append.mp hx).elim (q2 x) fun z => by rw [List.mem_singleton.mp z]; exact hl, fun m hm b eb => List.mem_append_left _ (q3 m hm b eb)⟩,
      ls ++ [l], upd_same, fun x hx => List.mem_append_left _ hx, List.mem_append_right _ (List.mem_singleton.mpr rfl)⟩
end
def sp__law_heights (K : PySem.W.Frag) : Sp := fun vs H Q _ => ∃ ms bl bs h, vs = [bl] ∧ Tk H ms ∧ Dp K (hide H ms) bl (blocksD bs) ∧ Good bs h ∧ Chain bs ∧
  ∀ H' d kvs, Same H H' → H d = none → H' d = some (.dK kvs) → (∀ l ∈ bs.map Blk.label, valV kvs (Sum.inr l) = some (.int (h l))) → Q (.ref d) H'
section
variable {P : Program} {w : World} {K : PySem.W.Frag} {mg : Str → Option Value} {base : Heap}
theorem ok_words (T : Tx w K mg) : Cal P w K mg base 3 "_law_words" (sp__law_words K) [] := by
  refine cal_of T.D__law_words T.g__law_words sc__law_words (fun _ _ _ _ _ _ us hl => match us, hl with | [_], _ => rfl) (by walk_at "len") fun cdv A outer s H vs Q E hr h => ?_
  refine ⟨_, (pss_cons (ps_if (pt_val (pe_callB (r := rIsi K) call_isi (by rfl) T.b_isinstance (by decide +kernel) (pa_cons (pv 0) (pa_cons (pe_gc (v := .ref (He.ga K "Ran")) (by rfl) ⟨_, T.g_Ran, rfl⟩) pa_nil)))) (pss_one (ps_ret (pe_tup (pa_cons pe_str (pa_cons (pe_fldK (K := K) (pv 0) rfl) (pa_cons (pe_fldK (K := K) (pv 0) rfl) (pa_cons (pe_fldK (K := K) (pv 0) rfl) pa_nil))))))) pss_nil)
    (pss_cons (ps_if (pt_val (pe_callB (r := rIsi K) call_isi (by rfl) T.b_isinstance (by decide +kernel) (pa_cons (pv 0) (pa_cons (pe_gc (v := .ref (He.ga K "Dry")) (by rfl) ⟨_, T.g_Dry, rfl⟩) pa_nil)))) (pss_one (ps_ret (pe_tup (pa_cons pe_str (pa_cons (pe_fldK (K := K) (pv 0) rfl) (pa_cons (pe_fldK (K := K) (pv 0) rfl) (pa_cons (pe_fldK (K := K) (pv 0) rfl) pa_nil))))))) pss_nil)
    (pss_one (ps_ret (pe_ifExp (pt_val (pe_callB (r := rIsi K) call_isi (by rfl) T.b_isinstance (by decide +kernel) (pa_cons (pv 0) (pa_cons (pe_gc (v := .ref (He.ga K "Spent")) (by rfl) ⟨_, T.g_Spent, rfl⟩) pa_nil)))) (pe_tup (pa_cons pe_str (pa_cons (pe_fldK (K := K) (pv 0) rfl) pa_nil))) (pe_tup (pa_cons pe_str pa_nil))))))), ?_⟩
  obtain ⟨q, H0, o, rfl, a, k⟩ := h
  walk_at "rd"
  have big : ∀ n : Nat, n ≤ 1000000 → n ≤ sizeLine := fun n h => by rw [sizeLine_eq]; omega
  cases o with
  | ran told pile n =>
    obtain ⟨dx, tl, pl, e1, _, _, _, e2, e3⟩ := a
    refine a_isO e1 T.c_Ran T.i_Ran T.q_Ran_Ran ⟨_, rfl, ?_⟩
    rw [if_pos rfl]
    refine ⟨_, _, _, e1, T.c_Ran, T.n_Ran_told, _, rfl, _, _, _, e1, T.c_Ran, T.n_Ran_pile, _, rfl, _, _, _, e1, T.c_Ran, T.n_Ran_steps, _, rfl, big _ (by decide), fun p np => k _ p (same_new np) ?_⟩
    have s := same_new (o := HO.tup [V.str (Str.ofString "ran"), .ref tl, .ref pl, .int n]) np
    exact .tup (.inl (.inl upd_same)) (.cons (.str _) (.cons (.lst (SqL.of (s _ _ e2)) (DpAll.ints _)) (.cons (.lst (SqL.of (s _ _ e3)) (DpAll.ints _)) (.cons (.int _) .nil))))
  | dry told l i =>
    obtain ⟨dx, tl, e1, _, e2⟩ := a
    refine a_isO e1 T.c_Dry T.i_Dry T.q_Dry_Ran ⟨_, rfl, ?_⟩
    rw [if_neg (by decide)]
    refine a_isO e1 T.c_Dry T.i_Dry T.q_Dry_Dry ⟨_, rfl, ?_⟩
    rw [if_pos rfl]
    refine ⟨_, _, _, e1, T.c_Dry, T.n_Dry_told, _, rfl, _, _, _, e1, T.c_Dry, T.n_Dry_label, _, rfl, _, _, _, e1, T.c_Dry, T.n_Dry_row, _, rfl, big _ (by decide), fun p np => k _ p (same_new np) ?_⟩
    have s := same_new (o := HO.tup [V.str (Str.ofString "dry"), .ref tl, .str l, .int i]) np
    exact .tup (.inl (.inl upd_same)) (.cons (.str _) (.cons (.lst (SqL.of (s _ _ e2)) (DpAll.ints _)) (.cons (.str _) (.cons (.int _) .nil))))
  | spent told =>
    obtain ⟨dx, tl, e1, _, e2⟩ := a
    refine a_isO e1 T.c_Spent T.i_Spent T.q_Spent_Ran ⟨_, rfl, ?_⟩
    rw [if_neg (by decide)]
    refine a_isO e1 T.c_Spent T.i_Spent T.q_Spent_Dry ⟨_, rfl, ?_⟩
    rw [if_neg (by decide)]
    refine a_isO e1 T.c_Spent T.i_Spent T.q_Spent_Spent ⟨_, rfl, ?_⟩
    rw [if_pos rfl]
    refine ⟨_, _, _, e1, T.c_Spent, T.n_Spent_told, _, rfl, big _ (by decide), fun p np => k _ p (same_new np) ?_⟩
    have s := same_new (o := HO.tup [V.str (Str.ofString "spent"), .ref tl]) np
    exact .tup (.inl (.inl upd_same)) (.cons (.str _) (.cons (.lst (SqL.of (s _ _ e2)) (DpAll.ints _)) .nil))
theorem ok_heights (T : Tx w K mg) (F__law_needs : Cal P w K mg base 1 "_law_needs" (sp__law_needs K) []) : Cal P w K mg base 2 "_law_heights" (sp__law_heights K) [] := by
  refine cal_of T.D__law_heights T.g__law_heights sc__law_heights (fun _ _ _ _ _ _ us hl => match us, hl with | [_], _ => rfl) (by walk_at "len") fun cdv A outer s H vs Q E hr h => ?_
  refine ⟨_, (pss_cons (ps_set (i := 1) sc__law_heights.nd rfl (by first | exact Or.inl rfl | exact Or.inr rfl) (pe_disp (pps_cons (pe_ix (r := rIx K) ix_seq (pe_ix (r := rIx K) ix_seq (pv 0) pe_int (fun _ _ => rfl)) pe_int (fun _ _ => rfl)) pe_int pps_nil) (by rfl) (by rfl) (fun z => by cases z) (by decide)))
    (pss_cons (ps_for PassesOwn.never rfl (pi_listK (K := K) (pv 0)) (pg_name (i := 2) sc__law_heights.nd rfl (by first | exact Or.inl rfl | exact Or.inr rfl)) (pss_one (ps_for PassesOwn.never rfl (pi_listK (K := K) (pv 0)) (pg_tupK (K := K) (n := 3) rfl (pgs_cons (pg_name (i := 3) sc__law_heights.nd rfl (by first | exact Or.inl rfl | exact Or.inr rfl)) (pgs_cons (pg_name (i := 4) sc__law_heights.nd rfl (by first | exact Or.inl rfl | exact Or.inr rfl)) (pgs_cons (pg_name (i := 5) sc__law_heights.nd rfl (by first | exact Or.inl rfl | exact Or.inr rfl)) pgs_nil)))) (pss_one (ps_if (pt_cmp (pc_din (hu_of hr) (pv 3) (pv 1)) rfl) (pss_cons (ps_set (i := 6) sc__law_heights.nd rfl (by first | exact Or.inl rfl | exact Or.inr rfl) (pe_op op_sub (pe_op op_add (pe_dget (hu_of hr) (pv 1) (pv 3) (fun _ _ => rfl)) (pe_callB (r := rSum K) (cr_sum rfl) (by rfl) T.b_sum (by decide +kernel) (pa_cons (pe_lc rfl sc__law_heights.nd (pi_listK (K := K) (pv 4)) (blkOk_by (own := [("_law_row", 7)]) (N := ["_law_blocks", "_law_found", "_law_turn", "_law_label", "_law_rows_here", "_law_end", "_law_high", "_law_row", "_law_there"]) (sc := L2.defScope s__law_heights) (by decide +kernel)) (fun _ _ _ _ _ => (pg_m (pg_name (i := 7) sc__law_heights.nd rfl (by first | exact Or.inl rfl | exact Or.inr rfl)))) (fun _ _ _ _ _ => pts_nilM) (fun _ _ _ _ _ => (pe_m (pe_ix (r := rIx K) ix_seq (pe_c F__law_needs hr (by decide) (by rfl) (pa_cons (pe_ix (r := rIx K) ix_seq (pv 7) pe_int (fun _ _ => rfl)) pa_nil)) pe_int (fun _ _ => rfl))))) pa_nil))) (pe_callTy call_int1 (by rfl) T.b_int (by decide +kernel) (pa_cons (pe_cmpR op_eq (pe_ix (r := rIx K) ix_seq (pv 5) pe_int (fun _ _ => rfl)) pe_str (nomark _)) pa_nil))))
    (pss_one (ps_for PassesOwn.never rfl (pi_tupK (K := K) (pe_slice (r := rSlT K) sl_tup (pv 5) (po_some pe_int) po_none)) (pg_name (i := 8) sc__law_heights.nd rfl (by first | exact Or.inl rfl | exact Or.inr rfl)) (pss_one (ps_dput (hu_of hr) (pv 1) (pv 8) (pv 6) rfl))))) pss_nil)))))
    (pss_one (ps_ret (pv 1))))), ?_⟩
  obtain ⟨ms, bl, bs, h, rfl, tk, hbl, G, C, q⟩ := h
  obtain ⟨ba, xs, rfl, hba, hxs⟩ := dp_list hbl
  walk_at "rd"
  have big : ∀ n : Nat, n ≤ 1000000 → n ≤ sizeLine := fun n h => by rw [sizeLine_eq]; omega
  have up : ∀ {H' : Hp}, Same H H' → Same (hide H ms) H' := fun s => same_show.trans s
  obtain ⟨b0, bs0, ebs⟩ : ∃ b0 tl0, bs = b0 :: tl0 := by
    cases bs with
    | nil => exact absurd G.one (by simp)
    | cons b tl => exact ⟨b, tl, rfl⟩
  have eb0 : bs[0]? = some b0 := by rw [ebs]; rfl
  intro d nd
  have s1 := same_new (o := HO.dK []) nd
  obtain ⟨bp0, ra0, ue0, rs0, exb0, hbp0, _⟩ := blk_parts hxs eb0
  refine a_ixV (sqL_same (up s1) hba) (atI_natc exb0) (a_ixTV (sqT_same (up s1) hbp0) atI_0 ⟨upd_same, [(Sum.inr b0.label, .int 0)], rfl, by show 1 ≤ 15; decide, ?_⟩)
  have e0 : mergeK [] [(Sum.inr b0.label, V.int 0)] = highs [b0.label] h := by
    show [(Sum.inr b0.label, V.int 0)] = [(Sum.inr b0.label, V.int (h b0.label))]
    rw [G.zero b0 (by rw [ebs]; rfl)]
  rw [e0]
  have hxl : xs.length = bs.length := by rw [DpAll.length hxs, List.length_map]
  have st1 : HtI H (upd (upd H d (.dK [])) d (.dK (highs [b0.label] h))) d bs h 1 := ⟨fun b o e => by rw [upd_ne (ne_of_none e nd)]; exact s1 _ _ e, nd, [b0.label], upd_same, by simp, fun l hl => by rw [List.mem_singleton.mp hl, ebs]; exact List.mem_cons_self .., fun m hm b eb => by
    have : m = 0 := by omega
    subst this
    rw [eb0] at eb
    cases eb
    exact List.mem_singleton.mpr rfl⟩
  generalize upd (upd H d (.dK [])) d (.dK (highs [b0.label] h)) = H1 at *
  refine a_for ?_
  walk_at "rd"
  refine ⟨⟨xs, sqL_same (up st1.same) hba⟩, ?_⟩
  refine for_go2 walk_list (fun i σ H2 => ∃ o2 o3 o4 o5 o6 o8 N, σ = [some (.ref ba), some (.ref d), o2, o3, o4, o5, o6, none, o8] ∧ HtI H H2 d bs h N ∧ 1 ≤ N ∧ (1 ≤ i → bs.length ≤ N)) ⟨_, _, _, _, _, _, 1, rfl, st1, Nat.le_refl _, fun z => absurd z (by decide)⟩ (fun i σ H2 _ q => by
    obtain ⟨_, _, _, _, _, _, _, _, q, _⟩ := q
    exact sqL_same (up q.same) hba) ?_ ?_
  · rintro Pw yes i y σ H2 H3 hi ⟨o2, o3, o4, o5, o6, o8, N, rfl, st, hN, hNi⟩ ⟨e0, ey⟩
    subst e0
    walk_at "rd"
    refine a_for ?_
    walk_at "rd"
    refine ⟨⟨xs, sqL_same (up st.same) hba⟩, ?_⟩
    refine for_go2 walk_list (fun j σ H2 => ∃ o3 o4 o5 o6 o8 N, σ = [some (.ref ba), some (.ref d), some y, o3, o4, o5, o6, none, o8] ∧ HtI H H2 d bs h N ∧ j + 1 ≤ N) ⟨_, _, _, _, _, N, rfl, st, hN⟩ (fun i σ H2 _ q => by
      obtain ⟨_, _, _, _, _, _, _, q, _⟩ := q
      exact sqL_same (up q.same) hba) ?_ ?_
    · rintro Pw1 yes1 j y1 σ H4 H5 hj ⟨o3, o4, o5, o6, o8, N, rfl, st, hN⟩ ⟨e0, ey⟩
      subst e0
      obtain ⟨b, eb⟩ : ∃ b, bs[j]? = some b := ⟨_, List.getElem?_eq_getElem (by omega)⟩
      obtain ⟨bp, ra, ue, rs, exb, hbp, hrs, hra, hue⟩ := blk_parts hxs eb
      rw [exb] at ey
      cases ey
      have hbm := List.mem_of_getElem? eb
      refine a_t3V (sqT_same (up st.same) hbp) ?_
      walk_at "rd"
      obtain ⟨ls, ed, nls, sls, has⟩ := st.tab
      have hbl : b.label ∈ ls := has j (by omega) b eb
      have dg := DGet.k (k := Sum.inr b.label) ed
      rw [highs_at hbl] at dg
      refine ⟨_, dg, iteT ⟨_, dg, a_lc ?_⟩⟩
      walk_at "rd"
      refine ⟨⟨rs, sqL_same (up st.same) hrs⟩, fun D nD => ?_⟩
      have hmn := G.many b hbm
      refine lc_data (K := K) (ds := b.rows.map Row.d) (ms := ms) walk_list nD (tk.same st.same) (by rw [List.length_map, sizeLine_eq]; omega) (DpAll.mono (Same.hide st.same ms) hra) (fun H8 s8 => sqL_same (up (st.same.trans s8)) hrs) (fun _ => true) (fun d => match d with
          | .tuple (.str w :: _) => .int (changeN w)
          | _ => .none) (fun y d H8 hd8 s8 hD8 hy => ?_) (fun H8 ys s8 e8 hys => ?_)
      · obtain ⟨r, hr, rfl⟩ := List.mem_map.mp hd8
        walk_at "rd"
        refine ⟨fun z => z.elim, fun _ => a_ixTh hy atI_0 fun u hu => ?_⟩
        cases hu
        refine ⟨r, rfl, fun H9 a s9 hs => a_ixTV hs atI_1 ⟨s9, ?_⟩⟩
        show Dp K _ _ (.int (changeN r.word))
        rw [Row.more_eq]
        exact .int _
      · rw [List.filter_eq_self.mpr fun _ _ => rfl] at hys
        have e2 : ((b.rows.map Row.d).map fun d => match d with
          | .tuple (.str w :: _) => .int (changeN w)
          | _ => PyData.none) = (b.rows.map fun r => changeN r.word).map PyData.int := by
          rw [List.map_map, List.map_map]
          rfl
        rw [e2] at hys
        refine a_sum (.lst (SqL.of e8) (DpAll.mono same_show hys)) ?_
        replace st := st.grow s8 
        replace ed := s8 _ _ ed
        refine ⟨_, rfl, a_ixT (Dp.mono (up st.same) hue) atI_0 fun u hu => ?_⟩
        cases hu
        refine ⟨rfl, .inr ?_⟩
        have ehi : h b.label + (b.rows.map fun r => changeN r.word).sum - (if V.str b.fin.word = V.str (Str.ofString "if") then 1 else 0) = out h b := by
          unfold out after Blk.words
          rw [List.map_append, List.sum_append, List.map_map]
          have e3 : (List.map changeN [b.fin.word]).sum = - (if V.str b.fin.word = V.str (Str.ofString "if") then 1 else 0) := by
            cases b.fin <;> first
              | rfl
              | (simp only [Fin.word]; decide +kernel)
          rw [e3]
          show h b.label + (b.rows.map fun r => changeN r.word).sum - _ = h b.label + ((b.rows.map fun r => changeN r.word).sum + - _)
          omega
        rw [ehi]
        walk_at "rd"
        obtain ⟨ea, es, rfl, hes, hea⟩ := dp_tuple (Dp.mono (up st.same) hue)
        cases hea with
        | cons hwd hel =>
          cases hwd
          cases DpAll.strs_inv hel
          refine a_for ?_
          walk_at "rd"
          refine ⟨ea, _, rfl, hes, cut1_not, fun p4 np4 => ?_⟩
          rw [cut1]
          walk_at "rd"
          refine ⟨⟨_, SqT.of upd_same⟩, ?_⟩
          have s9 := same_new (o := HO.tup (b.fin.labels.map V.str)) np4
          have e9 : upd H8 p4 (HO.tup (b.fin.labels.map V.str)) p4 = some (.tup (b.fin.labels.map V.str)) := upd_same
          replace st := st.grow s9
          replace ed := s9 _ _ ed
          have ndp : d ≠ p4 := ne_of ed e9 (by intro z; cases z)
          generalize upd H8 p4 (HO.tup (b.fin.labels.map V.str)) = H9 at *
          refine for_go2 (walk_tup (xs := b.fin.labels.map V.str)) (fun m σ H10 => ∃ o8, σ = [some (.ref ba), some (.ref d), some y, some (.str b.label), some (.ref ra), some (.ref ea), some (.int (out h b)), none, o8] ∧ HtI H H10 d bs h N ∧ H10 p4 = some (.tup (b.fin.labels.map V.str)) ∧
            ∃ ls, H10 d = some (.dK (highs ls h)) ∧ ∀ l ∈ b.fin.labels.take m, l ∈ ls) ⟨_, rfl, st, e9, ls, ed, by simp⟩ (fun i σ H9 _ q => by
              obtain ⟨_, _, _, q, _⟩ := q
              exact SqT.of q) ?_ ?_
          · rintro Pw2 yes2 m y2 σ H10 H11 hm ⟨o8, rfl, st, e10, ls, ed, hin⟩ ⟨e0, ey⟩
            subst e0
            rw [List.getElem?_map] at ey
            cases ethere : b.fin.labels[m]? with
            | none => rw [ethere] at ey; cases ey
            | some there =>
              rw [ethere] at ey
              cases ey
              have hth := G.ends b hbm there (List.mem_of_getElem? ethere)
              walk_at "rd"
              obtain ⟨st2, ls2, ed2, hin2⟩ := st.put (l := there) hth.1 ed
              rw [hth.2] at st2 ed2
              refine ⟨_, DPut.k (k := Sum.inr there) ed ?_, yes2 _ _ _ ⟨_, rfl, st2, (upd_ne ndp.symm).trans e10, ls2, ed2, fun l hl => ?_⟩⟩
              · have := st.few ed
                have := G.six
                rw [sizeLine_eq]
                omega
              · rw [List.take_succ, ethere] at hl
                rcases List.mem_append.mp hl with hl | hl
                · exact hin2.1 l (hin l hl)
                · rw [List.mem_singleton.mp hl]
                  exact hin2.2
          · rintro σ H10 ⟨o8, rfl, st, e10, ls, ed, hin⟩
            rw [List.length_map, List.take_length] at hin
            refine yes1 _ _ _ ⟨_, _, _, _, _, max N (j + 2), rfl, st.more ed fun m hm b2 eb2 => ?_, Nat.le_max_right _ _⟩
            have hmj : m = j + 1 ∨ m < N ∨ m < j + 1 := by omega
            rcases hmj with rfl | hmj | hmj
            · exact hin _ (C j b b2 eb eb2)
            · exact st.has ed m hmj b2 eb2
            · exact st.has ed m (by omega) b2 eb2
    · rintro σ H4 ⟨o3, o4, o5, o6, o8, N, rfl, st, hN⟩
      exact yes _ _ _ ⟨_, _, _, _, _, _, N, rfl, st, by omega, fun _ => by omega⟩
  · rintro σ H2 ⟨o2, o3, o4, o5, o6, o8, N, rfl, st, hN, hNi⟩
    walk_at "rd"
    obtain ⟨ls, ed, nls, sls, has⟩ := st.tab
    refine q H2 d _ st.same st.nd ed fun l hl => highs_at ?_
    obtain ⟨b, hb, rfl⟩ := List.mem_map.mp hl
    obtain ⟨j, hj, ej⟩ := List.getElem_of_mem hb
    exact has j (by have := hNi (by have := G.one; omega); omega) b (by rw [List.getElem?_eq_getElem hj, ej])
end
end Pb

/-! L8a -/
set_option Elab.async false
set_option linter.all false
set_option maxRecDepth 100000
set_option maxHeartbeats 4000000
namespace Pb
open PySem PySem.Spec PyProof.Rows L2
open C8 (Cal Mak Met pe_c pe_mk pe_mt pe_mt0 pe_gc fnScope_by)
/-! short words -/
local macro_rules | `(tactic| walk_at "rd") => `(tactic| try simp only [tVar, tC, tAdd, tSub, t2I, tIsN, tNotN, tB, tAnd, tOr, tNot, tAndV, tOrV, tNotV, tIf, tSeq, tPar, tPar3, tNext, tBreak, tCont, tDrop, tRet, tRetN, tIfS, gName, gNil, gCons, gTup, gSub, tAsg, tAug, ipI, iList, iTup, iRng1, iRng2, iStr, iEnum, iZip,
  tOp, tUn, rI, rI0, rU, tTest, tChain, tFld, sFld, sFldAug, L2.rAdd, L2.rSub, tNil, tCons, tTup, tLst, tCall, tMeth, tMake, tCB, tNoPart, tPart, tSl, tBM0, tBM, tDGet, tDGet1, tDGet2, tDIn, tDNotIn, sDPut, tDNewK, rEq, rNe, scal_ii, scal_ss, scal_bb, scal_nn, scal_ni, scal_in, scal_ns, scal_sn, scal_is, scal_si, List.take_succ_cons, List.take_zero, List.drop_succ_cons, List.drop_zero, upd_same, upd_upd, and_assoc, tKGet, gStar, tDisp, tPairs, tYes,
  L2.start, List.map_cons, List.map_nil, List.length_cons, List.length_nil, List.cons_append, List.nil_append, List.append_nil, List.replicate, Nat.sub_self, Nat.add_sub_cancel, Nat.reduceAdd, Nat.reduceSub, List.set_cons_zero, List.set_cons_succ, List.getElem?_cons_zero, List.getElem?_cons_succ,
  Option.some.injEq, V.int.injEq, V.bl.injEq, V.str.injEq, V.ref.injEq, exists_eq_left', exists_eq_left, exists_eq', exists_eq, true_and, and_true, if_true, if_false, Bool.false_eq_true, List.cons.injEq, Bool.not_true, Bool.not_false, cxK, cxP, cxW, ite_true, ite_false, wipe, reduceCtorEq, and_self, decide_true, decide_false, exists_and_left, exists_const, decide_eq_true_eq])
local macro_rules | `(tactic| walk_at "len") => `(tactic| (intro vs H Q E h; repeat (first | (obtain ⟨e, _⟩ := h; subst e; rfl) | (obtain ⟨_, h⟩ := h))))
local macro_rules | `(tactic| walk_at "wd") => `(tactic| simp (config := {decide := true}) only [V.str.injEq, scal_ss, true_and, if_true, if_false])

/-! what a run's outcome is made of -/
structure StOk (most : Nat) (s : RSt) : Prop where
  le : s.steps ≤ most
  told : s.told.length ≤ s.steps
  tw : Worths s.told
  pw : Worths s.pile
  ww : Worths s.ws
  deep : s.pile.length ≤ 1000
def OutOk (bs : List Blk) (most : Nat) : Outcome → Prop
  | .ran t p n => t.length ≤ most ∧ Worths t ∧ Worths p ∧ p.length ≤ 1000 ∧ n ≤ most
  | .dry t l i => t.length ≤ most ∧ Worths t ∧ l ∈ bs.map Blk.label ∧ i ≤ 1000
  | .spent t => t.length ≤ most ∧ Worths t
theorem step1_told {r : Row} {told ws pile t w p : List Int} (e : step1 r told ws pile = some (t, w, p)) (ht : r.touch ≤ pile.length) (hw : Worths pile) (htw : Worths told) : Worths t := by
  by_cases h1 : r = .tell
  · subst h1
    simp only [step1, Option.some.injEq, Prod.mk.injEq] at e
    obtain ⟨rfl, rfl, rfl⟩ := e
    exact htw.append (.one (hw.top (by exact ht)))
  by_cases h2 : r = .hear
  · subst h2
    cases ws with
    | nil => simp [step1] at e
    | cons n ws =>
      simp only [step1, Option.some.injEq, Prod.mk.injEq] at e
      obtain ⟨rfl, rfl, rfl⟩ := e
      exact htw
  · have e2 : step1 r told ws pile = some (told, ws, doneOn pile r) := by cases r <;> first | rfl | exact absurd rfl h1 | exact absurd rfl h2
    rw [e2] at e
    cases e
    exact htw
theorem rowsRun_ok {bs : List Blk} {most : Nat} {l : Str} (hl : l ∈ bs.map Blk.label) : ∀ (rs : List Row) (i : Nat) (s : RSt) (rest : List Str), i + rs.length ≤ 1000 → StOk most s → (∀ r ∈ rs, ∀ n, r = .put n → -32768 ≤ n ∧ n ≤ 32767) → wok (s.pile.length : Int) (rs.map Row.word ++ rest) →
    (∀ o, rowsRun most l rs i s = .inl o → OutOk bs most o) ∧ ∀ s', rowsRun most l rs i s = .inr s' → StOk most s' ∧ (s'.pile.length : Int) = after s.pile.length (rs.map Row.word) ∧ wok (s'.pile.length : Int) rest
  | [], i, s, rest, _, ok, _, hw => ⟨fun o e => (nomatch e), fun s' e => by
    cases e
    exact ⟨ok, by rw [List.map_nil, after_nil], hw⟩⟩
  | r :: rs, i, s, rest, hi, ok, hp, hw => by
    rw [List.length_cons] at hi
    by_cases hs : s.steps = most
    · rw [rowsRun_stop hs]
      exact ⟨fun o e => by cases e; exact ⟨Nat.le_trans ok.told ok.le, ok.tw⟩, fun s' e => nomatch e⟩
    · rw [rowsRun_step1 hs]
      have h1 := hw.1.1
      have h2 := hw.1.2
      rw [Row.touch_eq] at h1
      rw [Row.more_eq] at h2
      have ht : r.touch ≤ s.pile.length := by omega
      cases es : step1 r s.told s.ws s.pile with
      | none => exact ⟨fun o e => by cases e; exact ⟨Nat.le_trans ok.told ok.le, ok.tw, hl, by omega⟩, fun s' e => nomatch e⟩
      | some q =>
        obtain ⟨t, w, p⟩ := q
        obtain ⟨z1, z2, z3, z4⟩ := step1_some es ht ok.pw ok.ww (hp r (List.mem_cons_self ..))
        have z5 := step1_told es ht ok.pw ok.tw
        have k1 := ok.le
        have k2 := ok.told
        have hw2 := hw.2
        rw [Row.more_eq, ← z1] at hw2
        have ih := rowsRun_ok hl rs (i + 1) ⟨t, w, p, s.steps + 1⟩ rest (by omega) ⟨by show s.steps + 1 ≤ most; omega, by show t.length ≤ s.steps + 1; omega, z5, z2, z3, by show p.length ≤ 1000; omega⟩ (fun r hr => hp r (List.mem_cons_of_mem _ hr)) hw2
        refine ⟨ih.1, fun s' e => ?_⟩
        obtain ⟨g1, g2, g3⟩ := ih.2 s' e
        refine ⟨g1, ?_, g3⟩
        rw [List.map_cons, after_cons, Row.more_eq, ← z1]
        exact g2
theorem runFrom_ok {bs : List Blk} {h : Str → Int} (G : Good bs h) {most : Nat} : ∀ (f : Nat) (l : Str) (s : RSt), StOk most s → l ∈ bs.map Blk.label → (s.pile.length : Int) = h l → OutOk bs most (runFrom bs most f l s)
  | 0, l, s, ok, _, _ => ⟨Nat.le_trans ok.told ok.le, ok.tw⟩
  | f + 1, l, s, ok, hl, hh => by
    obtain ⟨b, hb, rfl⟩ := List.mem_map.mp hl
    rw [runFrom, blkAt_of G.nodup hb]
    have hw := G.rows b hb
    rw [← hh] at hw
    have q := rowsRun_ok hl b.rows 0 s [b.fin.word] (by have := G.many b hb; omega) ok (G.puts b hb) hw
    show OutOk bs most (behind most b.fin _ (rowsRun most b.label b.rows 0 s))
    cases e : rowsRun most b.label b.rows 0 s with
    | inl o => exact q.1 o e
    | inr s' =>
      obtain ⟨k, z1, z2⟩ := q.2 s' e
      show OutOk bs most (finRun most b.fin _ s')
      unfold finRun
      have k1 := k.le
      have k2 := k.told
      by_cases hs : s'.steps = most
      · rw [if_pos hs]
        exact ⟨Nat.le_trans k.told k.le, k.tw⟩
      · rw [if_neg hs]
        have hout : out h b = s'.pile.length + b.fin.more := by
          rw [z1, ← Fin.more_eq, hh]
          unfold out Blk.words
          exact after_snoc
        have t1 := z2.1.1
        rw [Fin.touch_eq] at t1
        have ends := G.ends b hb
        cases ef : b.fin with
        | stop => exact ⟨by omega, k.tw, k.pw, k.deep, by omega⟩
        | go x =>
          rw [ef] at ends hout
          have hx := ends x (List.mem_singleton.mpr rfl)
          refine runFrom_ok G f x ⟨s'.told, s'.ws, s'.pile, s'.steps + 1⟩ ⟨by show s'.steps + 1 ≤ most; omega, by show s'.told.length ≤ s'.steps + 1; omega, k.tw, k.pw, k.ww, k.deep⟩ hx.1 ?_
          show (s'.pile.length : Int) = h x
          rw [hx.2, hout]
          exact (Int.add_zero _).symm
        | iff x y =>
          rw [ef] at ends hout t1
          have h1 : 1 ≤ s'.pile.length := by simp only [Fin.touch] at t1; omega
          have hx := ends x (List.mem_cons_self ..)
          have hy := ends y (List.mem_cons_of_mem _ (List.mem_singleton.mpr rfl))
          have hp := popped_len h1
          have hdeep := k.deep
          have ok2 : StOk most ⟨s'.told, s'.ws, popped s'.pile, s'.steps + 1⟩ := ⟨by show s'.steps + 1 ≤ most; omega, by show s'.told.length ≤ s'.steps + 1; omega, k.tw, popped_worths k.pw, k.ww, by show (popped s'.pile).length ≤ 1000; omega⟩
          have e2 : ((popped s'.pile).length : Int) = out h b := by rw [hout]; exact hp
          show OutOk bs most (runFrom bs most f (if topN s'.pile 0 ≠ 0 then x else y) ⟨s'.told, s'.ws, popped s'.pile, s'.steps + 1⟩)
          split
          · exact runFrom_ok G f x _ ok2 hx.1 (by rw [hx.2]; exact e2)
          · exact runFrom_ok G f y _ ok2 hy.1 (by rw [hy.2]; exact e2)
theorem outcome_ok {bs : List Blk} {h : Str → Int} (G : Good bs h) {ns : List Int} (hw : Worths ns) {most : Nat} : OutOk bs most (outcome bs ns most) := by
  obtain ⟨b0, bs0, rfl⟩ : ∃ b0 tl0, bs = b0 :: tl0 := by
    cases bs with
    | nil => exact absurd G.one (by simp)
    | cons b tl => exact ⟨b, tl, rfl⟩
  exact runFrom_ok G _ _ _ ⟨Nat.zero_le _, Nat.zero_le _, (fun n hn => nomatch hn), (fun n hn => nomatch hn), hw, Nat.zero_le _⟩ (List.mem_cons_self ..) (by rw [firstL, G.zero b0 rfl]; rfl)
theorem sho_ints {ns : List Int} (h : Worths ns) {m : Nat} (hm : ns.length ≤ m) : Sho (m * 13 + 2) (.list (ns.map PyData.int)) := by
  refine (sho_list (n := 11) fun d hd => ?_).mono ?_
  · obtain ⟨n, hn, rfl⟩ := List.mem_map.mp hd
    have := h n hn
    exact sho_int (by omega) (by omega)
  · rw [List.length_map]
    exact Nat.add_le_add_right (Nat.mul_le_mul_right 13 hm) 2
theorem shp_ints {ns : List Int} : Shp 1 (.list (ns.map PyData.int)) := shp_list fun d hd => by
  obtain ⟨n, _, rfl⟩ := List.mem_map.mp hd
  exact shp_int
theorem Good.label_short {bs : List Blk} {h : Str → Int} (G : Good bs h) {l : Str} (m : l ∈ bs.map Blk.label) : l.length ≤ 8 := by
  obtain ⟨b, hb, rfl⟩ := List.mem_map.mp m
  have q := G.names b hb
  unfold nameS at q
  exact of_decide_eq_true (Bool.and_eq_true_iff.mp (Bool.and_eq_true_iff.mp q).1).2
theorem out_sho {bs : List Blk} {h : Str → Int} (G : Good bs h) {most : Nat} {o : Outcome} (ok : OutOk bs most o) (hm : most ≤ 1000) : Sho 60000 (outD o) ∧ Shp 2 (outD o) := by
  have wd : ∀ (x : Str), x ∈ (["ran", "dry", "spent"] : List Str) → Sho 14000 (.str x) ∧ Shp 1 (.str x) := fun x hx => by
    have hs : PyData.strOk x = true := by
      simp only [List.mem_cons, List.not_mem_nil, or_false] at hx
      rcases hx with rfl | rfl | rfl <;> decide +kernel
    have hl : x.length ≤ 8 := by
      simp only [List.mem_cons, List.not_mem_nil, or_false] at hx
      rcases hx with rfl | rfl | rfl <;> decide +kernel
    exact ⟨(sho_str hs hl).mono (by decide), shp_str hs⟩
  cases o with
  | ran t p n =>
    obtain ⟨k1, k2, k3, k4, k5⟩ := ok
    refine ⟨(sho_tup (n := 14000) fun d hd => ?_).mono (by simp only [List.length_cons, List.length_nil]; omega), shp_tup fun d hd => ?_⟩
    · simp only [List.mem_cons, List.not_mem_nil, or_false] at hd
      rcases hd with rfl | rfl | rfl | rfl
      · exact (wd _ (by simp)).1
      · exact (sho_ints k2 (m := 1000) (by omega)).mono (by decide)
      · exact (sho_ints k3 k4).mono (by decide)
      · exact (sho_int (by omega) (by omega)).mono (by decide)
    · simp only [List.mem_cons, List.not_mem_nil, or_false] at hd
      rcases hd with rfl | rfl | rfl | rfl
      · exact (wd _ (by simp)).2
      · exact shp_ints
      · exact shp_ints
      · exact shp_int
  | dry t l i =>
    obtain ⟨k1, k2, k3, k4⟩ := ok
    refine ⟨(sho_tup (n := 14000) fun d hd => ?_).mono (by simp only [List.length_cons, List.length_nil]; omega), shp_tup fun d hd => ?_⟩
    · simp only [List.mem_cons, List.not_mem_nil, or_false] at hd
      rcases hd with rfl | rfl | rfl | rfl
      · exact (wd _ (by simp)).1
      · exact (sho_ints k2 (m := 1000) (by omega)).mono (by decide)
      · exact (sho_str (G.label_ok k3) (G.label_short k3)).mono (by decide)
      · exact (sho_int (by omega) (by omega)).mono (by decide)
    · simp only [List.mem_cons, List.not_mem_nil, or_false] at hd
      rcases hd with rfl | rfl | rfl | rfl
      · exact (wd _ (by simp)).2
      · exact shp_ints
      · exact shp_str (G.label_ok k3)
      · exact shp_int
  | spent t =>
    obtain ⟨k1, k2⟩ := ok
    refine ⟨(sho_tup (n := 14000) fun d hd => ?_).mono (by simp only [List.length_cons, List.length_nil]; omega), shp_tup fun d hd => ?_⟩
    · simp only [List.mem_cons, List.not_mem_nil, or_false] at hd
      rcases hd with rfl | rfl
      · exact (wd _ (by simp)).1
      · exact (sho_ints k2 (m := 1000) (by omega)).mono (by decide)
    · simp only [List.mem_cons, List.not_mem_nil, or_false] at hd
      rcases hd with rfl | rfl
      · exact (wd _ (by simp)).2
      · exact shp_ints
end Pb

/-! L8 -/
set_option Elab.async false
set_option linter.all false
set_option maxRecDepth 100000
set_option maxHeartbeats 4000000
namespace Pb
open PySem PySem.Spec PyProof.Rows L2
open C8 (Cal Mak Met pe_c pe_mk pe_mt pe_mt0 pe_gc fnScope_by)
/-! short words -/
local macro_rules | `(tactic| walk_at "rd") => `(tactic| try simp only [tVar, tC, tAdd, tSub, t2I, tIsN, tNotN, tB, tAnd, tOr, tNot, tAndV, tOrV, tNotV, tIf, tSeq, tPar, tPar3, tNext, tBreak, tCont, tDrop, tRet, tRetN, tIfS, gName, gNil, gCons, gTup, gSub, tAsg, tAug, ipI, iList, iTup, iRng1, iRng2, iStr, iEnum, iZip,
  tOp, tUn, rI, rI0, rU, tTest, tChain, tFld, sFld, sFldAug, L2.rAdd, L2.rSub, tNil, tCons, tTup, tLst, tCall, tMeth, tMake, tCB, tNoPart, tPart, tSl, tBM0, tBM, tDGet, tDGet1, tDGet2, tDIn, tDNotIn, sDPut, tDNewK, rEq, rNe, scal_ii, scal_ss, scal_bb, scal_nn, scal_ni, scal_in, scal_ns, scal_sn, scal_is, scal_si, List.take_succ_cons, List.take_zero, List.drop_succ_cons, List.drop_zero, upd_same, upd_upd, and_assoc, tKGet, gStar, tDisp, tPairs, tYes,
  L2.start, List.map_cons, List.map_nil, List.length_cons, List.length_nil, List.cons_append, List.nil_append, List.append_nil, List.replicate, Nat.sub_self, Nat.add_sub_cancel, Nat.reduceAdd, Nat.reduceSub, List.set_cons_zero, List.set_cons_succ, List.getElem?_cons_zero, List.getElem?_cons_succ,
  Option.some.injEq, V.int.injEq, V.bl.injEq, V.str.injEq, V.ref.injEq, exists_eq_left', exists_eq_left, exists_eq', exists_eq, true_and, and_true, if_true, if_false, Bool.false_eq_true, List.cons.injEq, Bool.not_true, Bool.not_false, cxK, cxP, cxW, ite_true, ite_false, wipe, reduceCtorEq, and_self, decide_true, decide_false, exists_and_left, exists_const, decide_eq_true_eq])
local macro_rules | `(tactic| walk_at "len") => `(tactic| (intro vs H Q E h; repeat (first | (obtain ⟨e, _⟩ := h; subst e; rfl) | (obtain ⟨_, h⟩ := h))))
local macro_rules | `(tactic| walk_at "wd") => `(tactic| simp (config := {decide := true}) only [V.str.injEq, scal_ss, true_and, if_true, if_false])

theorem eqv_ints : ∀ ns : List Int, PyData.eqv (.list (ns.map PyData.int)) (.list (ns.map PyData.int)) = true := fun ns => by
  have q : ∀ ns : List Int, PyData.eqvAll (ns.map PyData.int) (ns.map PyData.int) = true := by
    intro ns
    induction ns with
    | nil => simp [PyData.eqvAll]
    | cons n ns ih => simp [PyData.eqvAll, PyData.eqv, ih]
  simp [PyData.eqv, q ns]
def Outcome.told : Outcome → List Int
  | .ran t _ _ => t
  | .dry t _ _ => t
  | .spent t => t
theorem OutOk.few {bs : List Blk} {most : Nat} : ∀ {o : Outcome}, OutOk bs most o → o.told.length ≤ most
  | .ran _ _ _, h => h.1
  | .dry _ _ _, h => h.1
  | .spent _, h => h.1
theorem IsAns.mono {K : PySem.W.Frag} {H0 H H' : Hp} {q : Addr} : ∀ {o : Outcome}, IsAns K H0 H q o → Same H H' → IsAns K H0 H' q o
  | .ran _ _ _, ⟨dx, tl, pl, a, b, c, d, e, f⟩, s => ⟨dx, tl, pl, s _ _ a, b, c, d, s _ _ e, s _ _ f⟩
  | .dry _ _ _, ⟨dx, tl, a, b, c⟩, s => ⟨dx, tl, s _ _ a, b, s _ _ c⟩
  | .spent _, ⟨dx, tl, a, b, c⟩, s => ⟨dx, tl, s _ _ a, b, s _ _ c⟩
theorem ans_told {w : World} {K : PySem.W.Frag} {mg : Str → Option Value} {H0 H : Hp} {q : Addr} {o : Outcome} (T : Tx w K mg) (a : IsAns K H0 H q o) : ∃ C dx fs tl, H q = some (.ins C dx fs) ∧ Cls K C ∧ IsaC K C ∧ NoAttr K C (Str.ofString "told") ∧ fs.lookup (Str.ofString "told") = some (.ref tl) ∧ H0 tl = none ∧ H tl = some (.lst (o.told.map V.int)) ∧
    PySem.W.kitOne K (.ref C) (.ref (He.ga K (Str.ofString "Answer"))) = some true := by
  cases o with
  | ran t p n =>
    obtain ⟨dx, tl, pl, a, b, _, _, e, _⟩ := a
    exact ⟨_, dx, _, tl, a, T.c_Ran, T.i_Ran, T.n_Ran_told, rfl, b, e, T.q_Ran_Answer⟩
  | dry t l i =>
    obtain ⟨dx, tl, a, b, e⟩ := a
    exact ⟨_, dx, _, tl, a, T.c_Dry, T.i_Dry, T.n_Dry_told, rfl, b, e, T.q_Dry_Answer⟩
  | spent t =>
    obtain ⟨dx, tl, a, b, e⟩ := a
    exact ⟨_, dx, _, tl, a, T.c_Spent, T.i_Spent, T.n_Spent_told, rfl, b, e, T.q_Spent_Answer⟩
def sp__law_right (K : PySem.W.Frag) : Sp := fun vs H Q _ => ∃ ms bl gl bs h ns, ∃ most : Nat, vs = [bl, .ref gl, .int most] ∧ Tk H ms ∧ Dp K (hide H ms) bl (blocksD bs) ∧ Good bs h ∧ SqL K H gl (ns.map V.int) ∧ ns.length ≤ 10 ∧ Worths ns ∧ most ≤ 500 ∧ ∀ H', Same H H' → Q (.bl true) H'
section
variable {P : Program} {w : World} {K : PySem.W.Frag} {mg : Str → Option Value} {base : Heap}
theorem ok_right (T : Tx w K mg) (M_Code : Mak P w K mg base 6 "Code" (He.ga K "Code") (sp_Code___init__ K) []) (F_run : KDef P w K mg base 5 "run" (sp_run K) ["code", "worths", "most"] s_run [("worths", .ref (kwdAt (He.ga K "run") "worths" K)), ("most", .int 500)]) (F__law_words : Cal P w K mg base 3 "_law_words" (sp__law_words K) []) (F__law_ran : Cal P w K mg base 3 "_law_ran" (sp__law_ran K) []) : GCal P w K mg base 8 "_law_right" (sp__law_right K) := by
  refine gcal_of T.D__law_right T.g__law_right sc__law_right (fun _ _ _ _ _ _ us hl => match us, hl with | [_, _, _], _ => rfl) (by walk_at "len") fun cdv A outer s H vs Q E hs hr h => ?_
  refine ⟨_, (pss_cons (ps_par (i := 3) (j := 4) rfl sc__law_right.nd rfl rfl (by decide) rfl rfl (pa_cons (pe_mk M_Code hr (by decide) (by rfl) (pa_cons (pv 0) pa_nil)) (pa_cons (pe_callTy (r := rListOf K) call_listOf (by rfl) T.b_list (by decide +kernel) (pa_cons (pv 1) pa_nil)) pa_nil)) rfl)
    (pss_cons (ps_for PassesOwn.never rfl (pi_range1 (by rfl) T.b_range (pa_cons pe_int pa_nil)) (pg_name (i := 5) sc__law_right.nd rfl (by first | exact Or.inl rfl | exact Or.inr rfl)) (pss_cons (ps_set (i := 6) sc__law_right.nd rfl (by first | exact Or.inl rfl | exact Or.inr rfl) (pe_callKD F_run hr (by decide) (by rfl) 1 ["worths", "most"] [] (fun us mv ws => (us ++ ws)) (fun z => by cases z) (fun q hq => by simp at hq) (fun r1 r2 r3 => (r1.append r3)) (fun _ _ _ _ _ _ us mv ws l1 l2 l3 => match us, mv, ws, l1, l2, l3 with | [_], [], [_, _], _, _, _ => (by (show _ = _); rfl)) (pa_cons (pv 3) pa_nil) (pk_cons (pv 4) (pk_cons (pv 2) pk_nil))))
    (pss_cons (ps_if (PW.pt (pw_or (pt_not (pt_val (pe_callB (r := rIsi K) call_isi (by rfl) T.b_isinstance (by decide +kernel) (pa_cons (pv 6) (pa_cons (pe_gc (v := .ref (He.ga K "Answer")) (by rfl) ⟨_, T.g_Answer, rfl⟩) pa_nil))))) (pw_or1 (pt_cmpR (r := rNeD K) (op_neD hr.units) (pv 4) (pv 1) (nomark _))))) (pss_one (ps_ret pe_bl)) pss_nil)
    (pss_cons (ps_if (pt_cmpR op_ne (pe_callTy (r := rStrD K) (call_strD hs hr) (by rfl) T.b_str (by decide +kernel) (pa_cons (pe_c F__law_words hr (by decide) (by rfl) (pa_cons (pv 6) pa_nil)) pa_nil)) (pe_callTy (r := rStrD K) (call_strD hs hr) (by rfl) T.b_str (by decide +kernel) (pa_cons (pe_c F__law_ran hr (by decide) (by rfl) (pa_cons (pv 0) (pa_cons (pv 1) (pa_cons (pv 2) pa_nil)))) pa_nil)) (nomark _)) (pss_one (ps_ret pe_bl)) pss_nil)
    (pss_one (ps_expr (pe_bm PySem.F.plainAttrs_list PySem.F.slot_list_append PySem.F.type_list_append mt_append (pe_fldK (K := K) (pv 6) rfl) (pa_cons pe_int pa_nil))))))))
    (pss_cons (ps_set (i := 7) sc__law_right.nd rfl (by first | exact Or.inl rfl | exact Or.inr rfl) (pe_c F__law_words hr (by decide) (by rfl) (pa_cons (pe_callKD F_run hr (by decide) (by rfl) 1 ["worths"] [("most", .int 500)] (fun us mv ws => ((us ++ ws) ++ mv)) (fun z => by cases z) (fun q hq => by simp at hq ⊢; simp [hq]) (fun r1 r2 r3 => ((r1.append r3).append r2)) (fun _ _ _ _ _ _ us mv ws l1 l2 l3 => match us, mv, ws, l1, l2, l3 with | [_], [_], [_], _, _, _ => (by (refine ⟨_, _, _, _, _, _, rfl, rfl, ?_⟩); (show _ = _); rfl)) (pa_cons (pv 3) pa_nil) (pk_cons (pe_callTy (r := rTupOf K) call_tupOf (by rfl) T.b_tuple (by decide +kernel) (pa_cons (pv 1) pa_nil)) pk_nil)) pa_nil)))
    (pss_one (ps_ret (pe_or (pe_cmpR op_ne (pv 2) pe_int (nomark _)) (pe_one (pe_cmpR op_eq (pe_callTy (r := rStrD K) (call_strD hs hr) (by rfl) T.b_str (by decide +kernel) (pa_cons (pv 7) pa_nil)) (pe_callTy (r := rStrD K) (call_strD hs hr) (by rfl) T.b_str (by decide +kernel) (pa_cons (pe_c F__law_ran hr (by decide) (by rfl) (pa_cons (pv 0) (pa_cons (pv 1) (pa_cons pe_int pa_nil)))) pa_nil)) (nomark _))))))))), ?_⟩
  obtain ⟨ms, bl, gl, bs, h, ns, most, rfl, tk, hbl, G, hgl, hn, hw, hm, q⟩ := h
  walk_at "rd"
  have big : ∀ n : Nat, n ≤ 1000000 → n ≤ sizeLine := fun n h => by rw [sizeLine_eq]; omega
  intro x dx nx ndx nex
  refine ⟨ms, x, dx, H, bl, bs, h, rfl, rfl, nx, ndx, nex, tk, hbl, G, fun H1 s1 c1 => ⟨rfl, gl, ns.map V.int, rfl, .inl (sqL_same s1 hgl), fun hl nhl => ?_⟩⟩
  have s2 := s1.trans (same_new (o := HO.lst (ns.map V.int)) nhl)
  have c2 := (IsCode.mono same_show c1).mono (same_new (o := HO.lst (ns.map V.int)) nhl)
  have e2 : upd H1 hl (HO.lst (ns.map V.int)) hl = some (.lst (ns.map V.int)) := upd_same
  generalize upd H1 hl (HO.lst (ns.map V.int)) = H2 at *
  clear c1 nhl
  have hinit : ∀ p ∈ ns.map PyData.int, Shp 0 p := fun d hd => by
    obtain ⟨i, _, rfl⟩ := List.mem_map.mp hd
    exact shp_int
  have oo : ∀ m, OutOk bs m (outcome bs ns m) := fun m => outcome_ok G hw
  refine a_for ?_
  walk_at "rd"
  refine ⟨by decide, by decide, ?_⟩
  refine for_go2 walk_range (fun i σ H3 => ∃ o5 o6, σ = [some bl, some (.ref gl), some (.int most), some (.ref x), some (.ref hl), o5, o6, none] ∧ Same H H3 ∧ IsCode K H3 x bs h ∧ H3 hl = some (.lst (ns.map V.int))) ⟨_, _, rfl, s2, c2, e2⟩ (fun _ _ _ _ _ => trivial) ?_ ?_
  · rintro Pw yes i y σ H3 H4 hi ⟨o5, o6, rfl, s3, c3, e3⟩ ⟨e0, ey⟩
    subst e0
    walk_at "rd"
    unfold L2.tCallN
    walk_at "rd"
    refine ⟨x, .ref hl, bs, h, ns, most, rfl, c3, G, ⟨hl, rfl, .inl (SqL.of e3)⟩, by rw [sizeLine_eq]; omega, hw, by omega, fun H5 q5 s5 nq5 a5 => ?_⟩
    obtain ⟨C, dx6, fs, tl, a1, a2, a3, a4, a6, a7, a8, a9⟩ := ans_told T a5
    refine a_isO a1 a2 a3 a9 ⟨_, rfl, ?_⟩
    rw [if_neg (by decide)]
    have s45 := s3.trans s5
    refine a_neD (d := .list (ns.map PyData.int)) (e := .list (ns.map PyData.int)) (.lst (SqL.of (s5 _ _ e3)) (DpAll.ints ns)) (.lst (sqL_same s45 hgl) (DpAll.ints ns)) (shaped_of (n := 1) shp_ints (by decide)) (shaped_of (n := 1) shp_ints (by decide)) ⟨_, rfl, ?_⟩
    rw [eqv_ints, if_neg (by decide)]
    refine ⟨q5, H4, _, rfl, a5, fun H6 t6 s6 d6 => ?_⟩
    have osh := out_sho G (oo most) (by omega)
    refine a_str d6 osh.1 (by decide) osh.2 (by decide) ?_
    have s46 := s45.trans s6
    refine ⟨ms, bl, .ref gl, bs, h, ns, most, rfl, tk.same s46, Dp.mono (Same.hide s46 ms) hbl, G, ⟨gl, rfl, .inl (sqL_same s46 hgl)⟩, by omega, hw, by omega, fun H7 t7 s7 d7 => ?_⟩
    refine a_str (Dp.mono same_show d7) osh.1 (by decide) osh.2 (by decide) ⟨rfl, ?_⟩
    rw [if_neg (by simp)]
    have s57 := s6.trans s7
    refine ⟨q5, rfl, C, dx6, fs, s57 _ _ a1, a2, a4, _, a6, .inl ⟨rfl, _, SqL.of (s57 _ _ a8)⟩, tl, _, _, rfl, rfl, s57 _ _ a8, by rw [List.length_map, sizeLine_eq]; have := (oo most).few; omega, ?_⟩
    have sx : ∀ {A : Hp}, A tl = none → Same A H7 → Same A (upd H7 tl (.lst ((outcome bs ns most).told.map V.int ++ [.int 7]))) := fun {A} n s => same_own s (ms := [tl]) Sx.at fun m hm => by rw [List.mem_singleton.mp hm]; exact n
    exact yes _ _ _ ⟨_, _, rfl, sx (s3.free a7) (s46.trans s7), c3.mono (sx a7 (s5.trans s57)), sx a7 (s5.trans s57) _ _ e3⟩
  · rintro σ H3 ⟨o5, o6, rfl, s3, c3, e3⟩
    walk_at "rd"
    unfold L2.tCallN
    walk_at "rd"
    refine ⟨gl, ns.map V.int, rfl, .inl ⟨sqL_same s3 hgl, fun t nt => ?_⟩⟩
    have s4 := same_new (o := HO.tup (ns.map V.int)) nt
    refine ⟨x, .ref t, bs, h, ns, 500, rfl, c3.mono s4, G, ⟨t, rfl, .inr (SqT.of upd_same)⟩, by rw [sizeLine_eq]; omega, hw, by omega, fun H5 q5 s5 nq5 a5 => ?_⟩
    have s35 := s3.trans (s4.trans s5)
    refine ⟨q5, _, _, rfl, a5, fun H6 t6 s6 d6 => ?_⟩
    have s36 := s35.trans s6
    split
    next => exact q _ s36
    next =>
      have osh := out_sho G (oo 500) (by decide)
      refine a_str d6 osh.1 (by decide) osh.2 (by decide) ?_
      refine ⟨ms, bl, .ref gl, bs, h, ns, 500, rfl, tk.same s36, Dp.mono (Same.hide s36 ms) hbl, G, ⟨gl, rfl, .inl (sqL_same s36 hgl)⟩, by omega, hw, by omega, fun H7 t7 s7 d7 => ?_⟩
      refine a_str (Dp.mono same_show d7) osh.1 (by decide) osh.2 (by decide) ⟨rfl, ?_⟩
      rw [decide_eq_true rfl]
      exact q _ (s36.trans s7)
end
end Pb

/-! L9a -/
set_option Elab.async false
set_option linter.all false
set_option maxRecDepth 100000
set_option maxHeartbeats 4000000
namespace Pb
open PySem PySem.Spec PyProof.Rows L2
open C8 (Cal Mak Met pe_c pe_mk pe_mt pe_mt0 pe_gc fnScope_by)
/-! short words -/
local macro_rules | `(tactic| walk_at "rd") => `(tactic| try simp only [tVar, tC, tAdd, tSub, t2I, tIsN, tNotN, tB, tAnd, tOr, tNot, tAndV, tOrV, tNotV, tIf, tSeq, tPar, tPar3, tNext, tBreak, tCont, tDrop, tRet, tRetN, tIfS, gName, gNil, gCons, gTup, gSub, tAsg, tAug, ipI, iList, iTup, iRng1, iRng2, iStr, iEnum, iZip,
  tOp, tUn, rI, rI0, rU, tTest, tChain, tFld, sFld, sFldAug, L2.rAdd, L2.rSub, tNil, tCons, tTup, tLst, tCall, tMeth, tMake, tCB, tNoPart, tPart, tSl, tBM0, tBM, tDGet, tDGet1, tDGet2, tDIn, tDNotIn, sDPut, tDNewK, rEq, rNe, scal_ii, scal_ss, scal_bb, scal_nn, scal_ni, scal_in, scal_ns, scal_sn, scal_is, scal_si, List.take_succ_cons, List.take_zero, List.drop_succ_cons, List.drop_zero, upd_same, upd_upd, and_assoc, tKGet, gStar, tDisp, tPairs, tYes,
  L2.start, List.map_cons, List.map_nil, List.length_cons, List.length_nil, List.cons_append, List.nil_append, List.append_nil, List.replicate, Nat.sub_self, Nat.add_sub_cancel, Nat.reduceAdd, Nat.reduceSub, List.set_cons_zero, List.set_cons_succ, List.getElem?_cons_zero, List.getElem?_cons_succ,
  Option.some.injEq, V.int.injEq, V.bl.injEq, V.str.injEq, V.ref.injEq, exists_eq_left', exists_eq_left, exists_eq', exists_eq, true_and, and_true, if_true, if_false, Bool.false_eq_true, List.cons.injEq, Bool.not_true, Bool.not_false, cxK, cxP, cxW, ite_true, ite_false, wipe, reduceCtorEq, and_self, decide_true, decide_false, exists_and_left, exists_const, decide_eq_true_eq])
local macro_rules | `(tactic| walk_at "len") => `(tactic| (intro vs H Q E h; repeat (first | (obtain ⟨e, _⟩ := h; subst e; rfl) | (obtain ⟨_, h⟩ := h))))
local macro_rules | `(tactic| walk_at "wd") => `(tactic| simp (config := {decide := true}) only [V.str.injEq, scal_ss, true_and, if_true, if_false])

theorem gfn_ofN {P : Program} {w : World} {K : PySem.W.Frag} {mg : Str → Option Value} {base : Heap} {x qual : Str} {st : Stmt} {f : Addr} {fd : FuncData} {dvs : List V} {kws : List (Str × V)} {N ps : List Str} {k : Nat} {sp : Sp} (D : FunD K x qual (L2.defArgs st) (L2.defBody st) (L2.defScope st) dvs kws f fd) (S : FnScope N ps (L2.defScope st)) (len : ∀ vs H Q E, sp vs H Q E → vs.length = ps.length)
    (hbody : ∀ (cdv : Value) (A : Around) (outer : List Env) (s : Shared) (H : Hp) (vs : List V) (Q : VK) (E : XK), Still (A.deeper (envOfC qual (L2.defScope st) s.heap.objs.size f cdv)) → Room k (A.deeper (envOfC qual (L2.defScope st) s.heap.objs.size f cdv)) → sp vs H Q E →
      ∃ t, PSs (cxOf CX0 P w K mg base N qual (L2.defScope st) f cdv A outer s H E).nox (L2.defBody st) t ∧ t { nx := fun _ H' => Q .non H', rt := Q } (start N vs) H) : GFn P w K mg base (k + 1) f fd ps sp :=
  gfn_of D S len fun cdv A outer s H vs Q E hs hr h => by
    obtain ⟨t, h1, h2⟩ := hbody cdv A outer s H vs Q E hs hr h
    exact ⟨t, h1.nox, h2⟩
mutual
theorem eqv_self : ∀ d : PyData, d.hasDict = false → PyData.eqv d d = true
  | .none, _ => by simp [PyData.eqv]
  | .bool b, _ => by simp [PyData.eqv]
  | .int i, _ => by simp [PyData.eqv]
  | .str x, _ => by simp [PyData.eqv]
  | .list xs, h => by
    rw [PyData.eqv]
    exact eqvAll_self xs (by simpa [PyData.hasDict] using h)
  | .tuple xs, h => by
    rw [PyData.eqv]
    exact eqvAll_self xs (by simpa [PyData.hasDict] using h)
  | .dict _, h => by simp [PyData.hasDict] at h
theorem eqvAll_self : ∀ ds : List PyData, PyData.hasDictAll ds = false → PyData.eqvAll ds ds = true
  | [], _ => by simp [PyData.eqvAll]
  | d :: ds, h => by
    have h2 : d.hasDict = false ∧ PyData.hasDictAll ds = false := by simpa [PyData.hasDictAll] using h
    rw [PyData.eqvAll, eqv_self d h2.1, eqvAll_self ds h2.2]
    rfl
end
theorem eqv_shaped {d : PyData} (h : SeqAt.shaped d = true) : PyData.eqv d d = true := by
  unfold SeqAt.shaped at h
  exact eqv_self d (PyData.hasDict_of_canLay d (Bool.and_eq_true_iff.mp h).1)
theorem eqv_nil {ds : List PyData} : PyData.eqv (.list ds) (.list []) = decide (ds = []) := by
  cases ds <;> simp [PyData.eqv, PyData.eqvAll]
theorem g_name {i : Nat} {v : V} {σ : L2.St} {H : Hp} {Q : L2.St → Hp → Prop} (h : Q (σ.set i (some v)) H) : gName i v σ H Q := h
/-- an if as a statement: what stands behind its test -/
theorem if_mid {t : TT} {A B : TS} {D : Ends} {σ : L2.St} {H : Hp} (mid : Bool → Hp → Prop) (h : ∀ Kx : Bool → Hp → Prop, (∀ b H', mid b H' → Kx b H') → t σ H Kx) (hT : ∀ H', mid true H' → A D σ H') (hF : ∀ H', mid false H' → B D σ H') : tIfS t A B D σ H :=
  h (fun b H1 => if b = true then A D σ H1 else B D σ H1) fun b H' m => by
    cases b with
    | true => exact hT H' m
    | false => exact hF H' m
/-- what code is, or none -/
def Blks (bs : List Blk) : Prop := bs = [] ∨ ∃ h, Good bs h ∧ Chain bs
theorem Blks.shaped {bs : List Blk} (g : Blks bs) : SeqAt.shaped (blocksD bs) = true := by
  rcases g with rfl | ⟨h, G, _⟩
  · rfl
  · exact G.shaped
section
variable {K : PySem.W.Frag} {H : Hp} {Q : VK} {x : V} {p : Addr}
theorem a_neNil {ds : List PyData} (h : Dp K H x (.list ds)) (sh : SeqAt.shaped (.list ds) = true) (e : H p = some (.lst [])) (q : Q (.bl (!decide (ds = []))) H) : rNeD K x (.ref p) H Q :=
  a_neD h (.lst (SqL.of e) .nil) sh rfl (by rw [eqv_nil]; exact q)
theorem a_eqSelf {y : V} {d : PyData} (h : Dp K H x d) (h2 : Dp K H y d) (sh : SeqAt.shaped d = true) (q : Q (.bl true) H) : rEqD K x y H Q := a_eqD h h2 sh sh (by rw [eqv_shaped sh]; exact q)
theorem a_neSelf {y : V} {d : PyData} (h : Dp K H x d) (h2 : Dp K H y d) (sh : SeqAt.shaped d = true) (q : Q (.bl false) H) : rNeD K x y H Q := a_neD h h2 sh sh (by rw [eqv_shaped sh]; exact q)
theorem a_eqCode {w : World} {mg : Str → Option Value} (T : Tx w K mg) {p q : Addr} {bs cs : List Blk} {h g : Str → Int} (c : IsCode K H p bs h) (d : IsCode K H q cs g) (G : Good bs h) (J : Good cs g) (k : Q (.bl (PyData.eqv (blocksD bs) (blocksD cs))) H) :
    rEqO (He.ga K (Str.ofString "Code")) (sp_Code___eq__ K) (.ref p) (.ref q) H Q := by
  obtain ⟨dx, pa, ta, ha, kvs, h1, _⟩ := id c
  obtain ⟨dx2, pa2, ta2, ha2, kvs2, g1, _⟩ := id d
  exact ⟨p, q, dx, dx2, _, _, rfl, rfl, h1, g1, [], p, q, bs, cs, h, g, rfl, Tk.nil, by rw [hide_nil]; exact c, by rw [hide_nil]; exact d, G, J, _, rfl, k⟩
/-- Code(..) of good blocks -/
theorem a_mkCode {v : V} {ms : List Addr} {bs : List Blk} {h : Str → Int} {E : XK} {Qc : Addr → Hp → Prop} (tk : Tk H ms) (hd : Dp K (hide H ms) v (blocksD bs)) (G : Good bs h) (k : ∀ H' p, Same H H' → H p = none → IsCode K H' p bs h → Qc p H') :
    ∀ x dx, H x = none → H dx = none → dx ≠ x → sp_Code___init__ K [.ref x, v] (upd (upd H dx (.own x)) x (.ins (He.ga K (Str.ofString "Code")) dx [])) (fun v H2 => v = .non ∧ Qc x H2) E :=
  fun x dx nx ndx nex => ⟨ms, x, dx, H, v, bs, h, rfl, rfl, nx, ndx, nex, tk, hd, G, fun H1 s1 c1 => ⟨rfl, k H1 x s1 nx (IsCode.mono same_show c1)⟩⟩
end
section
variable {K : PySem.W.Frag} {H0 H H' : Hp} {st sc : Addr} {b : Int} {ns : List Int}
theorem StI.here (i : StI K H0 H st sc b ns) : StI K H H st sc b ns := ⟨Sx.refl, i.now, i.sqL, i.b0, i.now⟩
theorem StI.over (i : StI K H0 H st sc b ns) (j : StI K H H' st sc b ns) : StI K H0 H' st sc b ns := ⟨i.s0.trans j.s0, i.k0, i.sq, i.b0, j.now⟩
theorem StI.tk (i : StI K H0 H st sc b ns) : Tk H [st] := by
  obtain ⟨k, _, e⟩ := i.now
  exact Tk.cons e Tk.nil
theorem StI.hid (j : StI K H H' st sc b ns) : Same (hide H [st]) (hide H' [st]) := j.s0.hide fun _ h => h
end
theorem Good.h_range {bs : List Blk} {h : Str → Int} (G : Good bs h) {l : Str} (m : l ∈ bs.map Blk.label) : 0 ≤ h l ∧ h l ≤ 13 := by
  obtain ⟨b, hb, rfl⟩ := List.mem_map.mp m
  have hw := G.rows b hb
  unfold Blk.words at hw
  cases er : b.rows with
  | nil =>
    rw [er] at hw
    have h1 := hw.1
    rw [Fin.touch_eq, Fin.more_eq] at h1
    have : -1 ≤ b.fin.more := by cases b.fin <;> simp only [Fin.more] <;> decide
    omega
  | cons r rs =>
    rw [er] at hw
    have h1 := hw.1
    rw [Row.touch_eq, Row.more_eq] at h1
    have : -1 ≤ r.more := by cases r <;> simp only [Row.more] <;> decide
    omega
theorem Row.strs (r : Row) : PyData.strOk r.word = true ∧ r.word.length ≤ 8 := by cases r <;> exact ⟨by simp only [Row.word]; decide +kernel, by simp only [Row.word]; decide +kernel⟩
theorem Fin.strs (r : Fin) : PyData.strOk r.word = true ∧ r.word.length ≤ 8 := by cases r <;> exact ⟨by simp only [Fin.word]; decide +kernel, by simp only [Fin.word]; decide +kernel⟩
theorem row_sho {r : Row} (h : ∀ n, r = .put n → -32768 ≤ n ∧ n ≤ 32767) : Sho 200 r.d := by
  refine (sho_tup (n := 82) fun d hd => ?_).mono (by cases r <;> simp [Row.args])
  rcases List.mem_cons.mp hd with rfl | hd
  · exact (sho_str r.strs.1 r.strs.2).mono (by decide)
  · cases r with
    | put n =>
      have := h n rfl
      rw [List.mem_singleton.mp hd]
      exact (sho_int (by omega) (by omega)).mono (by decide)
    | _ => cases hd
theorem fin_sho {e : Fin} (h : ∀ l ∈ e.labels, PyData.strOk l = true ∧ l.length ≤ 8) : Sho 300 e.d := by
  refine (sho_tup (n := 82) fun d hd => ?_).mono (by cases e <;> simp [Fin.labels])
  rcases List.mem_cons.mp hd with rfl | hd
  · exact (sho_str e.strs.1 e.strs.2).mono (by decide)
  · obtain ⟨l, hl, rfl⟩ := List.mem_map.mp hd
    exact (sho_str (h l hl).1 (h l hl).2).mono (by decide)
theorem Good.sho {bs : List Blk} {h : Str → Int} (G : Good bs h) : Sho 60000 (blocksD bs) ∧ Shp 5 (blocksD bs) := by
  have lab : ∀ b ∈ bs, ∀ l ∈ b.fin.labels, PyData.strOk l = true ∧ l.length ≤ 8 := fun b hb l hl => ⟨G.label_ok (G.ends b hb l hl).1, G.label_short (G.ends b hb l hl).1⟩
  have own : ∀ b ∈ bs, PyData.strOk b.label = true ∧ b.label.length ≤ 8 := fun b hb => ⟨G.label_ok (List.mem_map.mpr ⟨b, hb, rfl⟩), G.label_short (List.mem_map.mpr ⟨b, hb, rfl⟩)⟩
  refine ⟨(sho_list (n := 9000) fun d hd => ?_).mono (by rw [List.length_map]; have := G.six; omega), shp_list fun d hd => ?_⟩
  · obtain ⟨b, hb, rfl⟩ := List.mem_map.mp hd
    refine (sho_tup (n := 2900) fun d hd => ?_).mono (by simp only [List.length_cons, List.length_nil]; omega)
    simp only [List.mem_cons, List.not_mem_nil, or_false] at hd
    rcases hd with rfl | rfl | rfl
    · exact (sho_str (own b hb).1 (own b hb).2).mono (by decide)
    · refine (sho_list (n := 200) fun d hd => ?_).mono (by rw [List.length_map]; have := G.many b hb; omega)
      obtain ⟨r, hr, rfl⟩ := List.mem_map.mp hd
      exact row_sho (G.puts b hb r hr)
    · exact (fin_sho (lab b hb)).mono (by decide)
  · obtain ⟨b, hb, rfl⟩ := List.mem_map.mp hd
    refine shp_tup (n := 3) fun d hd => ?_
    simp only [List.mem_cons, List.not_mem_nil, or_false] at hd
    rcases hd with rfl | rfl | rfl
    · exact shp_str (own b hb).1
    · refine shp_list (n := 2) fun d hd => ?_
      obtain ⟨r, hr, rfl⟩ := List.mem_map.mp hd
      exact (shp_row r).mono (by decide)
    · exact (shp_fin fun l hl => (lab b hb l hl).1).mono (by decide)
section
variable {K : PySem.W.Frag} {H : Hp} {Q : VK} {p : Addr} {E : XK} {bs : List Blk} {h : Str → Int}
theorem a_heights (c : IsCode K H p bs h) (G : Good bs h) (k : ∀ q, H q = none → Q (.ref q) (upd H q (.dK (highs (bs.map Blk.label) h)))) : ∃ x1 x2, H p = some (.ins (He.ga K (Str.ofString "Code")) x1 x2) ∧ List.lookup (Str.ofString "heights") x2 = none ∧ sp_Code_heights K [.ref p] H Q E := by
  obtain ⟨dx, pa, ta, ha, kvs, h1, _⟩ := id c
  exact ⟨dx, _, h1, rfl, [], p, bs, h, rfl, Tk.nil, by rw [hide_nil]; exact c, G, k⟩
theorem a_blocks (c : IsCode K H p bs h) (G : Good bs h) (k : ∀ H' a, Same H H' → Dp K H' (.ref a) (blocksD bs) → Q (.ref a) H') : ∃ x1 x2, H p = some (.ins (He.ga K (Str.ofString "Code")) x1 x2) ∧ List.lookup (Str.ofString "blocks") x2 = none ∧ sp_Code_blocks K [.ref p] H Q E := by
  obtain ⟨dx, pa, ta, ha, kvs, h1, _⟩ := id c
  refine ⟨dx, _, h1, rfl, [], p, bs, h, rfl, Tk.nil, by rw [hide_nil]; exact c, G, fun H' v s d => ?_⟩
  rw [hide_nil] at d
  obtain ⟨a, _, rfl, _⟩ := dp_list d
  exact k H' a s d
theorem a_lenCode (c : IsCode K H p bs h) (G : Good bs h) (k : ∀ H', Same H H' → Q (.int ((bs.map fun b => b.rows.length + 1).sum : Nat)) H') : rLenO (He.ga K (Str.ofString "Code")) (sp_Code___len__ K) [.ref p] H Q := by
  obtain ⟨dx, pa, ta, ha, kvs, h1, _⟩ := id c
  refine ⟨p, dx, _, rfl, h1, [], p, bs, h, rfl, Tk.nil, by rw [hide_nil]; exact c, G, fun H' s => ⟨_, rfl, ?_, k H' s⟩⟩
  have q : ∀ cs : List Blk, (∀ b ∈ cs, b.rows.length ≤ 12) → (cs.map fun b => b.rows.length + 1).sum ≤ cs.length * 13 := by
    intro cs hc
    induction cs with
    | nil => simp
    | cons c cs ih =>
      have h1 := hc c (List.mem_cons_self ..)
      have h2 := ih fun b hb => hc b (List.mem_cons_of_mem _ hb)
      rw [List.map_cons, List.sum_cons, List.length_cons, Nat.succ_mul]
      omega
  have h2 := q bs G.many
  have h3 := G.six
  omega
end
end Pb

/-! L9b -/
set_option Elab.async false
set_option linter.all false
set_option maxRecDepth 100000
set_option maxHeartbeats 4000000
namespace Pb
open PySem PySem.Spec PyProof.Rows L2
open C8 (Cal Mak Met pe_c pe_mk pe_mt pe_mt0 pe_gc fnScope_by)
/-! short words -/
local macro_rules | `(tactic| walk_at "rd") => `(tactic| try simp only [tVar, tC, tAdd, tSub, t2I, tIsN, tNotN, tB, tAnd, tOr, tNot, tAndV, tOrV, tNotV, tIf, tSeq, tPar, tPar3, tNext, tBreak, tCont, tDrop, tRet, tRetN, tIfS, gName, gNil, gCons, gTup, gSub, tAsg, tAug, ipI, iList, iTup, iRng1, iRng2, iStr, iEnum, iZip,
  tOp, tUn, rI, rI0, rU, tTest, tChain, tFld, sFld, sFldAug, L2.rAdd, L2.rSub, tNil, tCons, tTup, tLst, tCall, tMeth, tMake, tCB, tNoPart, tPart, tSl, tBM0, tBM, tDGet, tDGet1, tDGet2, tDIn, tDNotIn, sDPut, tDNewK, rEq, rNe, scal_ii, scal_ss, scal_bb, scal_nn, scal_ni, scal_in, scal_ns, scal_sn, scal_is, scal_si, List.take_succ_cons, List.take_zero, List.drop_succ_cons, List.drop_zero, upd_same, upd_upd, and_assoc, tKGet, gStar, tDisp, tPairs, tYes,
  L2.start, List.map_cons, List.map_nil, List.length_cons, List.length_nil, List.cons_append, List.nil_append, List.append_nil, List.replicate, Nat.sub_self, Nat.add_sub_cancel, Nat.reduceAdd, Nat.reduceSub, List.set_cons_zero, List.set_cons_succ, List.getElem?_cons_zero, List.getElem?_cons_succ,
  Option.some.injEq, V.int.injEq, V.bl.injEq, V.str.injEq, V.ref.injEq, exists_eq_left', exists_eq_left, exists_eq', exists_eq, true_and, and_true, if_true, if_false, Bool.false_eq_true, List.cons.injEq, Bool.not_true, Bool.not_false, cxK, cxP, cxW, ite_true, ite_false, wipe, reduceCtorEq, and_self, decide_true, decide_false, exists_and_left, exists_const, decide_eq_true_eq])
local macro_rules | `(tactic| walk_at "len") => `(tactic| (intro vs H Q E h; repeat (first | (obtain ⟨e, _⟩ := h; subst e; rfl) | (obtain ⟨_, h⟩ := h))))
local macro_rules | `(tactic| walk_at "wd") => `(tactic| simp (config := {decide := true}) only [V.str.injEq, scal_ss, true_and, if_true, if_false])

/-! the law's own ring of code -/
def loopB : List Blk := [⟨"a", [.hear], .go "b"⟩, ⟨"b", [.same, .tell, .put 1, .less, .same], .iff "b" "c"⟩, ⟨"c", [.put 300, .same, .times, .swap], .stop⟩]
def loopH (l : Str) : Int := if l = "a" then 0 else 1
theorem loopGood : Good loopB loopH where
  one := by decide
  six := by decide
  names := by decide +kernel
  many := by decide +kernel
  puts := by
    intro b hb r hr n e
    subst e
    simp only [loopB, List.mem_cons, List.not_mem_nil, or_false] at hb
    rcases hb with rfl | rfl | rfl <;> simp only [List.mem_cons, List.not_mem_nil, or_false, reduceCtorEq, false_or, Row.put.injEq] at hr
    · subst hr; decide
    · subst hr; decide
  nodup := by decide +kernel
  zero := by
    intro b hb
    cases hb
    rfl
  rows := by
    intro b hb
    simp only [loopB, List.mem_cons, List.not_mem_nil, or_false] at hb
    rcases hb with rfl | rfl | rfl <;> simp only [Blk.words, List.map_cons, List.map_nil, List.cons_append, List.nil_append, wok, and_true] <;> decide +kernel
  ends := by
    intro b hb l hl
    simp only [loopB, List.mem_cons, List.not_mem_nil, or_false] at hb
    rcases hb with rfl | rfl | rfl <;> simp only [Fin.labels, List.mem_cons, List.not_mem_nil, or_false] at hl
    · subst hl; exact ⟨by decide +kernel, by decide +kernel⟩
    · rcases hl with rfl | rfl <;> exact ⟨by decide +kernel, by decide +kernel⟩
  all := by
    have ra : Reach loopB "a" := Reach.first (b := ⟨"a", [.hear], .go "b"⟩) rfl
    have rb : Reach loopB "b" := Reach.step (b := ⟨"a", [.hear], .go "b"⟩) (List.mem_cons_self ..) ra (List.mem_singleton.mpr rfl)
    have rc : Reach loopB "c" := Reach.step (b := ⟨"b", [.same, .tell, .put 1, .less, .same], .iff "b" "c"⟩) (List.mem_cons_of_mem _ (List.mem_cons_self ..)) rb (List.mem_cons_of_mem _ (List.mem_singleton.mpr rfl))
    intro b hb
    simp only [loopB, List.mem_cons, List.not_mem_nil, or_false] at hb
    rcases hb with rfl | rfl | rfl
    · exact ra
    · exact rb
    · exact rc
theorem loop1 : outcome loopB [3] 500 = .ran [3, 2, 1] [24464, 0] 25 := by kernel_rfl
theorem loop2 : outcome loopB [] 0 = .spent [] := by kernel_rfl
theorem loop3 : outcome loopB [] 5 = .dry [] "a" 0 := by kernel_rfl
end Pb

/-! L9 -/
set_option Elab.async false
set_option linter.all false
set_option maxRecDepth 100000
set_option maxHeartbeats 4000000
namespace Pb
open PySem PySem.Spec PyProof.Rows L2
open C8 (Cal Mak Met pe_c pe_mk pe_mt pe_mt0 pe_gc fnScope_by)
/-! short words -/
local macro_rules | `(tactic| walk_at "rd") => `(tactic| try simp only [tVar, tC, tAdd, tSub, t2I, tIsN, tNotN, tB, tAnd, tOr, tNot, tAndV, tOrV, tNotV, tIf, tSeq, tPar, tPar3, tNext, tBreak, tCont, tDrop, tRet, tRetN, tIfS, gName, gNil, gCons, gTup, gSub, tAsg, tAug, ipI, iList, iTup, iRng1, iRng2, iStr, iEnum, iZip,
  tOp, tUn, rI, rI0, rU, tTest, tChain, tFld, sFld, sFldAug, L2.rAdd, L2.rSub, tNil, tCons, tTup, tLst, tCall, tMeth, tMake, tCB, tNoPart, tPart, tSl, tBM0, tBM, tDGet, tDGet1, tDGet2, tDIn, tDNotIn, sDPut, tDNewK, rEq, rNe, scal_ii, scal_ss, scal_bb, scal_nn, scal_ni, scal_in, scal_ns, scal_sn, scal_is, scal_si, List.take_succ_cons, List.take_zero, List.drop_succ_cons, List.drop_zero, upd_same, upd_upd, and_assoc, tKGet, gStar, tDisp, tPairs, tYes,
  L2.start, List.map_cons, List.map_nil, List.length_cons, List.length_nil, List.cons_append, List.nil_append, List.append_nil, List.replicate, Nat.sub_self, Nat.add_sub_cancel, Nat.reduceAdd, Nat.reduceSub, List.set_cons_zero, List.set_cons_succ, List.getElem?_cons_zero, List.getElem?_cons_succ,
  Option.some.injEq, V.int.injEq, V.bl.injEq, V.str.injEq, V.ref.injEq, exists_eq_left', exists_eq_left, exists_eq', exists_eq, true_and, and_true, if_true, if_false, Bool.false_eq_true, List.cons.injEq, Bool.not_true, Bool.not_false, cxK, cxP, cxW, ite_true, ite_false, wipe, reduceCtorEq, and_self, decide_true, decide_false, exists_and_left, exists_const, decide_eq_true_eq])
local macro_rules | `(tactic| walk_at "len") => `(tactic| (intro vs H Q E h; repeat (first | (obtain ⟨e, _⟩ := h; subst e; rfl) | (obtain ⟨_, h⟩ := h))))
local macro_rules | `(tactic| walk_at "wd") => `(tactic| simp (config := {decide := true}) only [V.str.injEq, scal_ss, true_and, if_true, if_false])

def sp_law (K : PySem.W.Frag) : Sp := fun vs H Q _ => ∃ a, ∃ ns : List Int, vs = [.ref a] ∧ SqL K H a (ns.map V.int) ∧ ns.length ≤ 63 ∧ ∀ H', Q (.bl true) H'
section
variable {P : Program} {w : World} {K : PySem.W.Frag} {mg : Str → Option Value} {base : Heap}
theorem ok_law {fd : FuncData} (F_law : FunD K "law" "law" (L2.defArgs s_law) (L2.defBody s_law) (L2.defScope s_law) [] [] (He.ga K "law") fd) (T : Tx w K mg) (M_Code : Mak P w K mg base 6 "Code" (He.ga K "Code") (sp_Code___init__ K) []) (F_Code___eq__ : Met P w K mg base 8 (He.ga K "Code") "__eq__" (sp_Code___eq__ K) []) (F_Code___len__ : Met P w K mg base 1 (He.ga K "Code") "__len__" (sp_Code___len__ K) []) (F_Code_heights : Met P w K mg base 1 (He.ga K "Code") "heights" (sp_Code_heights K) []) (F_Code_blocks : Met P w K mg base 1 (He.ga K "Code") "blocks" (sp_Code_blocks K) []) (F_run : KDef P w K mg base 5 "run" (sp_run K) ["code", "worths", "most"] s_run [("worths", .ref (kwdAt (He.ga K "run") "worths" K)), ("most", .int 500)]) (F__law_words : Cal P w K mg base 3 "_law_words" (sp__law_words K) []) (F__law_next : Cal P w K mg base 3 "_law_next" (sp__law_next K) []) (F__law_code : Cal P w K mg base 5 "_law_code" (sp__law_code K) []) (F__law_heights : Cal P w K mg base 2 "_law_heights" (sp__law_heights K) []) (F__law_worths : Cal P w K mg base 4 "_law_worths" (sp__law_worths K) []) (F__law_right : GCal P w K mg base 8 "_law_right" (sp__law_right K)) : GFn P w K mg base 9 (He.ga K "law") fd ["_law_script"] (sp_law K) := by
  refine gfn_ofN F_law sc_law (by walk_at "len") fun cdv A outer s H vs Q E hs hr h => ?_
  refine ⟨_, (pss_cons (ps_for PassesOwn.never rfl (pi_range3 (by rfl) T.b_range (pa_cons pe_int (pa_cons (pe_callB (call_max2' rfl) (by rfl) T.b_max (by decide +kernel) (pa_cons pe_int (pa_cons (pe_callB (call_min2' rfl) (by rfl) T.b_min (by decide +kernel) (pa_cons pe_int (pa_cons (pe_callB (r := rLenQ K) call_lenQ (by rfl) T.b_len (by decide +kernel) (pa_cons (pv 0) pa_nil)) pa_nil))) pa_nil))) (pa_cons pe_int pa_nil)))) (pg_name (i := 1) sc_law.nd rfl (by first | exact Or.inl rfl | exact Or.inr rfl)) (pss_cons (ps_set (i := 2) sc_law.nd rfl (by first | exact Or.inl rfl | exact Or.inr rfl) (pe_lst (pa_cons (pv 0) (pa_cons (pv 1) (pa_cons pe_int pa_nil)))))
    (pss_cons (ps_set (i := 3) sc_law.nd rfl (by first | exact Or.inl rfl | exact Or.inr rfl) (pe_c F__law_code hr (by decide) (by rfl) (pa_cons (pv 2) (pa_cons pe_int pa_nil))))
    (pss_one (ps_for PassesOwn.never rfl (pi_range1 (by rfl) T.b_range (pa_cons pe_int pa_nil)) (pg_name (i := 4) sc_law.nd rfl (by first | exact Or.inl rfl | exact Or.inr rfl)) (pss_cons (ps_set (i := 5) sc_law.nd rfl (by first | exact Or.inl rfl | exact Or.inr rfl) (pe_c F__law_code hr (by decide) (by rfl) (pa_cons (pv 2) (pa_cons pe_int pa_nil))))
    (pss_cons (ps_if (PW.pt (pw_and (pt_cmpR (r := rNeD K) (op_neD hr.units) (pv 5) (pe_lst pa_nil) (nomark _)) (pw_and1 (pt_cmpR (r := rNeD K) (op_neD hr.units) (pv 3) (pe_lst pa_nil) (nomark _))))) (pss_one (ps_if (PW.pt (pw_or (pt_cmpR op_ne (pe_cmpR (r := rEqO (He.ga K "Code") (sp_Code___eq__ K)) (op_eqO F_Code___eq__ hr (by decide)) (pe_mk M_Code hr (by decide) (by rfl) (pa_cons (pv 5) pa_nil)) (pe_mk M_Code hr (by decide) (by rfl) (pa_cons (pv 3) pa_nil)) (nomark _)) (pe_cmpR (r := rEqD K) (op_eqD hr.units) (pv 5) (pv 3) (nomark _)) (nomark _)) (pw_or1 (pt_not (pt_cmpR (r := rEqO (He.ga K "Code") (sp_Code___eq__ K)) (op_eqO F_Code___eq__ hr (by decide)) (pe_mk M_Code hr (by decide) (by rfl) (pa_cons (pv 3) pa_nil)) (pe_mk M_Code hr (by decide) (by rfl) (pa_cons (pe_callTy (r := rListOf K) call_listOf (by rfl) T.b_list (by decide +kernel) (pa_cons (pv 3) pa_nil)) pa_nil)) (nomark _)))))) (pss_one (ps_ret pe_bl)) pss_nil)) pss_nil)
    (pss_one (ps_if (pt_cmpR (r := rNeD K) (op_neD hr.units) (pv 5) (pe_lst pa_nil) (nomark _)) (pss_cons (ps_asg (pe_tup (pa_cons (pe_mk M_Code hr (by decide) (by rfl) (pa_cons (pv 5) pa_nil)) (pa_cons (pe_c F__law_heights hr (by decide) (by rfl) (pa_cons (pv 5) pa_nil)) pa_nil))) (pg_tupK (K := K) (n := 2) rfl (pgs_cons (pg_name (i := 6) sc_law.nd rfl (by first | exact Or.inl rfl | exact Or.inr rfl)) (pgs_cons (pg_name (i := 7) sc_law.nd rfl (by first | exact Or.inl rfl | exact Or.inr rfl)) pgs_nil))))
    (pss_cons (ps_setLc (i := 8) rfl sc_law.nd rfl rfl (sw_true rfl rfl rfl (by decide +kernel)) (pi_listK (K := K) (pv 5)) (blkOk_by (own := [("_law_block", 9)]) (N := ["_law_script", "_law_by", "_law_state", "_law_others", "_law_turn", "_law_blocks", "_law_code_here", "_law_highs", "_law_labels", "_law_block", "_law_mine", "_law_label", "_law_cap", "_law_loop"]) (sc := L2.defScope s_law) (by decide +kernel)) (fun _ _ _ _ _ => (pg_m (pg_name (i := 9) sc_law.nd rfl (by first | exact Or.inl rfl | exact Or.inr rfl)))) (fun _ _ _ _ _ => pts_nilM) (fun _ _ _ _ _ => (pe_m (pe_ix (r := rIx K) ix_seq (pv 9) pe_int (fun _ _ => rfl)))))
    (pss_cons (ps_setLc (i := 10) rfl sc_law.nd rfl rfl (sw_true rfl rfl rfl (by decide +kernel)) (pi_listK (K := K) (pv 8)) (blkOk_by (own := [("_law_label", 11)]) (N := ["_law_script", "_law_by", "_law_state", "_law_others", "_law_turn", "_law_blocks", "_law_code_here", "_law_highs", "_law_labels", "_law_block", "_law_mine", "_law_label", "_law_cap", "_law_loop"]) (sc := L2.defScope s_law) (by decide +kernel)) (fun _ _ _ _ _ => (pg_m (pg_name (i := 11) sc_law.nd rfl (by first | exact Or.inl rfl | exact Or.inr rfl)))) (fun _ _ _ _ _ => pts_nilM) (fun _ _ _ _ _ => (pe_m (pe_dget (hu_of hr) (pe_mt0 F_Code_heights hr (by decide) (pv 6)) (pv 11) (fun _ _ => rfl)))))
    (pss_cons (ps_if (PW.pt (pw_or (pt_cmpR op_ne (pe_callTy (r := rStrD K) (call_strD hs hr) (by rfl) T.b_str (by decide +kernel) (pa_cons (pe_mt0 F_Code_blocks hr (by decide) (pv 6)) pa_nil)) (pe_callTy (r := rStrD K) (call_strD hs hr) (by rfl) T.b_str (by decide +kernel) (pa_cons (pv 5) pa_nil)) (nomark _)) (pw_or1 (pt_cmpR op_ne (pe_callTy (r := rStrD K) (call_strD hs hr) (by rfl) T.b_str (by decide +kernel) (pa_cons (pv 10) pa_nil)) (pe_callTy (r := rStrD K) (call_strD hs hr) (by rfl) T.b_str (by decide +kernel) (pa_cons (pe_lc rfl sc_law.nd (pi_listK (K := K) (pv 8)) (blkOk_by (own := [("_law_label", 11)]) (N := ["_law_script", "_law_by", "_law_state", "_law_others", "_law_turn", "_law_blocks", "_law_code_here", "_law_highs", "_law_labels", "_law_block", "_law_mine", "_law_label", "_law_cap", "_law_loop"]) (sc := L2.defScope s_law) (by decide +kernel)) (fun _ _ _ _ _ => (pg_m (pg_name (i := 11) sc_law.nd rfl (by first | exact Or.inl rfl | exact Or.inr rfl)))) (fun _ _ _ _ _ => pts_nilM) (fun _ _ _ _ _ => (pe_m (pe_dget (hu_of hr) (pv 7) (pv 11) (fun _ _ => rfl))))) pa_nil)) (nomark _))))) (pss_one (ps_ret pe_bl)) pss_nil)
    (pss_cons (ps_if (PW.pt (pw_or (pt_cmpR (r := rNeD K) (op_neD hr.units) (pe_callTy (r := rListD) (call_list_dK rfl) (by rfl) T.b_list (by decide +kernel) (pa_cons (pe_mt0 F_Code_heights hr (by decide) (pv 6)) pa_nil)) (pv 8) (nomark _)) (pw_or1 (pt_cmpR op_ne (pe_callB (r := rLenO (He.ga K "Code") (sp_Code___len__ K)) (call_lenO F_Code___len__ hr (by decide)) (by rfl) T.b_len (by decide +kernel) (pa_cons (pv 6) pa_nil)) (pe_callB (r := rSum K) (cr_sum rfl) (by rfl) T.b_sum (by decide +kernel) (pa_cons (pe_lc rfl sc_law.nd (pi_listK (K := K) (pv 5)) (blkOk_by (own := [("_law_block", 9)]) (N := ["_law_script", "_law_by", "_law_state", "_law_others", "_law_turn", "_law_blocks", "_law_code_here", "_law_highs", "_law_labels", "_law_block", "_law_mine", "_law_label", "_law_cap", "_law_loop"]) (sc := L2.defScope s_law) (by decide +kernel)) (fun _ _ _ _ _ => (pg_m (pg_name (i := 9) sc_law.nd rfl (by first | exact Or.inl rfl | exact Or.inr rfl)))) (fun _ _ _ _ _ => pts_nilM) (fun _ _ _ _ _ => (pe_m (pe_op op_add (pe_callB (r := rLenQ K) call_lenQ (by rfl) T.b_len (by decide +kernel) (pa_cons (pe_ix (r := rIx K) ix_seq (pv 9) pe_int (fun _ _ => rfl)) pa_nil)) pe_int)))) pa_nil)) (nomark _))))) (pss_one (ps_ret pe_bl)) pss_nil)
    (pss_one (ps_for PassesOwn.never rfl (pi_tupK (K := K) (pe_tup (pa_cons pe_int (pa_cons (pe_c F__law_next hr (by decide) (by rfl) (pa_cons (pv 2) (pa_cons pe_int pa_nil))) pa_nil)))) (pg_name (i := 12) sc_law.nd rfl (by first | exact Or.inl rfl | exact Or.inr rfl)) (pss_one (ps_if (pt_not (pt_val (pe_cG F__law_right hs hr (by decide) (by rfl) (pa_cons (pv 5) (pa_cons (pe_c F__law_worths hr (by decide) (by rfl) (pa_cons (pv 2) pa_nil)) (pa_cons (pv 12) pa_nil)))))) (pss_one (ps_ret pe_bl)) pss_nil))))))))) pss_nil)))))))))
    (pss_cons (ps_set (i := 13) sc_law.nd rfl (by first | exact Or.inl rfl | exact Or.inr rfl) (pl_lst (K := K) (pls_cons (pl_tup (pls_cons pl_str (pls_cons (pl_lst (pls_cons (pl_tup (pls_cons pl_str pls_nil)) pls_nil)) (pls_cons (pl_tup (pls_cons pl_str (pls_cons pl_str pls_nil))) pls_nil)))) pls_nil)))
    (pss_cons (ps_set (i := 13) sc_law.nd rfl (by first | exact Or.inl rfl | exact Or.inr rfl) (pe_op (r := rCatS K) op_catS (pv 13) (pl_lst (K := K) (pls_cons (pl_tup (pls_cons pl_str (pls_cons (pl_lst (pls_cons (pl_tup (pls_cons pl_str pls_nil)) (pls_cons (pl_tup (pls_cons pl_str pls_nil)) (pls_cons (pl_tup (pls_cons pl_str (pls_cons pl_int pls_nil))) (pls_cons (pl_tup (pls_cons pl_str pls_nil)) (pls_cons (pl_tup (pls_cons pl_str pls_nil)) pls_nil)))))) (pls_cons (pl_tup (pls_cons pl_str (pls_cons pl_str (pls_cons pl_str pls_nil)))) pls_nil)))) pls_nil))))
    (pss_cons (ps_expr (pe_bm PySem.F.plainAttrs_list PySem.F.slot_list_append PySem.F.type_list_append mt_append (pv 13) (pa_cons (pl_tup (K := K) (pls_cons pl_str (pls_cons (pl_lst (pls_cons (pl_tup (pls_cons pl_str (pls_cons pl_int pls_nil))) (pls_cons (pl_tup (pls_cons pl_str pls_nil)) (pls_cons (pl_tup (pls_cons pl_str pls_nil)) (pls_cons (pl_tup (pls_cons pl_str pls_nil)) pls_nil))))) (pls_cons (pl_tup (pls_cons pl_str pls_nil)) pls_nil)))) pa_nil)))
    (pss_cons (ps_if (pt_cmpR (r := rNeD K) (op_neD hr.units) (pe_c F__law_words hr (by decide) (by rfl) (pa_cons (pe_callKD F_run hr (by decide) (by rfl) 1 ["worths"] [("most", .int 500)] (fun us mv ws => ((us ++ ws) ++ mv)) (fun z => by cases z) (fun q hq => by simp at hq ⊢; simp [hq]) (fun r1 r2 r3 => ((r1.append r3).append r2)) (fun _ _ _ _ _ _ us mv ws l1 l2 l3 => match us, mv, ws, l1, l2, l3 with | [_], [_], [_], _, _, _ => (by (refine ⟨_, _, _, _, _, _, rfl, rfl, ?_⟩); (show _ = _); rfl)) (pa_cons (pe_mk M_Code hr (by decide) (by rfl) (pa_cons (pv 13) pa_nil)) pa_nil) (pk_cons (pl_lst (K := K) (pls_cons pl_int pls_nil)) pk_nil)) pa_nil)) (pl_tup (K := K) (pls_cons pl_str (pls_cons (pl_lst (pls_cons pl_int (pls_cons pl_int (pls_cons pl_int pls_nil)))) (pls_cons (pl_lst (pls_cons pl_int (pls_cons pl_int pls_nil))) (pls_cons pl_int pls_nil))))) (nomark _)) (pss_one (ps_ret pe_bl)) pss_nil)
    (pss_cons (ps_if (pt_cmpR (r := rNeD K) (op_neD hr.units) (pe_c F__law_words hr (by decide) (by rfl) (pa_cons (pe_callKD F_run hr (by decide) (by rfl) 1 ["most"] [("worths", .ref (kwdAt (He.ga K "run") "worths" K))] (fun us mv ws => ((us ++ mv) ++ ws)) (fun z => by cases z) (fun q hq => by simp at hq ⊢; simp [hq]) (fun r1 r2 r3 => ((r1.append r2).append r3)) (fun _ _ _ _ _ _ us mv ws l1 l2 l3 => match us, mv, ws, l1, l2, l3 with | [_], [_], [_], _, _, _ => (by (refine ⟨_, _, _, _, _, _, rfl, rfl, ?_⟩); (show _ = _); rfl)) (pa_cons (pe_mk M_Code hr (by decide) (by rfl) (pa_cons (pv 13) pa_nil)) pa_nil) (pk_cons pe_int pk_nil)) pa_nil)) (pl_tup (K := K) (pls_cons pl_str (pls_cons (pl_lst pls_nil) pls_nil))) (nomark _)) (pss_one (ps_ret pe_bl)) pss_nil)
    (pss_one (ps_ret (pe_cmpR (r := rEqD K) (op_eqD hr.units) (pe_c F__law_words hr (by decide) (by rfl) (pa_cons (pe_callKD F_run hr (by decide) (by rfl) 1 ["most"] [("worths", .ref (kwdAt (He.ga K "run") "worths" K))] (fun us mv ws => ((us ++ mv) ++ ws)) (fun z => by cases z) (fun q hq => by simp at hq ⊢; simp [hq]) (fun r1 r2 r3 => ((r1.append r2).append r3)) (fun _ _ _ _ _ _ us mv ws l1 l2 l3 => match us, mv, ws, l1, l2, l3 with | [_], [_], [_], _, _, _ => (by (refine ⟨_, _, _, _, _, _, rfl, rfl, ?_⟩); (show _ = _); rfl)) (pa_cons (pe_mk M_Code hr (by decide) (by rfl) (pa_cons (pv 13) pa_nil)) pa_nil) (pk_cons pe_int pk_nil)) pa_nil)) (pl_tup (K := K) (pls_cons pl_str (pls_cons (pl_lst pls_nil) (pls_cons pl_str (pls_cons pl_int pls_nil))))) (nomark _)))))))))), ?_⟩
  obtain ⟨sc, ns, rfl, hsc, hns, q⟩ := h
  have big : ∀ n : Nat, n ≤ 1000000 → n ≤ sizeLine := fun n h => by rw [sizeLine_eq]; omega
  refine seq_mid (fun σ' H' => ∃ o1 o2 o3 o4 o5 o6 o7 o8 o9 o10 o11 o12, σ' = [some (.ref sc), o1, o2, o3, o4, o5, o6, o7, o8, o9, o10, o11, o12, none]) (fun Kx yes0 => ?_) ?_
  · refine a_for ?_
    unfold L2.iRng3
    walk_at "rd"
    refine ⟨sc, _, rfl, .inl hsc, _, _, rfl, _, _, rfl, _, rfl, _, ⟨by decide, by decide, ?_, (Int.toNat_of_nonneg ?_).symm⟩, ?_⟩
    · rw [List.length_map]
      have q : ∀ k : _root_.Fin 70, Builtin.Range.small 0 (max 1 (min 36 (k.val : Int))) 12 = true := by decide +kernel
      exact q ⟨ns.length, by omega⟩
    · rw [List.length_map]
      have q : ∀ k : _root_.Fin 70, 0 ≤ Builtin.Range.rangeSize 0 (max 1 (min 36 (k.val : Int))) 12 := by decide +kernel
      exact q ⟨ns.length, by omega⟩
    refine for_go2 walk_rangeC (fun i σ H1 => ∃ o1 o2 o3 o4 o5 o6 o7 o8 o9 o10 o11 o12, σ = [some (.ref sc), o1, o2, o3, o4, o5, o6, o7, o8, o9, o10, o11, o12, none] ∧ SqL K H1 sc (ns.map V.int)) ⟨_, _, _, _, _, _, _, _, _, _, _, _, rfl, hsc⟩ (fun _ _ _ _ _ => trivial) ?_ ?_
    · rintro Pw yes i y σ H1 H2 hi ⟨o1, o2, o3, o4, o5, o6, o7, o8, o9, o10, o11, o12, rfl, hsc⟩ ⟨e0, ey⟩
      subst e0 ey
      walk_at "rd"
      refine ⟨big _ (by decide), fun st nst => ?_⟩
      have i0 : StI K (upd H2 st (.lst [.ref sc, .int (0 + (i : Nat) * 12), .int 0])) (upd H2 st (.lst [.ref sc, .int (0 + (i : Nat) * 12), .int 0])) st sc (0 + (i : Nat) * 12) ns := ⟨Sx.refl, ⟨0, by decide, upd_same⟩, sqL_same (same_new nst) hsc, by omega, ⟨0, by decide, upd_same⟩⟩
      generalize upd H2 st (.lst [.ref sc, .int (0 + (i : Nat) * 12), .int 0]) = H3 at *
      generalize (0 + (i : Nat) * 12 : Int) = by_ at *
      refine ⟨st, sc, by_, 6, ns, rfl, i0, by decide, by decide, fun H4 fo os i4 nfo dfo gos => ?_⟩
      replace gos : Blks os := gos
      walk_at "rd"
      refine a_for ?_
      walk_at "rd"
      refine ⟨by decide, by decide, ?_⟩
      refine for_go2 walk_range (fun j σ H5 => ∃ o4 o5 o6 o7 o8 o9 o10 o11 o12, σ = [some (.ref sc), some (.int by_), some (.ref st), some (.ref fo), o4, o5, o6, o7, o8, o9, o10, o11, o12, none] ∧ StI K H3 H5 st sc by_ ns ∧ Dp K (hide H5 [st]) (.ref fo) (blocksD os)) ⟨_, _, _, _, _, _, _, _, _, rfl, i4, dfo⟩ (fun _ _ _ _ _ => trivial) ?_ ?_
      · rintro Pw1 yes1 j y σ H5 H6 hj ⟨o4, o5, o6, o7, o8, o9, o10, o11, o12, rfl, i5, d5⟩ ⟨e0, ey⟩
        subst e0
        obtain ⟨jj, rfl⟩ : ∃ jj, y = V.int jj := ⟨_, ey⟩
        clear ey
        refine g_name ?_
        refine seq_mid (fun σ' H7 => ∃ f bs, σ' = [some (.ref sc), some (.int by_), some (.ref st), some (.ref fo), some (.int jj), some (.ref f), o6, o7, o8, o9, o10, o11, o12, none] ∧ StI K H3 H7 st sc by_ ns ∧ Dp K (hide H7 [st]) (.ref fo) (blocksD os) ∧ Dp K (hide H7 [st]) (.ref f) (blocksD bs) ∧ Blks bs) (fun Kx yes2 => ?_) ?_
        · walk_at "rd"
          refine ⟨st, sc, by_, 6, ns, rfl, i5.here, by decide, by decide, fun H7 f bs i7 nf df gbs => ?_⟩
          exact yes2 _ _ ⟨f, bs, rfl, i5.over i7, Dp.mono i7.hid d5, df, gbs⟩
        rintro σ' H7 ⟨f, bs, rfl, i7, d5, df, gbs⟩
        clear i5
        refine seq_mid (fun σ' H8 => σ' = [some (.ref sc), some (.int by_), some (.ref st), some (.ref fo), some (.int jj), some (.ref f), o6, o7, o8, o9, o10, o11, o12, none] ∧ Same H7 H8) (fun Kx yes2 => ?_) ?_
        · walk_at "rd"
          refine ⟨big _ (by decide), fun p np => a_neNil (Dp.mono same_show (Dp.mono (Same.hide (same_new np) _) df)) gbs.shaped upd_same ?_⟩
          have s1 := same_new (o := HO.lst []) np
          generalize upd H7 p (HO.lst []) = H8 at *
          refine ⟨_, rfl, ?_⟩
          rcases gbs with rfl | ⟨h, G, _⟩
          · exact yes2 _ _ ⟨rfl, s1⟩
          rw [if_pos (by obtain ⟨b, l, rfl⟩ : ∃ b l, bs = b :: l := by
                           cases bs with
                           | nil => exact absurd G.one (by simp)
                           | cons b l => exact ⟨b, l, rfl⟩
                         rfl)]
          refine ⟨big _ (by decide), fun p2 np2 => a_neNil (Dp.mono same_show (Dp.mono (Same.hide (s1.trans (same_new np2)) _) d5)) gos.shaped upd_same ?_⟩
          have s2 := s1.trans (same_new (o := HO.lst []) np2)
          generalize upd H8 p2 (HO.lst []) = H9 at *
          refine ⟨_, rfl, ?_⟩
          rcases gos with rfl | ⟨g, J, _⟩
          · exact yes2 _ _ ⟨rfl, s2⟩
          rw [if_pos (by obtain ⟨b, l, rfl⟩ : ∃ b l, os = b :: l := by
                           cases os with
                           | nil => exact absurd J.one (by simp)
                           | cons b l => exact ⟨b, l, rfl⟩
                         rfl)]
          have tk9 := i7.tk.same s2
          refine a_mkCode tk9 (Dp.mono (Same.hide s2 _) df) G fun H10 x s10 nx c10 => ?_
          refine a_mkCode (tk9.same s10) (Dp.mono (Same.hide (s2.trans s10) _) d5) J fun H11 x2 s11 nx2 c11 => ?_
          refine a_eqCode T (c10.mono s11) c11 G J ?_
          have s211 := s2.trans (s10.trans s11)
          refine a_eqD (Dp.mono (same_show.trans s211) df) (Dp.mono (same_show.trans s211) d5) G.shaped J.shaped ⟨rfl, ?_⟩
          rw [decide_eq_true rfl, if_neg (by decide)]
          refine a_mkCode (tk9.same (s10.trans s11)) (Dp.mono (Same.hide s211 _) d5) J fun H12 x3 s12 nx3 c12 => ?_
          obtain ⟨fa, fs, efo, hfs, hfa⟩ := dp_list (Dp.mono (Same.hide (s211.trans s12) [st]) d5)
          cases efo
          refine ⟨fo, fs, rfl, .inl (sqL_same same_show hfs), fun l nl => ?_⟩
          have s13 := same_new (o := HO.lst fs) nl
          have tk12 := (tk9.same (s10.trans s11)).same s12
          refine a_mkCode (tk12.same s13) (.lst (.inl (.inl (new_at tk12 nl))) (DpAll.mono (Same.hide s13 [st]) hfa)) J fun H14 x4 s14 nx4 c14 => ?_
          refine a_eqCode T (c12.mono (s13.trans s14)) c14 J J ?_
          rw [eqv_shaped J.shaped]
          exact ⟨_, rfl, yes2 _ _ ⟨rfl, s211.trans (s12.trans (s13.trans s14))⟩⟩
        · rintro σ' H8 ⟨rfl, s8⟩
          replace i7 := i7.grow s8
          replace d5 := Dp.mono (Same.hide s8 [st]) d5
          replace df := Dp.mono (Same.hide s8 [st]) df
          clear s8
          have fin : ∀ (H9 : Hp) (o6 o7 o8 o9 o10 o11 o12 : Option V), StI K H3 H9 st sc by_ ns → Dp K (hide H9 [st]) (.ref fo) (blocksD os) → Pw1 (j + 1) [some (.ref sc), some (.int by_), some (.ref st), some (.ref fo), some (.int jj), some (.ref f), o6, o7, o8, o9, o10, o11, o12, none] H9 := fun H9 o6 o7 o8 o9 o10 o11 o12 i9 e9 => yes1 _ _ _ ⟨_, _, _, _, _, _, _, _, _, rfl, i9, e9⟩
          refine if_mid (fun b H9 => Same H8 H9 ∧ (b = true → ∃ h, Good bs h ∧ Chain bs)) (fun Kx yes2 => ?_) (fun H9 m9 => ?_) (fun H9 m9 => ?_)
          · walk_at "rd"
            refine ⟨big _ (by decide), fun p np => a_neNil (Dp.mono same_show (Dp.mono (Same.hide (same_new np) _) df)) gbs.shaped upd_same ?_⟩
            refine ⟨_, rfl, yes2 _ _ ⟨same_new np, fun e => ?_⟩⟩
            rcases gbs with rfl | g
            · cases e
            · exact g
          rotate_left
          · walk_at "rd"
            exact fin _ _ _ _ _ _ _ _ (i7.grow m9.1) (Dp.mono (Same.hide m9.1 [st]) d5)
          obtain ⟨s9, hg⟩ := m9
          obtain ⟨h, G, C⟩ := hg rfl
          replace i7 := i7.grow s9
          replace d5 := Dp.mono (Same.hide s9 [st]) d5
          replace df := Dp.mono (Same.hide s9 [st]) df
          clear s9 hg
          refine seq_mid (fun σ' H10 => Same H9 H10 ∧ ∃ x d kvs, σ' = [some (.ref sc), some (.int by_), some (.ref st), some (.ref fo), some (.int jj), some (.ref f), some (.ref x), some (.ref d), o8, o9, o10, o11, o12, none] ∧ IsCode K H10 x bs h ∧ H10 d = some (.dK kvs) ∧ (∀ l ∈ bs.map Blk.label, valV kvs (Sum.inr l) = some (.int (h l)))) (fun Kx yes2 => ?_) ?_
          · walk_at "rd"
            refine a_mkCode i7.tk df G fun H10 x s10 nx c10 => ?_
            refine ⟨[st], .ref f, bs, h, rfl, i7.tk.same s10, Dp.mono (Same.hide s10 _) df, G, C, fun H11 d kvs s11 nd ed hv => ⟨big _ (by decide), fun p np => a_t2V (.inl (.inl upd_same)) ?_⟩⟩
            exact yes2 _ _ ⟨(s10.trans s11).trans (same_new np), x, d, kvs, rfl, (c10.mono s11).mono (same_new np), keep_at ed np, hv⟩
          rintro σ' H10 ⟨s10, x, d, kvs, rfl, c10, d10, hv⟩
          replace i7 := i7.grow s10
          replace d5 := Dp.mono (Same.hide s10 [st]) d5
          replace df := Dp.mono (Same.hide s10 [st]) df
          clear s10
          refine seq_mid (fun σ' H11 => Same H10 H11 ∧ ∃ la, σ' = [some (.ref sc), some (.int by_), some (.ref st), some (.ref fo), some (.int jj), some (.ref f), some (.ref x), some (.ref d), some (.ref la), o9, o10, o11, o12, none] ∧ H11 la = some (.lst ((bs.map Blk.label).map V.str))) (fun Kx yes2 => ?_) ?_
          · walk_at "rd"
            refine a_lc ?_
            walk_at "rd"
            obtain ⟨fa, fs, efo, hfs, hfa⟩ := dp_list df
            cases efo
            refine ⟨⟨fs, sqL_same same_show hfs⟩, fun D nD => ?_⟩
            refine lc_data (K := K) (ds := bs.map Blk.d) (ms := [st]) walk_list nD i7.tk (by rw [List.length_map, sizeLine_eq]; have := G.six; omega) hfa (fun H8 s8 => sqL_same (same_show.trans s8) hfs) (fun _ => true) (fun d => match d with
              | .tuple (x :: _) => x
              | _ => .none) (fun y d H8 hd8 s8 hD8 hy => ?_) (fun H8 ys s8 e8 hys => ?_)
            · obtain ⟨c, hc, rfl⟩ := List.mem_map.mp hd8
              walk_at "rd"
              exact ⟨fun z => z.elim, fun _ => a_ixTh hy atI_0 fun u hu => ⟨Same.refl _, hu⟩⟩
            · rw [List.filter_eq_self.mpr fun _ _ => rfl] at hys
              have e2 : ((bs.map Blk.d).map fun d => match d with
                | .tuple (x :: _) => x
                | _ => PyData.none) = (bs.map Blk.label).map PyData.str := by
                rw [List.map_map, List.map_map]
                rfl
              rw [e2] at hys
              cases DpAll.strs_inv hys
              exact yes2 _ _ ⟨s8, D, rfl, e8⟩
          rintro σ' H11 ⟨s11, la, rfl, e11⟩
          replace i7 := i7.grow s11
          replace d5 := Dp.mono (Same.hide s11 [st]) d5
          replace df := Dp.mono (Same.hide s11 [st]) df
          replace c10 := c10.mono s11
          replace d10 := s11 _ _ d10
          clear s11
          refine seq_mid (fun σ' H12 => Same H11 H12 ∧ ∃ mi, σ' = [some (.ref sc), some (.int by_), some (.ref st), some (.ref fo), some (.int jj), some (.ref f), some (.ref x), some (.ref d), some (.ref la), o9, some (.ref mi), o11, o12, none] ∧ H12 mi = some (.lst (((bs.map Blk.label).map h).map V.int))) (fun Kx yes2 => ?_) ?_
          · walk_at "rd"
            refine a_lc ?_
            walk_at "rd"
            refine ⟨⟨_, SqL.of e11⟩, fun D nD => ?_⟩
            refine lc_data (K := K) (ds := (bs.map Blk.label).map PyData.str) (ms := []) walk_list nD Tk.nil (by rw [List.length_map, List.length_map, sizeLine_eq]; have := G.six; omega) (DpAll.strs _) (fun H8 s8 => SqL.of (s8 _ _ e11)) (fun _ => true) (fun d => match d with
              | .str l => .int (h l)
              | _ => .none) (fun y d H8 hd8 s8 hD8 hy => ?_) (fun H8 ys s8 e8 hys => ?_)
            · obtain ⟨l, hl, rfl⟩ := List.mem_map.mp hd8
              cases hy
              walk_at "rd"
              have s08 := s8
              refine ⟨fun z => z.elim, fun _ => a_heights (c10.mono s8) G fun q nq => ⟨q, rfl, .int (h l), ?_, same_new nq, .int _⟩⟩
              have dg := DGet.k (k := Sum.inr l) (upd_same (H := H8) (a := q) (o := HO.dK (highs (bs.map Blk.label) h)))
              rw [highs_at hl] at dg
              exact dg
            · rw [List.filter_eq_self.mpr fun _ _ => rfl] at hys
              have e2 : (((bs.map Blk.label).map PyData.str).map fun d => match d with
                | .str l => .int (h l)
                | _ => PyData.none) = ((bs.map Blk.label).map h).map PyData.int := by
                simp only [List.map_map]
                rfl
              rw [e2] at hys
              cases DpAll.ints_inv hys
              exact yes2 _ _ ⟨s8, D, rfl, e8⟩
          rintro σ' H12 ⟨s12, mi, rfl, e12⟩
          replace i7 := i7.grow s12
          replace d5 := Dp.mono (Same.hide s12 [st]) d5
          replace df := Dp.mono (Same.hide s12 [st]) df
          replace c10 := c10.mono s12
          replace d10 := s12 _ _ d10
          replace e11 := s12 _ _ e11
          clear s12
          have gs := G.sho
          have is_ : Sho 1000 (.list (((bs.map Blk.label).map h).map PyData.int)) ∧ Shp 1 (.list (((bs.map Blk.label).map h).map PyData.int)) := by
            refine ⟨(sho_list (n := 11) fun d hd => ?_).mono (by simp only [List.length_map]; have := G.six; omega), shp_ints⟩
            obtain ⟨n, hn, rfl⟩ := List.mem_map.mp hd
            obtain ⟨l, hl, rfl⟩ := List.mem_map.mp hn
            have := G.h_range hl
            exact sho_int (by omega) (by omega)
          refine seq_mid (fun σ' H13 => Same H12 H13 ∧ σ' = [some (.ref sc), some (.int by_), some (.ref st), some (.ref fo), some (.int jj), some (.ref f), some (.ref x), some (.ref d), some (.ref la), o9, some (.ref mi), o11, o12, none]) (fun Kx yes2 => ?_) ?_
          · walk_at "rd"
            refine a_blocks c10 G fun H13 b13 s13 db13 => ?_
            refine a_str db13 gs.1 (by decide) gs.2 (by decide) ?_
            obtain ⟨fa, fs, efo, hfs, hfa⟩ := dp_list df
            cases efo
            refine a_str (Dp.mono (same_show.trans s13) df) gs.1 (by decide) gs.2 (by decide) ⟨rfl, ?_⟩
            rw [if_neg (by simp)]
            refine a_str (.lst (SqL.of (s13 _ _ e12)) (DpAll.ints _)) is_.1 (by decide) is_.2 (by decide) ?_
            refine a_lc ?_
            walk_at "rd"
            refine ⟨⟨_, SqL.of (s13 _ _ e11)⟩, fun D nD => ?_⟩
            refine lc_data (K := K) (ds := (bs.map Blk.label).map PyData.str) (ms := []) walk_list nD Tk.nil (by rw [List.length_map, List.length_map, sizeLine_eq]; have := G.six; omega) (DpAll.strs _) (fun H8 s8 => SqL.of (s8 _ _ (s13 _ _ e11))) (fun _ => true) (fun d => match d with
              | .str l => .int (h l)
              | _ => .none) (fun y d H8 hd8 s8 hD8 hy => ?_) (fun H8 ys s8 e8 hys => ?_)
            · obtain ⟨l, hl, rfl⟩ := List.mem_map.mp hd8
              cases hy
              walk_at "rd"
              have dg := DGet.k (k := Sum.inr l) (s8 _ _ (s13 _ _ d10))
              rw [hv l hl] at dg
              exact ⟨fun z => z.elim, fun _ => ⟨_, dg, Same.refl _, .int _⟩⟩
            · rw [List.filter_eq_self.mpr fun _ _ => rfl] at hys
              have e2 : (((bs.map Blk.label).map PyData.str).map fun d => match d with
                | .str l => .int (h l)
                | _ => PyData.none) = ((bs.map Blk.label).map h).map PyData.int := by
                simp only [List.map_map]
                rfl
              rw [e2] at hys
              cases DpAll.ints_inv hys
              refine a_str (.lst (SqL.of e8) (DpAll.ints _)) is_.1 (by decide) is_.2 (by decide) ⟨rfl, ?_⟩
              rw [if_neg (by simp)]
              exact yes2 _ _ ⟨s13.trans s8, rfl⟩
          rintro σ' H13 ⟨s13, rfl⟩
          replace i7 := i7.grow s13
          replace d5 := Dp.mono (Same.hide s13 [st]) d5
          replace df := Dp.mono (Same.hide s13 [st]) df
          replace c10 := c10.mono s13
          replace e11 := s13 _ _ e11
          clear s13
          refine seq_mid (fun σ' H14 => Same H13 H14 ∧ σ' = [some (.ref sc), some (.int by_), some (.ref st), some (.ref fo), some (.int jj), some (.ref f), some (.ref x), some (.ref d), some (.ref la), o9, some (.ref mi), o11, o12, none]) (fun Kx yes2 => ?_) ?_
          · walk_at "rd"
            refine a_heights c10 G fun q nq => ⟨q, _, rfl, upd_same, fun l nl => ?_⟩
            have s14 := (same_new (o := HO.dK (highs (bs.map Blk.label) h)) nq).trans (same_new (o := HO.lst ((highs (bs.map Blk.label) h).map fun kv => kV kv.1)) nl)
            have ek : (highs (bs.map Blk.label) h).map (fun kv => kV kv.1) = (bs.map Blk.label).map V.str := by
              unfold highs
              rw [List.map_map]
              rfl
            rw [ek] at s14 ⊢
            have e14 : upd (upd H13 q (.dK (highs (bs.map Blk.label) h))) l (.lst ((bs.map Blk.label).map V.str)) l = some (.lst ((bs.map Blk.label).map V.str)) := upd_same
            generalize upd (upd H13 q (.dK (highs (bs.map Blk.label) h))) l (.lst ((bs.map Blk.label).map V.str)) = H14 at *
            refine a_neSelf (d := .list ((bs.map Blk.label).map PyData.str)) (.lst (SqL.of e14) (DpAll.strs _)) (.lst (SqL.of (s14 _ _ e11)) (DpAll.strs _)) (shaped_strs fun l hl => G.label_ok hl) ⟨_, rfl, ?_⟩
            rw [if_neg (by decide)]
            refine a_lenCode (c10.mono s14) G fun H15 s15 => ?_
            refine a_lc ?_
            walk_at "rd"
            obtain ⟨fa, fs, efo, hfs, hfa⟩ := dp_list (Dp.mono (Same.hide (s14.trans s15) [st]) df)
            cases efo
            refine ⟨⟨fs, sqL_same same_show hfs⟩, fun D nD => ?_⟩
            refine lc_data (K := K) (ds := bs.map Blk.d) (ms := [st]) walk_list nD (i7.tk.same (s14.trans s15)) (by rw [List.length_map, sizeLine_eq]; have := G.six; omega) hfa (fun H8 s8 => sqL_same (same_show.trans s8) hfs) (fun _ => true) (fun d => match d with
              | .tuple (_ :: .list rs :: _) => .int ((rs.length : Int) + 1)
              | _ => .none) (fun y d H8 hd8 s8 hD8 hy => ?_) (fun H8 ys s8 e8 hys => ?_)
            · obtain ⟨c, hc, rfl⟩ := List.mem_map.mp hd8
              walk_at "rd"
              refine ⟨fun z => z.elim, fun _ => a_ixTh hy atI_1 fun u hu => a_lenL (Dp.mono same_show hu) ⟨_, rfl, Same.refl _, .int _⟩⟩
            · rw [List.filter_eq_self.mpr fun _ _ => rfl] at hys
              have e2 : ((bs.map Blk.d).map fun d => match d with
                | .tuple (_ :: .list rs :: _) => .int ((rs.length : Int) + 1)
                | _ => PyData.none) = (bs.map fun b => ((b.rows.length + 1 : Nat) : Int)).map PyData.int := by
                rw [List.map_map, List.map_map]
                refine List.map_congr_left fun b _ => ?_
                show PyData.int (((b.rows.map Row.d).length : Int) + 1) = PyData.int ((b.rows.length + 1 : Nat) : Int)
                rw [List.length_map]
                rfl
              rw [e2] at hys
              refine a_sum (.lst (SqL.of e8) (DpAll.mono same_show hys)) ⟨rfl, ?_⟩
              have e3 : ((bs.map fun b => b.rows.length + 1).sum : Nat) = (bs.map fun b => ((b.rows.length + 1 : Nat) : Int)).sum := by
                clear hys e2
                generalize bs = cs
                induction cs with
                | nil => rfl
                | cons c cs ih => rw [List.map_cons, List.sum_cons, List.map_cons, List.sum_cons, ← ih]; rfl
              rw [e3, if_neg (by simp)]
              exact yes2 _ _ ⟨s14.trans (s15.trans s8), rfl⟩
          rintro σ' H14 ⟨s14, rfl⟩
          replace i7 := i7.grow s14
          replace d5 := Dp.mono (Same.hide s14 [st]) d5
          replace df := Dp.mono (Same.hide s14 [st]) df
          clear s14 e11 c10
          refine a_for ?_
          walk_at "rd"
          refine a_next i7.here (by decide) fun H15 v i15 sx15 v0 v1 => ⟨big _ (by decide), fun p np => ⟨⟨_, SqT.of upd_same⟩, ?_⟩⟩
          replace d5 := Dp.mono i15.hid d5
          replace df := Dp.mono i15.hid df
          replace i7 := (i7.over i15).grow (same_new (o := HO.tup [V.int 500, V.int v]) np)
          replace d5 := Dp.mono (Same.hide (same_new (o := HO.tup [V.int 500, V.int v]) np) [st]) d5
          replace df := Dp.mono (Same.hide (same_new (o := HO.tup [V.int 500, V.int v]) np) [st]) df
          have ep : upd H15 p (HO.tup [V.int 500, V.int v]) p = some (HO.tup [V.int 500, V.int v]) := upd_same
          generalize upd H15 p (HO.tup [V.int 500, V.int v]) = H16 at *
          clear i15 sx15 np
          refine for_go2 (walk_tup (xs := [V.int 500, V.int v])) (fun m σ H17 => ∃ o12, σ = [some (.ref sc), some (.int by_), some (.ref st), some (.ref fo), some (.int jj), some (.ref f), some (.ref x), some (.ref d), some (.ref la), o9, some (.ref mi), o11, o12, none] ∧ StI K H3 H17 st sc by_ ns ∧ Dp K (hide H17 [st]) (.ref fo) (blocksD os) ∧ Dp K (hide H17 [st]) (.ref f) (blocksD bs) ∧ H17 p = some (.tup [.int 500, .int v])) ⟨_, rfl, i7, d5, df, ep⟩ (fun _ _ _ _ q => by
            obtain ⟨_, _, _, _, _, q⟩ := q
            exact SqT.of q) ?_ ?_
          · rintro Pw2 yes3 m y σ H17 H18 hm ⟨o12, rfl, i17, d17, f17, p17⟩ ⟨e0, ey⟩
            subst e0
            obtain ⟨cap, rfl, hcap⟩ : ∃ cap : Nat, y = V.int cap ∧ cap ≤ 500 := by
              have hmem := List.mem_of_getElem? (show ([V.int 500, V.int v] : List V)[m]? = some y from ey)
              simp only [List.mem_cons, List.not_mem_nil, or_false] at hmem
              rcases hmem with rfl | rfl
              · exact ⟨500, rfl, Nat.le_refl _⟩
              · exact ⟨v.toNat, by rw [Int.toNat_of_nonneg v0], by omega⟩
            have notst : p ∉ [st] := fun z => by
              obtain ⟨k, _, ek⟩ := i17.now
              rw [List.mem_singleton.mp z, ek] at p17
              cases p17
            walk_at "rd"
            refine ⟨st, sc, by_, ns, rfl, i17.here, fun H19 fw ws i19 nfw efw hws hl => ?_⟩
            replace d17 := Dp.mono i19.hid d17
            replace f17 := Dp.mono i19.hid f17
            replace p17 := i19.s0 _ _ notst p17
            refine ⟨[st], .ref f, fw, bs, h, ws, cap, rfl, i19.tk, f17, G, SqL.of efw, hl, hws, hcap, fun H20 s20 => ⟨_, rfl, ?_⟩⟩
            rw [if_neg (by decide)]
            exact yes3 _ _ _ ⟨_, rfl, (i17.over i19).grow s20, Dp.mono (Same.hide s20 [st]) d17, Dp.mono (Same.hide s20 [st]) f17, s20 _ _ p17⟩
          · rintro σ H17 ⟨o12, rfl, i17, d17, f17, p17⟩
            exact fin _ _ _ _ _ _ _ _ i17 d17
      · rintro σ H5 ⟨o4, o5, o6, o7, o8, o9, o10, o11, o12, rfl, i5, d5⟩
        exact yes _ _ _ ⟨_, _, _, _, _, _, _, _, _, _, _, _, rfl, i5.sqL⟩
    · rintro σ H1 ⟨o1, o2, o3, o4, o5, o6, o7, o8, o9, o10, o11, o12, rfl, hsc⟩
      exact yes0 _ _ ⟨_, _, _, _, _, _, _, _, _, _, _, _, rfl⟩
  rintro σ' H' ⟨o1, o2, o3, o4, o5, o6, o7, o8, o9, o10, o11, o12, rfl⟩
  walk_at "rd"
  refine a_lit rfl (blocksD (loopB.take 1)) rfl fun H1 v1 s1 d1 => ?_
  refine a_lit rfl (blocksD ((loopB.drop 1).take 1)) rfl fun H2 v2 s2 d2 => ?_
  refine a_cat (Dp.mono s2 d1) d2 (big _ (by decide)) fun p xs np hxs => ⟨.inl ⟨rfl, _, SqL.of upd_same⟩, ?_⟩
  refine ⟨[p], fun _ => .none, Tk.cons upd_same Tk.nil, VarsAt.nil, fun H3 v3 s3 d3 => ?_⟩
  have e3 : H3 p = some (.lst xs) := s3 _ _ upd_same
  refine ⟨p, xs, v3, rfl, rfl, e3, by rw [DpAll.length hxs, sizeLine_eq]; decide, ?_⟩
  have hx3 : DpAll K (hide (upd H3 p (.lst (xs ++ [v3]))) [p]) (xs ++ [v3]) (loopB.map Blk.d) := by
    rw [hide_upd (List.mem_singleton.mpr rfl)]
    refine DpAll.append (ds := (loopB.take 2).map Blk.d) (es := [(⟨"c", [.put 300, .same, .times, .swap], .stop⟩ : Blk).d]) (DpAll.mono (fun b o e => ?_) hxs) (.cons d3 .nil)
    have nb : b ∉ [p] := fun z => by rw [List.mem_singleton.mp z, np] at e; cases e
    rw [hide_at nb]
    exact s3 _ _ (same_new np _ _ e)
  have d4 : Dp K (upd H3 p (.lst (xs ++ [v3]))) (.ref p) (blocksD loopB) := .lst (SqL.of upd_same) (DpAll.mono same_show hx3)
  generalize upd H3 p (.lst (xs ++ [v3])) = H4 at *
  unfold L2.tCallN
  walk_at "rd"
  have hid0 : ∀ {H : Hp} {v : V} {d : PyData}, Dp K H v d → Dp K (hide H []) v d := fun h => by rw [hide_nil]; exact h
  have wrd : ∀ (o : Outcome), OutOk loopB 500 o → SeqAt.shaped (outD o) = true := fun o ok => shaped_of (out_sho loopGood ok (by decide)).2 (by decide)
  refine a_mkCode Tk.nil (hid0 d4) loopGood fun H5 x5 s5 n5 c5 => ?_
  refine a_lit rfl (.list [.int 3]) rfl fun H6 v6 s6 d6 => ?_
  obtain ⟨a6, y6, rfl, hs6, ha6⟩ := dp_list d6
  have w3 : Worths [3] := .one (by decide)
  have w0 : Worths [] := fun _ h => nomatch h
  cases DpAll.ints_inv (ns := [3]) ha6
  refine ⟨x5, .ref a6, loopB, loopH, [3], 500, rfl, c5.mono s6, loopGood, ⟨a6, rfl, .inl hs6⟩, by rw [sizeLine_eq]; decide, w3, by decide, fun H7 q7 s7 n7 a7 => ?_⟩
  refine ⟨q7, _, _, rfl, a7, fun H8 a8 s8 d8 => ?_⟩
  refine a_lit rfl (outD (.ran [3, 2, 1] [24464, 0] 25)) rfl fun H9 v9 s9 d9 => ?_
  rw [loop1] at d8
  refine a_neSelf (Dp.mono s9 d8) d9 (wrd _ (by rw [← loop1]; exact outcome_ok loopGood w3)) ⟨_, rfl, ?_⟩
  rw [if_neg (by decide)]
  have s49 := s5.trans (s6.trans (s7.trans (s8.trans s9)))
  have d10 := Dp.mono s49 d4
  clear d8 d9 s5 s6 s7 s8 s49
  refine a_mkCode Tk.nil (hid0 d10) loopGood fun H5 x5 s5 n5 c5 => ?_
  refine ⟨x5, _, loopB, loopH, [], 0, rfl, c5, loopGood, ⟨_, rfl, .inr (T.e_run_worths H5)⟩, by rw [sizeLine_eq]; decide, w0, by decide, fun H7 q7 s7 n7 a7 => ?_⟩
  refine ⟨q7, _, _, rfl, a7, fun H8 a8 s8 d8 => ?_⟩
  refine a_lit rfl (outD (.spent [])) rfl fun H9 v9 s9 d9 => ?_
  rw [loop2] at d8
  refine a_neSelf (Dp.mono s9 d8) d9 (wrd _ ⟨Nat.zero_le _, w0⟩) ⟨_, rfl, ?_⟩
  rw [if_neg (by decide)]
  have s49 := s5.trans (s7.trans (s8.trans s9))
  have d11 := Dp.mono s49 d10
  clear d8 d9 s5 s7 s8 s49
  refine a_mkCode Tk.nil (hid0 d11) loopGood fun H5 x5 s5 n5 c5 => ?_
  refine ⟨x5, _, loopB, loopH, [], 5, rfl, c5, loopGood, ⟨_, rfl, .inr (T.e_run_worths H5)⟩, by rw [sizeLine_eq]; decide, w0, by decide, fun H7 q7 s7 n7 a7 => ?_⟩
  refine ⟨q7, _, _, rfl, a7, fun H8 a8 s8 d8 => ?_⟩
  refine a_lit rfl (outD (.dry [] "a" 0)) rfl fun H9 v9 s9 d9 => ?_
  rw [loop3] at d8
  exact a_eqSelf (Dp.mono s9 d8) d9 (wrd _ (by rw [← loop3]; have ok := outcome_ok loopGood w0 (most := 5); rw [loop3] at ok ⊢; exact ⟨Nat.zero_le _, w0, ok.2.2.1, by decide⟩)) (q _)
end
end Pb

/-! Z1 -/
set_option Elab.async false
set_option linter.all false
set_option maxRecDepth 100000
set_option maxHeartbeats 4000000
namespace Pb
open PySem PySem.Spec PyProof.Rows L2
open C8 (Cal Mak Met pe_c pe_mk pe_mt pe_mt0 pe_gc fnScope_by)
/-! short words -/
local macro_rules | `(tactic| walk_at "rd") => `(tactic| try simp only [tVar, tC, tAdd, tSub, t2I, tIsN, tNotN, tB, tAnd, tOr, tNot, tAndV, tOrV, tNotV, tIf, tSeq, tPar, tPar3, tNext, tBreak, tCont, tDrop, tRet, tRetN, tIfS, gName, gNil, gCons, gTup, gSub, tAsg, tAug, ipI, iList, iTup, iRng1, iRng2, iStr, iEnum, iZip,
  tOp, tUn, rI, rI0, rU, tTest, tChain, tFld, sFld, sFldAug, L2.rAdd, L2.rSub, tNil, tCons, tTup, tLst, tCall, tMeth, tMake, tCB, tNoPart, tPart, tSl, tBM0, tBM, tDGet, tDGet1, tDGet2, tDIn, tDNotIn, sDPut, tDNewK, rEq, rNe, scal_ii, scal_ss, scal_bb, scal_nn, scal_ni, scal_in, scal_ns, scal_sn, scal_is, scal_si, List.take_succ_cons, List.take_zero, List.drop_succ_cons, List.drop_zero, upd_same, upd_upd, and_assoc, tKGet, gStar, tDisp, tPairs, tYes,
  L2.start, List.map_cons, List.map_nil, List.length_cons, List.length_nil, List.cons_append, List.nil_append, List.append_nil, List.replicate, Nat.sub_self, Nat.add_sub_cancel, Nat.reduceAdd, Nat.reduceSub, List.set_cons_zero, List.set_cons_succ, List.getElem?_cons_zero, List.getElem?_cons_succ,
  Option.some.injEq, V.int.injEq, V.bl.injEq, V.str.injEq, V.ref.injEq, exists_eq_left', exists_eq_left, exists_eq', exists_eq, true_and, and_true, if_true, if_false, Bool.false_eq_true, List.cons.injEq, Bool.not_true, Bool.not_false, cxK, cxP, cxW, ite_true, ite_false, wipe, reduceCtorEq, and_self, decide_true, decide_false, exists_and_left, exists_const, decide_eq_true_eq])
local macro_rules | `(tactic| walk_at "len") => `(tactic| (intro vs H Q E h; repeat (first | (obtain ⟨e, _⟩ := h; subst e; rfl) | (obtain ⟨_, h⟩ := h))))
local macro_rules | `(tactic| walk_at "wd") => `(tactic| simp (config := {decide := true}) only [V.str.injEq, scal_ss, true_and, if_true, if_false])

def dd_is_whole : He.DefD := ⟨("is_whole", none), "is_whole", "is_whole", L2.defArgs s_is_whole, L2.defBody s_is_whole, L2.defScope s_is_whole, [], []⟩
def dd_within : He.DefD := ⟨("within", none), "within", "within", L2.defArgs s_within, L2.defBody s_within, L2.defScope s_within, [], []⟩
def dd_is_worth : He.DefD := ⟨("is_worth", none), "is_worth", "is_worth", L2.defArgs s_is_worth, L2.defBody s_is_worth, L2.defScope s_is_worth, [], []⟩
def dd_is_name : He.DefD := ⟨("is_name", none), "is_name", "is_name", L2.defArgs s_is_name, L2.defBody s_is_name, L2.defScope s_is_name, [], []⟩
def dd_is_tuple_of : He.DefD := ⟨("is_tuple_of", none), "is_tuple_of", "is_tuple_of", L2.defArgs s_is_tuple_of, L2.defBody s_is_tuple_of, L2.defScope s_is_tuple_of, [], []⟩
def dd_is_row : He.DefD := ⟨("is_row", none), "is_row", "is_row", L2.defArgs s_is_row, L2.defBody s_is_row, L2.defScope s_is_row, [], []⟩
def dd_is_end : He.DefD := ⟨("is_end", none), "is_end", "is_end", L2.defArgs s_is_end, L2.defBody s_is_end, L2.defScope s_is_end, [], []⟩
def dd_touches : He.DefD := ⟨("touches", none), "touches", "touches", L2.defArgs s_touches, L2.defBody s_touches, L2.defScope s_touches, [], []⟩
def dd_change : He.DefD := ⟨("change", none), "change", "change", L2.defArgs s_change, L2.defBody s_change, L2.defScope s_change, [], []⟩
def dd_brought_back : He.DefD := ⟨("brought_back", none), "brought_back", "brought_back", L2.defArgs s_brought_back, L2.defBody s_brought_back, L2.defScope s_brought_back, [], []⟩
def dd_summed : He.DefD := ⟨("summed", none), "summed", "summed", L2.defArgs s_summed, L2.defBody s_summed, L2.defScope s_summed, [], []⟩
def dd_done_on : He.DefD := ⟨("done_on", none), "done_on", "done_on", L2.defArgs s_done_on, L2.defBody s_done_on, L2.defScope s_done_on, [], []⟩
def dd_Ran___init__ : He.DefD := ⟨("Ran", some "__init__"), "__init__", "Ran.__init__", L2.defArgs s_Ran___init__, L2.defBody s_Ran___init__, L2.defScope s_Ran___init__, [], []⟩
def dd_Dry___init__ : He.DefD := ⟨("Dry", some "__init__"), "__init__", "Dry.__init__", L2.defArgs s_Dry___init__, L2.defBody s_Dry___init__, L2.defScope s_Dry___init__, [], []⟩
def dd_Spent___init__ : He.DefD := ⟨("Spent", some "__init__"), "__init__", "Spent.__init__", L2.defArgs s_Spent___init__, L2.defBody s_Spent___init__, L2.defScope s_Spent___init__, [], []⟩
def dd_Tally___init__ : He.DefD := ⟨("Tally", some "__init__"), "__init__", "Tally.__init__", L2.defArgs s_Tally___init__, L2.defBody s_Tally___init__, L2.defScope s_Tally___init__, [], []⟩
def dd_Tally_step : He.DefD := ⟨("Tally", some "step"), "step", "Tally.step", L2.defArgs s_Tally_step, L2.defBody s_Tally_step, L2.defScope s_Tally_step, [], []⟩
def dd_Tally_tell : He.DefD := ⟨("Tally", some "tell"), "tell", "Tally.tell", L2.defArgs s_Tally_tell, L2.defBody s_Tally_tell, L2.defScope s_Tally_tell, [], []⟩
def dd_Tally_hear : He.DefD := ⟨("Tally", some "hear"), "hear", "Tally.hear", L2.defArgs s_Tally_hear, L2.defBody s_Tally_hear, L2.defScope s_Tally_hear, [], []⟩
def dd_check_run : He.DefD := ⟨("check_run", none), "check_run", "check_run", L2.defArgs s_check_run, L2.defBody s_check_run, L2.defScope s_check_run, [], []⟩
def dd_next_label : He.DefD := ⟨("next_label", none), "next_label", "next_label", L2.defArgs s_next_label, L2.defBody s_next_label, L2.defScope s_next_label, [], []⟩
def dd_run : He.DefD := ⟨("run", none), "run", "run", L2.defArgs s_run, L2.defBody s_run, L2.defScope s_run, [], [("worths", .adr fun K => (kwdAt (He.ga K "run") "worths" K)), ("most", .int 500)]⟩
def dd_are_blocks : He.DefD := ⟨("are_blocks", none), "are_blocks", "are_blocks", L2.defArgs s_are_blocks, L2.defBody s_are_blocks, L2.defScope s_are_blocks, [], []⟩
def dd_Code___init__ : He.DefD := ⟨("Code", some "__init__"), "__init__", "Code.__init__", L2.defArgs s_Code___init__, L2.defBody s_Code___init__, L2.defScope s_Code___init__, [], []⟩
def dd_Code___eq__ : He.DefD := ⟨("Code", some "__eq__"), "__eq__", "Code.__eq__", L2.defArgs s_Code___eq__, L2.defBody s_Code___eq__, L2.defScope s_Code___eq__, [], []⟩
def dd_Code___len__ : He.DefD := ⟨("Code", some "__len__"), "__len__", "Code.__len__", L2.defArgs s_Code___len__, L2.defBody s_Code___len__, L2.defScope s_Code___len__, [], []⟩
def dd_Code_find_heights : He.DefD := ⟨("Code", some "find_heights"), "find_heights", "Code.find_heights", L2.defArgs s_Code_find_heights, L2.defBody s_Code_find_heights, L2.defScope s_Code_find_heights, [], []⟩
def dd_Code_blocks : He.DefD := ⟨("Code", some "blocks"), "blocks", "Code.blocks", L2.defArgs s_Code_blocks, L2.defBody s_Code_blocks, L2.defScope s_Code_blocks, [], []⟩
def dd_Code_heights : He.DefD := ⟨("Code", some "heights"), "heights", "Code.heights", L2.defArgs s_Code_heights, L2.defBody s_Code_heights, L2.defScope s_Code_heights, [], []⟩
def dd_Code_first : He.DefD := ⟨("Code", some "first"), "first", "Code.first", L2.defArgs s_Code_first, L2.defBody s_Code_first, L2.defScope s_Code_first, [], []⟩
def dd__law_cell_at : He.DefD := ⟨("_law_cell_at", none), "_law_cell_at", "_law_cell_at", L2.defArgs s__law_cell_at, L2.defBody s__law_cell_at, L2.defScope s__law_cell_at, [], []⟩
def dd__law_draw : He.DefD := ⟨("_law_draw", none), "_law_draw", "_law_draw", L2.defArgs s__law_draw, L2.defBody s__law_draw, L2.defScope s__law_draw, [], []⟩
def dd__law_number : He.DefD := ⟨("_law_number", none), "_law_number", "_law_number", L2.defArgs s__law_number, L2.defBody s__law_number, L2.defScope s__law_number, [], []⟩
def dd__law_next : He.DefD := ⟨("_law_next", none), "_law_next", "_law_next", L2.defArgs s__law_next, L2.defBody s__law_next, L2.defScope s__law_next, [], []⟩
def dd__law_needs : He.DefD := ⟨("_law_needs", none), "_law_needs", "_law_needs", L2.defArgs s__law_needs, L2.defBody s__law_needs, L2.defScope s__law_needs, [], []⟩
def dd__law_rows : He.DefD := ⟨("_law_rows", none), "_law_rows", "_law_rows", L2.defArgs s__law_rows, L2.defBody s__law_rows, L2.defScope s__law_rows, [], []⟩
def dd__law_code : He.DefD := ⟨("_law_code", none), "_law_code", "_law_code", L2.defArgs s__law_code, L2.defBody s__law_code, L2.defScope s__law_code, [], []⟩
def dd__law_worths : He.DefD := ⟨("_law_worths", none), "_law_worths", "_law_worths", L2.defArgs s__law_worths, L2.defBody s__law_worths, L2.defScope s__law_worths, [], []⟩
def dd__law_back : He.DefD := ⟨("_law_back", none), "_law_back", "_law_back", L2.defArgs s__law_back, L2.defBody s__law_back, L2.defScope s__law_back, [], []⟩
def dd__law_step : He.DefD := ⟨("_law_step", none), "_law_step", "_law_step", L2.defArgs s__law_step, L2.defBody s__law_step, L2.defScope s__law_step, [], []⟩
def dd__law_ran : He.DefD := ⟨("_law_ran", none), "_law_ran", "_law_ran", L2.defArgs s__law_ran, L2.defBody s__law_ran, L2.defScope s__law_ran, [], []⟩
def dd__law_words : He.DefD := ⟨("_law_words", none), "_law_words", "_law_words", L2.defArgs s__law_words, L2.defBody s__law_words, L2.defScope s__law_words, [], []⟩
def dd__law_heights : He.DefD := ⟨("_law_heights", none), "_law_heights", "_law_heights", L2.defArgs s__law_heights, L2.defBody s__law_heights, L2.defScope s__law_heights, [], []⟩
def dd__law_right : He.DefD := ⟨("_law_right", none), "_law_right", "_law_right", L2.defArgs s__law_right, L2.defBody s__law_right, L2.defScope s__law_right, [], []⟩
def dd_law : He.DefD := ⟨("law", none), "law", "law", L2.defArgs s_law, L2.defBody s_law, L2.defScope s_law, [], []⟩
def hfn : List He.DefD := [dd_is_whole, dd_within, dd_is_worth, dd_is_name, dd_is_tuple_of, dd_is_row, dd_is_end, dd_touches, dd_change, dd_brought_back, dd_summed, dd_done_on, dd_Ran___init__, dd_Dry___init__, dd_Spent___init__, dd_Tally___init__, dd_Tally_step, dd_Tally_tell, dd_Tally_hear, dd_check_run, dd_next_label, dd_run, dd_are_blocks, dd_Code___init__, dd_Code___eq__, dd_Code___len__, dd_Code_find_heights, dd_Code_blocks, dd_Code_heights, dd_Code_first, dd__law_cell_at, dd__law_draw, dd__law_number, dd__law_next, dd__law_needs, dd__law_rows, dd__law_code, dd__law_worths, dd__law_back, dd__law_step, dd__law_ran, dd__law_words, dd__law_heights, dd__law_right, dd_law]
def hfa : List He.Fa := [.free "isinstance", .free "int", .free "bool", .free "str", .free "all", .free "len", .free "tuple", .free "list", .free "enumerate", .free "dict", .free "range", .free "min", .free "max", .free "sum", .str "LETTERS" "abcdefghijklmnopqrstuvwxyz", .int "LEAST" (-32768), .int "MOST_WORTH" (32767), .int "ROUND" (65536), .int "MOST_BLOCKS" (6), .int "MOST_ROWS" (12), .int "DEEPEST" (12), .glo "WORDS", .glo "SUMS", .glo "TOUCHES", .glo "CHANGES", .int "MOST" (500), .int "GREATEST_MOST" (100000), .glo "is_whole", .glo "within", .glo "is_worth", .glo "is_name", .glo "is_tuple_of", .glo "is_row", .glo "is_end", .glo "touches", .glo "change", .glo "brought_back", .glo "summed", .glo "done_on", .glo "check_run", .glo "next_label", .glo "run", .glo "are_blocks", .glo "_law_cell_at", .glo "_law_draw", .glo "_law_number", .glo "_law_next", .glo "_law_needs", .glo "_law_rows", .glo "_law_code", .glo "_law_worths", .glo "_law_back", .glo "_law_step", .glo "_law_ran", .glo "_law_words", .glo "_law_heights", .glo "_law_right", .glo "law", .glo "Answer", .cls "Answer", .glo "Ran", .cls "Ran", .noat "Ran" "told", .noat "Ran" "pile", .noat "Ran" "steps", .mkr "Ran", .glo "Dry", .cls "Dry", .noat "Dry" "told", .noat "Dry" "label", .noat "Dry" "row", .mkr "Dry", .glo "Spent", .cls "Spent", .noat "Spent" "told", .mkr "Spent", .glo "Tally", .cls "Tally", .noat "Tally" "worths", .noat "Tally" "most", .noat "Tally" "heard", .noat "Tally" "told_so_far", .noat "Tally" "steps_done", .mkr "Tally", .meth "Tally" "step", .meth "Tally" "tell", .meth "Tally" "hear", .glo "Code", .cls "Code", .noat "Code" "parts", .noat "Code" "table", .noat "Code" "high", .mkr "Code", .meth "Code" "__eq__", .meth "Code" "__len__", .meth "Code" "find_heights", .meth "Code" "blocks", .meth "Code" "heights", .meth "Code" "first"]
def hts : List He.Tab := [(fun K => He.ga K "TOUCHES", ["put", "hear", "same", "drop", "tell", "over", "swap", "if", "go", "stop"]), (fun K => He.ga K "CHANGES", ["put", "hear", "same", "over", "swap", "drop", "tell", "if", "go", "stop"])]
def exL (K : PySem.W.Frag) : List Bool := [He.tupB K "WORDS" [.str "put", .str "plus", .str "less", .str "times", .str "under", .str "same", .str "over", .str "swap", .str "drop", .str "tell", .str "hear"],
  He.tupB K "SUMS" [.str "plus", .str "less", .str "times", .str "under"],
  He.valsB K (He.ga K "TOUCHES") (c_TOUCHES.map fun z => (z.1, He.Dv.int z.2)),
  He.valsB K (He.ga K "CHANGES") (c_CHANGES.map fun z => (z.1, He.Dv.int z.2)),
  etB K (kwdAt (He.ga K "run") "worths" K),
  isaB K (He.ga K "Answer"),
  decide (PySem.W.kitOne K (.ref (He.ga K "Answer")) (.ref (He.ga K "Ran")) = some false),
  decide (PySem.W.kitOne K (.ref (He.ga K "Answer")) (.ref (He.ga K "Dry")) = some false),
  decide (PySem.W.kitOne K (.ref (He.ga K "Answer")) (.ref (He.ga K "Spent")) = some false),
  decide (PySem.W.kitOne K (.ref (He.ga K "Answer")) (.ref (He.ga K "Code")) = some false),
  decide (PySem.W.kitOne K (.ref (He.ga K "Answer")) (.ref (He.ga K "Answer")) = some true),
  isaB K (He.ga K "Ran"),
  decide (PySem.W.kitOne K (.ref (He.ga K "Ran")) (.ref (He.ga K "Ran")) = some true),
  decide (PySem.W.kitOne K (.ref (He.ga K "Ran")) (.ref (He.ga K "Dry")) = some false),
  decide (PySem.W.kitOne K (.ref (He.ga K "Ran")) (.ref (He.ga K "Spent")) = some false),
  decide (PySem.W.kitOne K (.ref (He.ga K "Ran")) (.ref (He.ga K "Code")) = some false),
  decide (PySem.W.kitOne K (.ref (He.ga K "Ran")) (.ref (He.ga K "Answer")) = some true),
  isaB K (He.ga K "Dry"),
  decide (PySem.W.kitOne K (.ref (He.ga K "Dry")) (.ref (He.ga K "Ran")) = some false),
  decide (PySem.W.kitOne K (.ref (He.ga K "Dry")) (.ref (He.ga K "Dry")) = some true),
  decide (PySem.W.kitOne K (.ref (He.ga K "Dry")) (.ref (He.ga K "Spent")) = some false),
  decide (PySem.W.kitOne K (.ref (He.ga K "Dry")) (.ref (He.ga K "Code")) = some false),
  decide (PySem.W.kitOne K (.ref (He.ga K "Dry")) (.ref (He.ga K "Answer")) = some true),
  isaB K (He.ga K "Spent"),
  decide (PySem.W.kitOne K (.ref (He.ga K "Spent")) (.ref (He.ga K "Ran")) = some false),
  decide (PySem.W.kitOne K (.ref (He.ga K "Spent")) (.ref (He.ga K "Dry")) = some false),
  decide (PySem.W.kitOne K (.ref (He.ga K "Spent")) (.ref (He.ga K "Spent")) = some true),
  decide (PySem.W.kitOne K (.ref (He.ga K "Spent")) (.ref (He.ga K "Code")) = some false),
  decide (PySem.W.kitOne K (.ref (He.ga K "Spent")) (.ref (He.ga K "Answer")) = some true),
  isaB K (He.ga K "Tally"),
  decide (PySem.W.kitOne K (.ref (He.ga K "Tally")) (.ref (He.ga K "Ran")) = some false),
  decide (PySem.W.kitOne K (.ref (He.ga K "Tally")) (.ref (He.ga K "Dry")) = some false),
  decide (PySem.W.kitOne K (.ref (He.ga K "Tally")) (.ref (He.ga K "Spent")) = some false),
  decide (PySem.W.kitOne K (.ref (He.ga K "Tally")) (.ref (He.ga K "Code")) = some false),
  decide (PySem.W.kitOne K (.ref (He.ga K "Tally")) (.ref (He.ga K "Answer")) = some false),
  isaB K (He.ga K "Code"),
  decide (PySem.W.kitOne K (.ref (He.ga K "Code")) (.ref (He.ga K "Ran")) = some false),
  decide (PySem.W.kitOne K (.ref (He.ga K "Code")) (.ref (He.ga K "Dry")) = some false),
  decide (PySem.W.kitOne K (.ref (He.ga K "Code")) (.ref (He.ga K "Spent")) = some false),
  decide (PySem.W.kitOne K (.ref (He.ga K "Code")) (.ref (He.ga K "Code")) = some true),
  decide (PySem.W.kitOne K (.ref (He.ga K "Code")) (.ref (He.ga K "Answer")) = some false)]
def hex (K : PySem.W.Frag) : Bool := (exL K).all id
theorem exAt {K : PySem.W.Frag} (h : hex K = true) (i : Nat) {b : Bool} (e : (exL K)[i]? = some b) : b = true := List.all_eq_true.mp h b (List.mem_of_getElem? e)
abbrev hk : PySem.W.Hook := He.hookX 6 hfa hfn hts [] hex
def hob (s : PySem.W.SharedT) : He.AlX := He.obsX 6 hfa hfn hts [] hex (HandSHeadRun.getT s)
theorem hob_eq (s : PySem.W.SharedT) : hob s = hk.obs s.abs := He.obsX_eq (HandSHeadRun.getT_eq s)
abbrev hR : PySem.W.OpenRow := PySem.W.OpenLaw.row PySem.Challenge.rw_pileboxes_k01_whole_runs
abbrev hq : Program := PySem.W.view hR.prog [59]
def hnames : List PySem.Str := (["LETTERS", "LEAST", "MOST_WORTH", "ROUND", "MOST_BLOCKS", "MOST_ROWS", "DEEPEST", "WORDS", "SUMS", "TOUCHES", "CHANGES", "is_whole", "within", "is_worth", "is_name", "is_tuple_of", "is_row", "is_end", "touches", "change", "brought_back", "summed", "done_on", "Answer", "Ran", "Dry", "Spent", "PileError", "BadWorths", "BadMost"] : List PySem.Str) ++ (["BadCode", "MOST", "GREATEST_MOST", "Tally", "check_run", "next_label", "run", "are_blocks", "Code", "_law_cell_at", "_law_draw", "_law_number", "_law_next", "_law_needs", "_law_rows", "_law_code", "_law_worths", "_law_back", "_law_step", "_law_ran", "_law_words", "_law_heights", "_law_right"] : List PySem.Str)
theorem runF (w : World) : HandSHeadRun.RunEq hR hq hk hob 12000 hnames (w.withFollow "special-get-raises" false) := by
  intro os
  kernel_rfl
theorem runT (w : World) : HandSHeadRun.RunEq hR hq hk hob 12000 hnames (w.withFollow "special-get-raises" true) := by
  intro os
  kernel_rfl
theorem hrun (w : World) : HandSHeadRun.RunEq hR hq hk hob 12000 hnames w := PySem.W.byRow2 "special-get-raises" runF runT w
theorem tx_of {w : World} {K : PySem.W.Frag} {h : Heap} {mg : Str → Option Value} (X : K.In h) (G : h.Ns mainGlobals mg) (c : He.SaysX hfa hfn hts [] hex w h K) : Tx w K mg where
  b_isinstance := He.free_ok X G (c.t.d.fact 0 (f := .free "isinstance") rfl)
  b_int := He.free_ok X G (c.t.d.fact 1 (f := .free "int") rfl)
  b_bool := He.free_ok X G (c.t.d.fact 2 (f := .free "bool") rfl)
  b_str := He.free_ok X G (c.t.d.fact 3 (f := .free "str") rfl)
  b_all := He.free_ok X G (c.t.d.fact 4 (f := .free "all") rfl)
  b_len := He.free_ok X G (c.t.d.fact 5 (f := .free "len") rfl)
  b_tuple := He.free_ok X G (c.t.d.fact 6 (f := .free "tuple") rfl)
  b_list := He.free_ok X G (c.t.d.fact 7 (f := .free "list") rfl)
  b_enumerate := He.free_ok X G (c.t.d.fact 8 (f := .free "enumerate") rfl)
  b_dict := He.free_ok X G (c.t.d.fact 9 (f := .free "dict") rfl)
  b_range := He.free_ok X G (c.t.d.fact 10 (f := .free "range") rfl)
  b_min := He.free_ok X G (c.t.d.fact 11 (f := .free "min") rfl)
  b_max := He.free_ok X G (c.t.d.fact 12 (f := .free "max") rfl)
  b_sum := He.free_ok X G (c.t.d.fact 13 (f := .free "sum") rfl)
  v_LETTERS := by obtain ⟨t, e⟩ := He.str_ok X G (c.t.d.fact 14 (f := .str "LETTERS" "abcdefghijklmnopqrstuvwxyz") rfl); exact ⟨_, e, t, rfl⟩
  v_LEAST := by obtain ⟨t, e⟩ := He.int_ok X G (c.t.d.fact 15 (f := .int "LEAST" (-32768)) rfl); exact ⟨_, e, t, rfl⟩
  v_MOST_WORTH := by obtain ⟨t, e⟩ := He.int_ok X G (c.t.d.fact 16 (f := .int "MOST_WORTH" (32767)) rfl); exact ⟨_, e, t, rfl⟩
  v_ROUND := by obtain ⟨t, e⟩ := He.int_ok X G (c.t.d.fact 17 (f := .int "ROUND" (65536)) rfl); exact ⟨_, e, t, rfl⟩
  v_MOST_BLOCKS := by obtain ⟨t, e⟩ := He.int_ok X G (c.t.d.fact 18 (f := .int "MOST_BLOCKS" (6)) rfl); exact ⟨_, e, t, rfl⟩
  v_MOST_ROWS := by obtain ⟨t, e⟩ := He.int_ok X G (c.t.d.fact 19 (f := .int "MOST_ROWS" (12)) rfl); exact ⟨_, e, t, rfl⟩
  v_DEEPEST := by obtain ⟨t, e⟩ := He.int_ok X G (c.t.d.fact 20 (f := .int "DEEPEST" (12)) rfl); exact ⟨_, e, t, rfl⟩
  v_WORDS := ⟨_, He.glo_ok X G (c.t.d.fact 21 (f := .glo "WORDS") rfl), rfl⟩
  t_WORDS := fun H => He.tupB_ok (vs := [.str "put", .str "plus", .str "less", .str "times", .str "under", .str "same", .str "over", .str "swap", .str "drop", .str "tell", .str "hear"]) (exAt c.more 0 rfl) H
  v_SUMS := ⟨_, He.glo_ok X G (c.t.d.fact 22 (f := .glo "SUMS") rfl), rfl⟩
  t_SUMS := fun H => He.tupB_ok (vs := [.str "plus", .str "less", .str "times", .str "under"]) (exAt c.more 1 rfl) H
  v_TOUCHES := ⟨_, He.glo_ok X G (c.t.d.fact 23 (f := .glo "TOUCHES") rfl), rfl⟩
  k_TOUCHES := c.t.tab 0 (t := (fun K => He.ga K "TOUCHES", ["put", "hear", "same", "drop", "tell", "over", "swap", "if", "go", "stop"])) rfl
  x_TOUCHES := fun z hz => by obtain ⟨u, e1, e2⟩ := He.valsB_ok (kvs := c_TOUCHES.map fun z => (z.1, He.Dv.int z.2)) (exAt c.more 2 rfl) (List.mem_map.mpr ⟨z, hz, rfl⟩); exact ⟨u, e1, e2⟩
  v_CHANGES := ⟨_, He.glo_ok X G (c.t.d.fact 24 (f := .glo "CHANGES") rfl), rfl⟩
  k_CHANGES := c.t.tab 1 (t := (fun K => He.ga K "CHANGES", ["put", "hear", "same", "over", "swap", "drop", "tell", "if", "go", "stop"])) rfl
  x_CHANGES := fun z hz => by obtain ⟨u, e1, e2⟩ := He.valsB_ok (kvs := c_CHANGES.map fun z => (z.1, He.Dv.int z.2)) (exAt c.more 3 rfl) (List.mem_map.mpr ⟨z, hz, rfl⟩); exact ⟨u, e1, e2⟩
  v_MOST := by obtain ⟨t, e⟩ := He.int_ok X G (c.t.d.fact 25 (f := .int "MOST" (500)) rfl); exact ⟨_, e, t, rfl⟩
  v_GREATEST_MOST := by obtain ⟨t, e⟩ := He.int_ok X G (c.t.d.fact 26 (f := .int "GREATEST_MOST" (100000)) rfl); exact ⟨_, e, t, rfl⟩
  g_is_whole := He.glo_ok X G (c.t.d.fact 27 (f := .glo "is_whole") rfl)
  D_is_whole := c.t.d.def_ 0 (d := dd_is_whole) rfl
  g_within := He.glo_ok X G (c.t.d.fact 28 (f := .glo "within") rfl)
  D_within := c.t.d.def_ 1 (d := dd_within) rfl
  g_is_worth := He.glo_ok X G (c.t.d.fact 29 (f := .glo "is_worth") rfl)
  D_is_worth := c.t.d.def_ 2 (d := dd_is_worth) rfl
  g_is_name := He.glo_ok X G (c.t.d.fact 30 (f := .glo "is_name") rfl)
  D_is_name := c.t.d.def_ 3 (d := dd_is_name) rfl
  g_is_tuple_of := He.glo_ok X G (c.t.d.fact 31 (f := .glo "is_tuple_of") rfl)
  D_is_tuple_of := c.t.d.def_ 4 (d := dd_is_tuple_of) rfl
  g_is_row := He.glo_ok X G (c.t.d.fact 32 (f := .glo "is_row") rfl)
  D_is_row := c.t.d.def_ 5 (d := dd_is_row) rfl
  g_is_end := He.glo_ok X G (c.t.d.fact 33 (f := .glo "is_end") rfl)
  D_is_end := c.t.d.def_ 6 (d := dd_is_end) rfl
  g_touches := He.glo_ok X G (c.t.d.fact 34 (f := .glo "touches") rfl)
  D_touches := c.t.d.def_ 7 (d := dd_touches) rfl
  g_change := He.glo_ok X G (c.t.d.fact 35 (f := .glo "change") rfl)
  D_change := c.t.d.def_ 8 (d := dd_change) rfl
  g_brought_back := He.glo_ok X G (c.t.d.fact 36 (f := .glo "brought_back") rfl)
  D_brought_back := c.t.d.def_ 9 (d := dd_brought_back) rfl
  g_summed := He.glo_ok X G (c.t.d.fact 37 (f := .glo "summed") rfl)
  D_summed := c.t.d.def_ 10 (d := dd_summed) rfl
  g_done_on := He.glo_ok X G (c.t.d.fact 38 (f := .glo "done_on") rfl)
  D_done_on := c.t.d.def_ 11 (d := dd_done_on) rfl
  D_Ran___init__ := c.t.d.def_ 12 (d := dd_Ran___init__) rfl
  D_Dry___init__ := c.t.d.def_ 13 (d := dd_Dry___init__) rfl
  D_Spent___init__ := c.t.d.def_ 14 (d := dd_Spent___init__) rfl
  D_Tally___init__ := c.t.d.def_ 15 (d := dd_Tally___init__) rfl
  D_Tally_step := c.t.d.def_ 16 (d := dd_Tally_step) rfl
  D_Tally_tell := c.t.d.def_ 17 (d := dd_Tally_tell) rfl
  D_Tally_hear := c.t.d.def_ 18 (d := dd_Tally_hear) rfl
  g_check_run := He.glo_ok X G (c.t.d.fact 39 (f := .glo "check_run") rfl)
  D_check_run := c.t.d.def_ 19 (d := dd_check_run) rfl
  g_next_label := He.glo_ok X G (c.t.d.fact 40 (f := .glo "next_label") rfl)
  D_next_label := c.t.d.def_ 20 (d := dd_next_label) rfl
  g_run := He.glo_ok X G (c.t.d.fact 41 (f := .glo "run") rfl)
  e_run_worths := fun H => etB_ok (exAt c.more 4 rfl) H
  D_run := c.t.d.def_ 21 (d := dd_run) rfl
  g_are_blocks := He.glo_ok X G (c.t.d.fact 42 (f := .glo "are_blocks") rfl)
  D_are_blocks := c.t.d.def_ 22 (d := dd_are_blocks) rfl
  D_Code___init__ := c.t.d.def_ 23 (d := dd_Code___init__) rfl
  D_Code___eq__ := c.t.d.def_ 24 (d := dd_Code___eq__) rfl
  D_Code___len__ := c.t.d.def_ 25 (d := dd_Code___len__) rfl
  D_Code_find_heights := c.t.d.def_ 26 (d := dd_Code_find_heights) rfl
  D_Code_blocks := c.t.d.def_ 27 (d := dd_Code_blocks) rfl
  D_Code_heights := c.t.d.def_ 28 (d := dd_Code_heights) rfl
  D_Code_first := c.t.d.def_ 29 (d := dd_Code_first) rfl
  g__law_cell_at := He.glo_ok X G (c.t.d.fact 43 (f := .glo "_law_cell_at") rfl)
  D__law_cell_at := c.t.d.def_ 30 (d := dd__law_cell_at) rfl
  g__law_draw := He.glo_ok X G (c.t.d.fact 44 (f := .glo "_law_draw") rfl)
  D__law_draw := c.t.d.def_ 31 (d := dd__law_draw) rfl
  g__law_number := He.glo_ok X G (c.t.d.fact 45 (f := .glo "_law_number") rfl)
  D__law_number := c.t.d.def_ 32 (d := dd__law_number) rfl
  g__law_next := He.glo_ok X G (c.t.d.fact 46 (f := .glo "_law_next") rfl)
  D__law_next := c.t.d.def_ 33 (d := dd__law_next) rfl
  g__law_needs := He.glo_ok X G (c.t.d.fact 47 (f := .glo "_law_needs") rfl)
  D__law_needs := c.t.d.def_ 34 (d := dd__law_needs) rfl
  g__law_rows := He.glo_ok X G (c.t.d.fact 48 (f := .glo "_law_rows") rfl)
  D__law_rows := c.t.d.def_ 35 (d := dd__law_rows) rfl
  g__law_code := He.glo_ok X G (c.t.d.fact 49 (f := .glo "_law_code") rfl)
  D__law_code := c.t.d.def_ 36 (d := dd__law_code) rfl
  g__law_worths := He.glo_ok X G (c.t.d.fact 50 (f := .glo "_law_worths") rfl)
  D__law_worths := c.t.d.def_ 37 (d := dd__law_worths) rfl
  g__law_back := He.glo_ok X G (c.t.d.fact 51 (f := .glo "_law_back") rfl)
  D__law_back := c.t.d.def_ 38 (d := dd__law_back) rfl
  g__law_step := He.glo_ok X G (c.t.d.fact 52 (f := .glo "_law_step") rfl)
  D__law_step := c.t.d.def_ 39 (d := dd__law_step) rfl
  g__law_ran := He.glo_ok X G (c.t.d.fact 53 (f := .glo "_law_ran") rfl)
  D__law_ran := c.t.d.def_ 40 (d := dd__law_ran) rfl
  g__law_words := He.glo_ok X G (c.t.d.fact 54 (f := .glo "_law_words") rfl)
  D__law_words := c.t.d.def_ 41 (d := dd__law_words) rfl
  g__law_heights := He.glo_ok X G (c.t.d.fact 55 (f := .glo "_law_heights") rfl)
  D__law_heights := c.t.d.def_ 42 (d := dd__law_heights) rfl
  g__law_right := He.glo_ok X G (c.t.d.fact 56 (f := .glo "_law_right") rfl)
  D__law_right := c.t.d.def_ 43 (d := dd__law_right) rfl
  g_law := He.glo_ok X G (c.t.d.fact 57 (f := .glo "law") rfl)
  D_law := c.t.d.def_ 44 (d := dd_law) rfl
  i_Answer := isaB_ok (exAt c.more 5 rfl)
  q_Answer_Ran := of_decide_eq_true (exAt c.more 6 rfl)
  q_Answer_Dry := of_decide_eq_true (exAt c.more 7 rfl)
  q_Answer_Spent := of_decide_eq_true (exAt c.more 8 rfl)
  q_Answer_Code := of_decide_eq_true (exAt c.more 9 rfl)
  q_Answer_Answer := of_decide_eq_true (exAt c.more 10 rfl)
  g_Answer := He.glo_ok X G (c.t.d.fact 58 (f := .glo "Answer") rfl)
  c_Answer := He.cls_ok (c.t.d.fact 59 (f := .cls "Answer") rfl)
  i_Ran := isaB_ok (exAt c.more 11 rfl)
  q_Ran_Ran := of_decide_eq_true (exAt c.more 12 rfl)
  q_Ran_Dry := of_decide_eq_true (exAt c.more 13 rfl)
  q_Ran_Spent := of_decide_eq_true (exAt c.more 14 rfl)
  q_Ran_Code := of_decide_eq_true (exAt c.more 15 rfl)
  q_Ran_Answer := of_decide_eq_true (exAt c.more 16 rfl)
  g_Ran := He.glo_ok X G (c.t.d.fact 60 (f := .glo "Ran") rfl)
  c_Ran := He.cls_ok (c.t.d.fact 61 (f := .cls "Ran") rfl)
  n_Ran_told := He.noat_ok (c.t.d.fact 62 (f := .noat "Ran" "told") rfl)
  n_Ran_pile := He.noat_ok (c.t.d.fact 63 (f := .noat "Ran" "pile") rfl)
  n_Ran_steps := He.noat_ok (c.t.d.fact 64 (f := .noat "Ran" "steps") rfl)
  mk_Ran := He.mkr_ok (c.t.d.fact 65 (f := .mkr "Ran") rfl)
  i_Dry := isaB_ok (exAt c.more 17 rfl)
  q_Dry_Ran := of_decide_eq_true (exAt c.more 18 rfl)
  q_Dry_Dry := of_decide_eq_true (exAt c.more 19 rfl)
  q_Dry_Spent := of_decide_eq_true (exAt c.more 20 rfl)
  q_Dry_Code := of_decide_eq_true (exAt c.more 21 rfl)
  q_Dry_Answer := of_decide_eq_true (exAt c.more 22 rfl)
  g_Dry := He.glo_ok X G (c.t.d.fact 66 (f := .glo "Dry") rfl)
  c_Dry := He.cls_ok (c.t.d.fact 67 (f := .cls "Dry") rfl)
  n_Dry_told := He.noat_ok (c.t.d.fact 68 (f := .noat "Dry" "told") rfl)
  n_Dry_label := He.noat_ok (c.t.d.fact 69 (f := .noat "Dry" "label") rfl)
  n_Dry_row := He.noat_ok (c.t.d.fact 70 (f := .noat "Dry" "row") rfl)
  mk_Dry := He.mkr_ok (c.t.d.fact 71 (f := .mkr "Dry") rfl)
  i_Spent := isaB_ok (exAt c.more 23 rfl)
  q_Spent_Ran := of_decide_eq_true (exAt c.more 24 rfl)
  q_Spent_Dry := of_decide_eq_true (exAt c.more 25 rfl)
  q_Spent_Spent := of_decide_eq_true (exAt c.more 26 rfl)
  q_Spent_Code := of_decide_eq_true (exAt c.more 27 rfl)
  q_Spent_Answer := of_decide_eq_true (exAt c.more 28 rfl)
  g_Spent := He.glo_ok X G (c.t.d.fact 72 (f := .glo "Spent") rfl)
  c_Spent := He.cls_ok (c.t.d.fact 73 (f := .cls "Spent") rfl)
  n_Spent_told := He.noat_ok (c.t.d.fact 74 (f := .noat "Spent" "told") rfl)
  mk_Spent := He.mkr_ok (c.t.d.fact 75 (f := .mkr "Spent") rfl)
  i_Tally := isaB_ok (exAt c.more 29 rfl)
  q_Tally_Ran := of_decide_eq_true (exAt c.more 30 rfl)
  q_Tally_Dry := of_decide_eq_true (exAt c.more 31 rfl)
  q_Tally_Spent := of_decide_eq_true (exAt c.more 32 rfl)
  q_Tally_Code := of_decide_eq_true (exAt c.more 33 rfl)
  q_Tally_Answer := of_decide_eq_true (exAt c.more 34 rfl)
  g_Tally := He.glo_ok X G (c.t.d.fact 76 (f := .glo "Tally") rfl)
  c_Tally := He.cls_ok (c.t.d.fact 77 (f := .cls "Tally") rfl)
  n_Tally_worths := He.noat_ok (c.t.d.fact 78 (f := .noat "Tally" "worths") rfl)
  n_Tally_most := He.noat_ok (c.t.d.fact 79 (f := .noat "Tally" "most") rfl)
  n_Tally_heard := He.noat_ok (c.t.d.fact 80 (f := .noat "Tally" "heard") rfl)
  n_Tally_told_so_far := He.noat_ok (c.t.d.fact 81 (f := .noat "Tally" "told_so_far") rfl)
  n_Tally_steps_done := He.noat_ok (c.t.d.fact 82 (f := .noat "Tally" "steps_done") rfl)
  mk_Tally := He.mkr_ok (c.t.d.fact 83 (f := .mkr "Tally") rfl)
  me_Tally_step := He.meth_ok (c.t.d.fact 84 (f := .meth "Tally" "step") rfl)
  me_Tally_tell := He.meth_ok (c.t.d.fact 85 (f := .meth "Tally" "tell") rfl)
  me_Tally_hear := He.meth_ok (c.t.d.fact 86 (f := .meth "Tally" "hear") rfl)
  i_Code := isaB_ok (exAt c.more 35 rfl)
  q_Code_Ran := of_decide_eq_true (exAt c.more 36 rfl)
  q_Code_Dry := of_decide_eq_true (exAt c.more 37 rfl)
  q_Code_Spent := of_decide_eq_true (exAt c.more 38 rfl)
  q_Code_Code := of_decide_eq_true (exAt c.more 39 rfl)
  q_Code_Answer := of_decide_eq_true (exAt c.more 40 rfl)
  g_Code := He.glo_ok X G (c.t.d.fact 87 (f := .glo "Code") rfl)
  c_Code := He.cls_ok (c.t.d.fact 88 (f := .cls "Code") rfl)
  n_Code_parts := He.noat_ok (c.t.d.fact 89 (f := .noat "Code" "parts") rfl)
  n_Code_table := He.noat_ok (c.t.d.fact 90 (f := .noat "Code" "table") rfl)
  n_Code_high := He.noat_ok (c.t.d.fact 91 (f := .noat "Code" "high") rfl)
  mk_Code := He.mkr_ok (c.t.d.fact 92 (f := .mkr "Code") rfl)
  me_Code___eq__ := He.meth_ok (c.t.d.fact 93 (f := .meth "Code" "__eq__") rfl)
  me_Code___len__ := He.meth_ok (c.t.d.fact 94 (f := .meth "Code" "__len__") rfl)
  me_Code_find_heights := He.meth_ok (c.t.d.fact 95 (f := .meth "Code" "find_heights") rfl)
  me_Code_blocks := He.meth_ok (c.t.d.fact 96 (f := .meth "Code" "blocks") rfl)
  me_Code_heights := He.meth_ok (c.t.d.fact 97 (f := .meth "Code" "heights") rfl)
  me_Code_first := He.meth_ok (c.t.d.fact 98 (f := .meth "Code" "first") rfl)
end Pb

/-! the end -/
set_option maxRecDepth 100000
namespace Pb
open PySem PySem.Spec PyProof.Rows L2
open C8 (Cal Mak Met)
theorem law_end {P : Program} {w : World} {K : PySem.W.Frag} {h : Heap} {mg : Str → Option Value} {fa : Addr} (T : Tx w K mg) (KX : K.In h) (hmg : mg ("law" : Str) = some (.ref fa)) : ∃ (K : PySem.W.Frag) (fd : FuncData) (sp : Sp), K.In h ∧ (∀ (s : Shared) (u : Value), BindsTo s fd ⟨[u], []⟩ [("_law_script", u)]) ∧ (∀ (H : Hp) (a : Addr) (ns : List Int), ns.length ≤ 63 → Only H → SqL K H a (ns.map V.int) → sp [.ref a] H (fun v _ => v = .bl true) fun _ _ _ => False) ∧
    ∀ base : Heap, K.In base → base.Ns mainGlobals mg → GFn P w K mg base 9 fa fd ["_law_script"] sp := by
  have e := hmg.symm.trans T.g_law
  cases e
  obtain ⟨fd, F⟩ := id T.D_law
  have b := FunD.bindsA (ps := ["_law_script"]) F fun _ _ _ _ _ _ us hl => match us, hl with | [_], _ => rfl
  refine ⟨K, fd, sp_law K, KX, fun s v => b s [v] rfl, fun H a ns hl _ hS => ⟨a, ns, rfl, hS, hl, fun _ => rfl⟩, fun base _ _ => ?_⟩
  have F_is_name := ok_is_name (P := P) (base := base) T 
  have F_is_tuple_of := ok_is_tuple_of (P := P) (base := base) T 
  have F_is_whole := ok_is_whole (P := P) (base := base) T 
  have F_within := ok_within (P := P) (base := base) T F_is_whole
  have F_is_worth := ok_is_worth (P := P) (base := base) T F_within
  have F_is_row := ok_is_row (P := P) (base := base) T F_is_tuple_of F_is_worth
  have F_is_end := ok_is_end (P := P) (base := base) T F_is_tuple_of F_is_name
  have F_are_blocks := ok_are_blocks (P := P) (base := base) T F_is_name F_is_row F_is_end
  have F_touches := ok_touches (P := P) (base := base) T 
  have F_change := ok_change (P := P) (base := base) T 
  have F_Code_find_heights := ok_find_heights (P := P) (base := base) T F_touches F_change
  have M_Code := ok_Code_init (P := P) (base := base) T F_are_blocks F_Code_find_heights
  have F_Code___eq__ := ok_Code_eq (P := P) (base := base) T 
  have F_Code___len__ := ok_Code_len (P := P) (base := base) T 
  have F_Code_heights := ok_Code_heights (P := P) (base := base) T 
  have F_Code_blocks := ok_Code_blocks (P := P) (base := base) T 
  have F_check_run := ok_check_run (P := P) (base := base) T F_is_worth F_within
  have M_Tally := ok_Tally_init (P := P) (base := base) T 
  have F_Code_first := ok_Code_first (P := P) (base := base) T 
  have F_Tally_step := ok_Tally_step (P := P) (base := base) T 
  have F_Tally_tell := ok_Tally_tell (P := P) (base := base) T 
  have F_Tally_hear := ok_Tally_hear (P := P) (base := base) T 
  have F_brought_back := ok_brought_back (P := P) (base := base) T 
  have F_summed := ok_summed (P := P) (base := base) T F_brought_back
  have F_done_on := ok_done_on (P := P) (base := base) T F_summed
  have F_next_label := ok_next_label (P := P) (base := base) T 
  have M_Ran := ok_Ran_init (P := P) (base := base) T 
  have M_Dry := ok_Dry_init (P := P) (base := base) T 
  have M_Spent := ok_Spent_init (P := P) (base := base) T 
  have F_run := ok_run (P := P) (base := base) T F_check_run M_Tally F_Code_first F_Tally_step F_Tally_tell F_Tally_hear F_done_on F_next_label M_Ran M_Dry M_Spent
  have F__law_words := ok_words (P := P) (base := base) T 
  have F__law_cell_at := ok_cell_at (P := P) (base := base) T 
  have F__law_draw := ok_draw (P := P) (base := base) T 
  have F__law_number := ok_number (P := P) (base := base) T F__law_draw
  have F__law_next := ok_next (P := P) (base := base) T F__law_cell_at F__law_number
  have F__law_needs := ok_needs (P := P) (base := base) T 
  have F__law_rows := ok_rows (P := P) (base := base) T F__law_next F__law_needs
  have F__law_code := ok_code (P := P) (base := base) T F__law_next F__law_rows
  have F__law_heights := ok_heights (P := P) (base := base) T F__law_needs
  have F__law_worths := ok_worths (P := P) (base := base) T F__law_next
  have F__law_back := ok_back (P := P) (base := base) T 
  have F__law_step := ok_step (P := P) (base := base) T F__law_back
  have F__law_ran := ok_ran (P := P) (base := base) T F__law_step
  have F__law_right := ok_right (P := P) (base := base) T M_Code F_run F__law_words F__law_ran
  exact ok_law F T M_Code F_Code___eq__ F_Code___len__ F_Code_heights F_Code_blocks F_run F__law_words F__law_next F__law_code F__law_heights F__law_worths F__law_right
end Pb
open PySem PySem.W PySem.Calls PyProof.Rows
theorem PySem.Challenge.cw_pileboxes_k01_whole_runs_holds : PySem.Challenge.rw_pileboxes_k01_whole_runs.Holds := by
  w_on; o_law
  refine HandSHeadRun.head_any (r := OpenLaw.row PySem.Challenge.rw_pileboxes_k01_whole_runs) (q := view (OpenLaw.row PySem.Challenge.rw_pileboxes_k01_whole_runs).prog [59]) (H := Pb.hk) (ob := Pb.hob) (M := 12000) (loose := Pb.hnames) (d := HandSHeadRun.topDef (OpenLaw.row PySem.Challenge.rw_pileboxes_k01_whole_runs).prog 59) (kwd := []) Pb.hob_eq
    (by kernel_rfl) (fun s => by kernel_rfl) Pb.hrun (by kernel_rfl) (by kernel_rfl) (by kernel_rfl) (by rfl) (by first | assumption | decide +kernel) (by decide +kernel) ⟨rfl, rfl, rfl, rfl, rfl, by decide +kernel⟩ ?hw ?hc
  case hw => w_witness2
  case hc =>
    refine Pb.walk_ofG (l := PySem.Challenge.rw_pileboxes_k01_whole_runs) (n := 63) (k := 9) (x := "_law_script") rfl (by decide) (by kernel_rfl) ⟨rfl, by decide, by decide⟩ ?F
    intro w mg fa h Y G hmg0
    obtain ⟨K, KX, c⟩ := Y
    have T := Pb.tx_of KX G c
    have hmg : mg ("law" : PySem.Str) = some (.ref fa) := by
      have e : (HandSHeadRun.topDef (OpenLaw.row PySem.Challenge.rw_pileboxes_k01_whole_runs).prog 59).name = ("law" : PySem.Str) := by kernel_rfl
      rw [← e]
      exact hmg0
    exact Pb.law_end T KX hmg
