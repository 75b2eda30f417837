import PyProof.Rows.All
import Wide.All
import OpenK.AllK
import Wide.FinOn
import HandS.ForMost
import HandS.Sort
import HandS.SortInts
import HandS.More
import HandS.Flow
import HandS.Deep
import HandS.Codes
import HandS.IsInst
import HandS.Rev
import HandS.RevTup
import HandS.Gcd
import HandS.Wide
import HandS.WideBits
import KE.KDictList
import KE.KRevIter
import PySem.Challenge.RW_solvedpapers_k06_resolution_decides
import KE.KEqDeep
section
set_option Elab.async false
set_option linter.all false
set_option maxRecDepth 100000
set_option maxHeartbeats 4000000
namespace Kf
open PySem PySem.Spec PyProof.Rows L2
/-! ### a def of the module's top, its promise -/
structure Df (K : PySem.W.Frag) (mg : Str → Option Value) (x : Str) (st : Stmt) (ps : List Str) : Prop where
  ex : ∃ f fd, Fun K x x st f fd ∧ Binds K fd ps [] ∧ mg x = some (.ref f)
structure Pr (P : Program) (w : World) (K : PySem.W.Frag) (mg : Str → Option Value) (base : Heap) (x : Str) (k : Nat) (ps : List Str) (sp : Sp) : Prop where
  ex : ∃ f fd, FnOk P w K mg base CX0 k f fd ps sp ∧ Binds K fd ps [] ∧ PySem.W.keepIn K (.ref f) = true ∧ mg x = some (.ref f) ∧ ∃ oc od osl, K.lookup f = some ⟨oc, od, .func fd, osl⟩
section
variable {P : Program} {w : World} {K : PySem.W.Frag} {mg : Str → Option Value} {base : Heap} {x : Str} {st : Stmt} {ps N : List Str} {k j : Nat} {sp sp' : Sp}
theorem Df.ok (D : Df K mg x st ps) (S : FnScope N ps (defScope st)) (len : ∀ vs H Q E, sp vs H Q E → vs.length = ps.length)
    (hbody : ∀ (f : Addr) (cdv : Value) (A : Around) (outer : List Env) (s : Shared) (H : Hp) (vs : List V) (Q : VK) (E : XK), Room k (A.deeper (envOfC x (defScope st) s.heap.objs.size f cdv)) → sp vs H Q E →
      ∃ t, PSs (cxOf CX0 P w K mg base N x (defScope st) f cdv A outer s H E).nox (defBody st) t ∧ t { nx := fun _ H' => Q .non H', rt := Q } (start N vs) H) : Pr P w K mg base x (k + 1) ps sp := by
  obtain ⟨f, fd, F, b, g⟩ := D.ex
  obtain ⟨oc, od, kV, doc, pm, an, cdv, ct, osl, e, lk, hcd⟩ := F.ex
  exact ⟨f, fd, F.ok S len (hbody f), b, F.kp, g, oc, od, osl, lk⟩
theorem Pr.at {f : Addr} {fd : FuncData} {oc : Value} {od : Option Addr} {osl : Array (Option Value)} (p : Pr P w K mg base x k ps sp) (g : mg x = some (.ref f)) (l : K.lookup f = some ⟨oc, od, .func fd, osl⟩) : FnOk P w K mg base CX0 k f fd ps sp := by
  obtain ⟨f', fd', F, _, _, g', oc', od', osl', l'⟩ := p.ex
  rw [g] at g'
  cases g'
  rw [l] at l'
  cases l'
  exact F
theorem Df.mk' {f : Addr} {oc : Value} {od an : Option Addr} {osl : Array (Option Value)} {kV doc pm cdv ct : Value} (l : K.lookup f = some ⟨oc, od, .func (PySem.W.fnOf x x (defArgs st) (defBody st) (defScope st) .none kV doc pm an cdv ct), osl⟩)
    (c : PySem.W.codeIn K cdv x = true) (k : PySem.W.keepIn K (.ref f) = true) (b : ∀ F : Fun K x x st f (PySem.W.fnOf x x (defArgs st) (defBody st) (defScope st) .none kV doc pm an cdv ct), Binds K (PySem.W.fnOf x x (defArgs st) (defBody st) (defScope st) .none kV doc pm an cdv ct) ps [])
    (g : mg x = some (.ref f)) : Df K mg x st ps := ⟨f, _, fun_mk l c k, b (fun_mk l c k), g⟩
theorem Pr.mono (p : Pr P w K mg base x k ps sp) (h : k ≤ j) : Pr P w K mg base x j ps sp := by
  obtain ⟨f, fd, F, r⟩ := p.ex
  exact ⟨f, fd, F.mono h, r⟩
theorem Pr.imp (p : Pr P w K mg base x k ps sp) (h : ∀ vs H Q E, sp' vs H Q E → sp vs H Q E) : Pr P w K mg base x k ps sp' := by
  obtain ⟨f, fd, F, r⟩ := p.ex
  exact ⟨f, fd, F.imp h, r⟩
end
/-! ### calls -/
section
variable {X : Cx} {x : Str} {k j : Nat} {ps : List Str} {sp : Sp} {e : Expr} {es : List Expr} {t : TA} {p pos : Pos}
theorem pe_callP (pr : Pr X.prog X.w X.K X.mg X.base x k ps sp) (hr : Room j X.A) (ha : PA X (e :: es) t) (hk : k ≤ j := by decide) (hg : Gl X x := by rfl) (hd : (x == ("__debug__" : Str)) = false := by decide)
    (he : starEach (e :: es) X.env = (false, eval e X.env) :: starEach es X.env := by rfl) (hpl : (backTo pos (starEach es X.env)).any (·.1) = false := by rfl) : PE X (.Call (.Name x p) (e :: es) [] pos) (tCall sp [] E0 t) := by
  obtain ⟨f, fd, F, b, kp, g, _⟩ := pr.ex
  exact pe_call F (hr.mono hk) hg g kp b .nil pass0 ha hd he hpl
end
/-! ### the rules with the written part by its name -/
section
variable {X : Cx} {K : PySem.W.Frag}
theorem ix_listK (e : X.K = K) : IxR X (rIxL K) := by subst e; exact ix_list
theorem ix_tupK (e : X.K = K) : IxR X (rIxT K) := by subst e; exact ix_tup
theorem ix_seqK (e : X.K = K) : IxR X (rIx K) := by subst e; exact ix_seq
theorem sl_listK (e : X.K = K) : SlR X (rSlL K) := by subst e; exact sl_list
theorem sl_tupK (e : X.K = K) : SlR X (rSlT K) := by subst e; exact sl_tup
theorem call_lenK (e : X.K = K) : CallR X (.builtin "len") (fun xs H Q => ∃ x n, xs = [x] ∧ LenV K x H n ∧ Q (.int (n : Nat)) H) := by subst e; exact call_len
theorem op_in_seqK (e : X.K = K) : OpR X (compareOp .In) (rIn K false) := by subst e; exact op_in_seq
theorem op_notIn_seqK (e : X.K = K) : OpR X (compareOp .NotIn) (rIn K true) := by subst e; exact op_notIn_seq
theorem op_inDK (e : X.K = K) (hu : X.A.units + 65 < cLine) : OpR X (compareOp .In) (rInD K) := by subst e; exact op_inD hu
theorem op_notInDK (e : X.K = K) (hu : X.A.units + 65 < cLine) : OpR X (compareOp .NotIn) (rNotInD K) := by subst e; exact op_notInD hu
theorem op_eqDK (e : X.K = K) (hu : X.A.units + 64 < cLine) : OpR X (compareOp .Eq) (rEqD K) := by subst e; exact op_eqD hu
theorem op_neDK (e : X.K = K) (hu : X.A.units + 64 < cLine) : OpR X (compareOp .NotEq) (rNeD K) := by subst e; exact op_neD hu
theorem op_catTK (e : X.K = K) : OpR X (binaryOp .Add) (rCatT K) := by subst e; exact op_catT
theorem call_isiK1 (e : X.K = K) : CallR X (.builtin "isinstance") (rIsi K) := by subst e; exact call_isi
theorem cr_sortedPK (e : X.K = K) : CallR X (.builtin "sorted") (rSortedP K) := by subst e; exact cr_sortedP
theorem cr_sortedIK (e : X.K = K) : CallR X (.builtin "sorted") (rSortedI K) := by subst e; exact cr_sortedI
theorem call_list_ofK (e : X.K = K) : CallR X (.type "list") (fun xs H Q => ∃ p ys, xs = [.ref p] ∧ (SqL K H p ys ∨ SqT K H p ys) ∧ ∀ l, H l = none → Q (.ref l) (upd H l (.lst ys))) := by subst e; exact call_list_of
theorem call_tuple_ofK (e : X.K = K) : CallR X (.type "tuple") (fun xs H Q => ∃ p ys, xs = [.ref p] ∧ ((SqL K H p ys ∧ ∀ l, H l = none → Q (.ref l) (upd H l (.tup ys))) ∨ (SqT K H p ys ∧ Q (.ref p) H))) := by subst e; exact call_tuple_of
theorem pi_listK {tg l : Expr} {tl : TE} (e : X.K = K) (hl : PE X l tl) : PI X tg l (iList K tl) := by subst e; exact pi_list hl
theorem pi_tupK {tg l : Expr} {tl : TE} (e : X.K = K) (hl : PE X l tl) : PI X tg l (iTup K tl) := by subst e; exact pi_tup hl
/-- a list or a tuple is walked -/
def iSeq (K : PySem.W.Frag) (tl : TE) : TI := fun σ H R => tl σ H fun x H1 => ∃ a, x = .ref a ∧ (((∃ xs, SqL K H1 a xs) ∧ R (Itl K a) H1) ∨ ((∃ xs, SqT K H1 a xs) ∧ R (Itt K a) H1))
theorem pi_seqK {tg l : Expr} {tl : TE} (e : X.K = K) (hl : PE X l tl) : PI X tg l (iSeq K tl) := by
  subst e
  refine ⟨fun pins s σ H R I h => ?_⟩
  refine thn (hl.run pins s σ H _ I h) fun v s1 ⟨x, H1, I1, r1, q1⟩ => ?_
  obtain ⟨a, e, q⟩ := q1
  subst e
  cases r1
  rcases q with ⟨⟨xs, hq⟩, q⟩ | ⟨⟨xs, hq⟩, q⟩
  · obtain ⟨its, rv, p, hz⟩ := I1.list hq
    refine wpAny_pyIter_list p.isList ?_
    refine ⟨s1.heap.objs.size, [s1.heap.objs.size], _, _, H1, rfl, I1.kept (t' := s1.toks) fun b o e => Heap.get?_push_of_some _ e, turn_list a _, ⟨_, Heap.get?_push_size _ rfl, rfl, rfl⟩, fun b hb => ?_, q⟩
    have e : b = s1.heap.objs.size := by simpa using hb
    subst e
    exact I1.fpOk (Nat.le_refl _) (I1.hok.fresh (Nat.le_refl _))
  · obtain ⟨its, rv, p, hz⟩ := I1.tuple hq
    refine wpAny_pyIter_tuple (show s1.heap.IsTuple a its.toArray from p) ?_
    refine ⟨s1.heap.objs.size, [s1.heap.objs.size], _, _, H1, rfl, I1.kept (t' := s1.toks) fun b o e => Heap.get?_push_of_some _ e, turn_tuple a _, ⟨_, Heap.get?_push_size _ rfl, rfl, rfl⟩, fun b hb => ?_, q⟩
    have e : b = s1.heap.objs.size := by simpa using hb
    subst e
    exact I1.fpOk (Nat.le_refl _) (I1.hok.fresh (Nat.le_refl _))
theorem pe_bmK {o e : Expr} {es : List Expr} {name : Str} {id T : String} {r : V → List V → Hp → VK → Prop} {to : TE} {t : TA} {apos cpos : Pos} (ek : X.K = K) (pa : PlainAttrs T) (slot : Slot T name id) (hty : typeOf (.builtin id) = pure (.type "method_descriptor")) (hm : MtR X id r) (ho : PE X o to) (ha : PA X (e :: es) t)
    (hbase : attributeBase o name X.env (eval o X.env) = eval o X.env := by rfl)
    (hfew : ((backTo cpos (starEach (e :: es) X.env)).all (fun x => !x.1) && (backToKw cpos (keywordEach [] X.env)).all (fun x => x.1.isSome)
      && decide ((e :: es).length + ([] : List Keyword).length + (if ([] : List Keyword).isEmpty then 0 else 1) < 30)) = true := by rfl)
    (hline : (apos.endLine == cpos.line) = true := by rfl) (hs : starEach (e :: es) X.env = (false, eval e X.env) :: starEach es X.env := by rfl) (hplain : (backTo cpos (starEach es X.env)).any (·.1) = false := by rfl) :
    PE X (.Call (.Attribute o name apos) (e :: es) [] cpos) (tBM K T r to t) := by subst ek; exact pe_bm pa slot hty hm ho ha hbase hfew hline hs hplain
end
/-! ### heaps -/
theorem upd_old {H : Hp} {a p : Addr} {o u : HO} (n : H p = none) (h : H a = some o) : upd H p u a = some o := by
  rw [upd_ne (ne_of_none h n)]; exact h
theorem upd_oth {H : Hp} {a p : Addr} {o u : HO} (n : a ≠ p) (h : H a = some o) : upd H p u a = some o := by
  rw [upd_ne n]; exact h
theorem Same.new {H : Hp} {p : Addr} {o : HO} (n : H p = none) : Same H (upd H p o) := fun _ _ e => upd_old n e
theorem _root_.L2.Same.at {H H' : Hp} {a : Addr} {o : HO} (e : Same H H') (h : H a = some o) : H' a = some o := e a o h
/-- a pool of numbers: [cell, count, great, spare] -/
def Pl (o : HO) : Prop := ∃ c k b s, o = .lst [.int c, .int k, .bl b, .int s]
/-- all stands as before, but that pools may have been drawn from -/
def Ext (H H' : Hp) : Prop := ∀ b o, H b = some o → (¬ Pl o → H' b = some o) ∧ (Pl o → ∃ o', Pl o' ∧ H' b = some o')
theorem Ext.refl {H : Hp} : Ext H H := fun _ _ e => ⟨fun _ => e, fun h => ⟨_, h, e⟩⟩
theorem Ext.of {H H' : Hp} (s : Same H H') : Ext H H' := fun b o e => ⟨fun _ => s b o e, fun h => ⟨_, h, s b o e⟩⟩
theorem Ext.trans {H H1 H2 : Hp} (a : Ext H H1) (b : Ext H1 H2) : Ext H H2 := fun c o e => by
  by_cases h : Pl o
  · obtain ⟨o', p, e'⟩ := (a c o e).2 h
    obtain ⟨o'', p', e''⟩ := (b c o' e').2 p
    exact ⟨fun n => absurd h n, fun _ => ⟨_, p', e''⟩⟩
  · exact ⟨fun n => (b c o ((a c o e).1 n)).1 n, fun z => absurd z h⟩
theorem Ext.new {H : Hp} {p : Addr} {o : HO} (n : H p = none) : Ext H (upd H p o) := Ext.of (Same.new n)
theorem Ext.pool {H : Hp} {p : Addr} {o o' : HO} (h : H p = some o) (q : Pl o) (q' : Pl o') : Ext H (upd H p o') := fun b u e => by
  by_cases hb : b = p
  · subst hb
    rw [h] at e; cases e
    exact ⟨fun n => absurd q n, fun _ => ⟨_, q', upd_same⟩⟩
  · rw [upd_ne hb]
    exact ⟨fun _ => e, fun z => ⟨_, z, e⟩⟩
theorem Ext.get {H H' : Hp} {b : Addr} {o : HO} (e : Ext H H') (h : H b = some o) (n : ¬ Pl o) : H' b = some o := (e b o h).1 n
theorem Ext.non {H H' : Hp} (e : Ext H H') {l : Addr} (h : H' l = none) : H l = none := by
  cases q : H l with
  | none => rfl
  | some o =>
    by_cases z : Pl o
    · obtain ⟨o', _, e'⟩ := (e l o q).2 z
      rw [h] at e'; cases e'
    · rw [(e l o q).1 z] at h; cases h
/-- an unlike list is no pool -/
def isPl : HO → Bool
  | .lst [.int _, .int _, .bl _, .int _] => true
  | _ => false
theorem pl_iff {o : HO} : Pl o ↔ isPl o = true := by
  constructor
  · rintro ⟨c, k, b, s, rfl⟩; rfl
  · intro h
    unfold isPl at h
    split at h
    · exact ⟨_, _, _, _, rfl⟩
    · cases h
theorem npl {o : HO} (h : isPl o = false) : ¬ Pl o := fun z => by rw [pl_iff.mp z] at h; cases h
theorem npl_ints (ns : List Int) : ¬ Pl (.lst (ns.map V.int)) := by
  rintro ⟨c, k, b, s, e⟩
  have e := HO.lst.inj e
  match ns, e with
  | [], e => cases e
  | [_], e => cases e
  | [_, _], e => cases e
  | _ :: _ :: _ :: _, e =>
    simp only [List.map_cons, List.cons.injEq] at e
    exact absurd e.2.2.1 (by intro z; cases z)
theorem npl_refs (ns : List Addr) : ¬ Pl (.lst (ns.map V.ref)) := by
  rintro ⟨c, k, b, s, e⟩
  have e := HO.lst.inj e
  match ns, e with
  | [], e => cases e
  | _ :: _, e =>
    simp only [List.map_cons, List.cons.injEq] at e
    exact absurd e.1 (by intro z; cases z)
/-- a pool stands at v -/
def PoolAt (H : Hp) (v : V) : Prop := ∃ a c k b s, v = .ref a ∧ H a = some (.lst [.int c, .int k, .bl b, .int s])
theorem PoolAt.ext {H H' : Hp} {v : V} (h : PoolAt H v) (e : Ext H H') : PoolAt H' v := by
  obtain ⟨a, c, k, b, s, rfl, h⟩ := h
  obtain ⟨o', ⟨c', k', b', s', rfl⟩, h'⟩ := (e a _ h).2 ⟨_, _, _, _, rfl⟩
  exact ⟨a, c', k', b', s', rfl, h'⟩
/-- what is read stands -/
theorem Ext.seqL {K : PySem.W.Frag} {H H' : Hp} {a : Addr} {xs : List V} (e : Ext H H') (h : SqL K H a xs) (n : ¬ Pl (.lst xs)) : SqL K H' a xs := by
  rcases h with (h | ⟨o, h⟩) | h
  · exact .inl (.inl (e.get h n))
  · exact .inl (.inr ⟨o, e.get h (npl rfl)⟩)
  · exact .inr h
theorem Ext.seqT {K : PySem.W.Frag} {H H' : Hp} {a : Addr} {xs : List V} (e : Ext H H') (h : SqT K H a xs) : SqT K H' a xs := by
  rcases h with (h | ⟨o, h⟩) | h
  · exact .inl (.inl (e.get h (npl rfl)))
  · exact .inl (.inr ⟨o, e.get h (npl rfl)⟩)
  · exact .inr h
/-! ### lists of ints, tuples of ints -/
def LsI (K : PySem.W.Frag) (H : Hp) (v : V) (ns : List Int) : Prop := ∃ a, v = .ref a ∧ SqL K H a (ns.map V.int)
def TpI (K : PySem.W.Frag) (H : Hp) (v : V) (ns : List Int) : Prop := ∃ a, v = .ref a ∧ SqT K H a (ns.map V.int)
theorem LsI.ext {K : PySem.W.Frag} {H H' : Hp} {v : V} {ns : List Int} (h : LsI K H v ns) (e : Ext H H') : LsI K H' v ns := by
  obtain ⟨a, rfl, h⟩ := h
  exact ⟨a, rfl, e.seqL h (npl_ints ns)⟩
theorem TpI.ext {K : PySem.W.Frag} {H H' : Hp} {v : V} {ns : List Int} (h : TpI K H v ns) (e : Ext H H') : TpI K H' v ns := by
  obtain ⟨a, rfl, h⟩ := h
  exact ⟨a, rfl, e.seqT h⟩
theorem hD_of {A : Around} {k : Nat} (hr : Room k A) : A.units + 65 < cLine := by have := hr.un; omega


/-! ### one object left out; own objects -/
def del (H : Hp) (D : Addr) : Hp := fun b => if b = D then none else H b
theorem del_same {H : Hp} {D : Addr} : del H D D = none := by unfold del; rw [if_pos rfl]
theorem del_ne {H : Hp} {D b : Addr} (h : b ≠ D) : del H D b = H b := by unfold del; rw [if_neg h]
theorem del_at {H : Hp} {D b : Addr} {o : HO} (h : H b = some o) (n : b ≠ D) : del H D b = some o := by rw [del_ne n]; exact h
theorem of_del {H : Hp} {D b : Addr} {o : HO} (h : del H D b = some o) : b ≠ D ∧ H b = some o := by
  by_cases e : b = D
  · subst e; rw [del_same] at h; cases h
  · rw [del_ne e] at h; exact ⟨e, h⟩
theorem del_sub {H : Hp} {D : Addr} : Ext (del H D) H := Ext.of fun _ _ e => (of_del e).2
theorem del_upd {H : Hp} {D : Addr} {o : HO} : del (upd H D o) D = del H D := by
  funext b; unfold del
  by_cases e : b = D
  · rw [if_pos e, if_pos e]
  · rw [if_neg e, if_neg e, upd_ne e]
theorem del_new {H : Hp} {D : Addr} (h : H D = none) : del H D = H := by
  funext b; unfold del
  by_cases e : b = D
  · rw [if_pos e, e, h]
  · rw [if_neg e]
theorem Ext.del {H H' : Hp} {D : Addr} (e : Ext H H') : Ext (del H D) (del H' D) := fun b o h => by
  obtain ⟨n, h⟩ := of_del h
  rw [del_ne n]
  exact e b o h
theorem Ext.own {H0 H : Hp} {l : Addr} {o : HO} (e : Ext H0 H) (n : H0 l = none) : Ext H0 (upd H l o) := fun b u h => by
  rw [upd_ne (ne_of_none h n)]
  exact e b u h
theorem Ext.newer {H0 H : Hp} {l : Addr} {o : HO} (e : Ext H0 H) (n : H l = none) : Ext H0 (upd H l o) := e.own (e.non n)
theorem npl_nil : ¬ Pl (.lst []) := npl rfl
theorem npl_one (ns : List Int) (v : Int) : ¬ Pl (.lst (ns.map V.int ++ [.int v])) := by
  have e : ns.map V.int ++ [V.int v] = (ns ++ [v]).map V.int := by simp
  rw [e]; exact npl_ints _
/-- the comprehension's list at D behind i turns -/
def LcP (H : Hp) (D : Addr) (R : Nat → List V → Hp → Prop) (i : Nat) (H' : Hp) : Prop := ∃ acc, H' D = some (.lst acc) ∧ Ext H H' ∧ R i acc (del H' D)
theorem LcP.put {H H1 H4 : Hp} {D : Addr} {R : Nat → List V → Hp → Prop} {i : Nat} {acc : List V} {y : V} (hD : H D = none) (h1 : H1 D = some (.lst acc)) (np : ¬ Pl (.lst acc)) (e1 : Ext H H1) (e4 : Ext H1 H4) (hl : acc.length ≤ 1000)
    (r : R (i + 1) (acc ++ [y]) (del H4 D)) : ∃ acc, H4 D = some (.lst acc) ∧ acc.length < sizeLine ∧ LcP H D R (i + 1) (upd H4 D (.lst (acc ++ [y]))) :=
  ⟨acc, e4.get h1 np, small1000 hl, acc ++ [y], upd_same, (e1.trans e4).own hD, by rw [del_upd]; exact r⟩
theorem LcP.skip {H H1 H4 : Hp} {D : Addr} {R : Nat → List V → Hp → Prop} {i : Nat} {acc : List V} (h1 : H1 D = some (.lst acc)) (np : ¬ Pl (.lst acc)) (e1 : Ext H H1) (e4 : Ext H1 H4) (r : R (i + 1) acc (del H4 D)) : LcP H D R (i + 1) H4 :=
  ⟨acc, e4.get h1 np, e1.trans e4, r⟩
theorem lc_r {lo : Int} {n : Nat} {g : TG} {tt : TT} {te : TE} {vs : List Nat} {σ : L2.St} {H : Hp} {Qd : Addr → Hp → Prop} (R : Nat → List V → Hp → Prop) (h0 : R 0 [] H) (mono : ∀ i acc H1 H2, Ext H1 H2 → R i acc H1 → R i acc H2)
    (hs : ∀ i acc D H1, i < n → H D = none → H1 D = some (.lst acc) → Ext H H1 → R i acc (del H1 D) → g (.int (lo + i)) (wipe σ vs) H1 fun σ2 H2 => wipe σ2 vs = wipe σ vs ∧ tt σ2 H2 fun b H3 =>
      if b = true then te σ2 H3 fun y H4 => ∃ acc, H4 D = some (.lst acc) ∧ acc.length < sizeLine ∧ LcP H D R (i + 1) (upd H4 D (.lst (acc ++ [y]))) else LcP H D R (i + 1) H3)
    (hd : ∀ D acc H1, H D = none → H1 D = some (.lst acc) → Ext H H1 → R n acc H1 → Qd D H1) :
    ∀ D, H D = none → ∃ W : Nat → Nat → Hp → Prop, (∃ m, W 0 m (upd H D (.lst []))) ∧ ∀ i m H, W i m H →
      ((Itr lo n).stop i H ∧ Qd D H) ∨ ((Itr lo n).go i H ∧ ∃ Nx : Hp → Prop, (∀ H', Nx H' → ∃ m', m' < m ∧ W (i + 1) m' H') ∧ ∀ x H', (Itr lo n).yld i H x H' → g x (wipe σ vs) H' fun σ2 H2 => wipe σ2 vs = wipe σ vs ∧ tt σ2 H2 fun b H3 =>
        if b = true then te σ2 H3 fun y H4 => ∃ acc, H4 D = some (.lst acc) ∧ acc.length < sizeLine ∧ Nx (upd H4 D (.lst (acc ++ [y]))) else Nx H3) := fun D hD =>
  lc_range (Pv := LcP H D R) (Qd := Qd D) ⟨[], upd_same, Ext.new hD, by rw [del_upd, del_new hD]; exact h0⟩ (fun i H1 hi ⟨acc, h1, e1, r1⟩ => hs i acc D H1 hi hD h1 e1 r1)
    (fun H1 ⟨acc, h1, e1, r1⟩ => hd D acc H1 hD h1 e1 (mono _ _ _ _ del_sub r1))
theorem lc_l {K : PySem.W.Frag} {a : Addr} {xs : List V} {g : TG} {tt : TT} {te : TE} {vs : List Nat} {σ : L2.St} {H : Hp} {Qd : Addr → Hp → Prop} (R : Nat → List V → Hp → Prop) (hl : SqL K H a xs) (nx : ¬ Pl (.lst xs)) (h0 : R 0 [] H) (mono : ∀ i acc H1 H2, Ext H1 H2 → R i acc H1 → R i acc H2)
    (hs : ∀ i x acc D H1, xs[i]? = some x → H D = none → H1 D = some (.lst acc) → Ext H H1 → R i acc (del H1 D) → g x (wipe σ vs) H1 fun σ2 H2 => wipe σ2 vs = wipe σ vs ∧ tt σ2 H2 fun b H3 =>
      if b = true then te σ2 H3 fun y H4 => ∃ acc, H4 D = some (.lst acc) ∧ acc.length < sizeLine ∧ LcP H D R (i + 1) (upd H4 D (.lst (acc ++ [y]))) else LcP H D R (i + 1) H3)
    (hd : ∀ D acc H1, H D = none → H1 D = some (.lst acc) → Ext H H1 → R xs.length acc H1 → Qd D H1) :
    ∀ D, H D = none → ∃ W : Nat → Nat → Hp → Prop, (∃ m, W 0 m (upd H D (.lst []))) ∧ ∀ i m H, W i m H →
      ((Itl K a).stop i H ∧ Qd D H) ∨ ((Itl K a).go i H ∧ ∃ Nx : Hp → Prop, (∀ H', Nx H' → ∃ m', m' < m ∧ W (i + 1) m' H') ∧ ∀ x H', (Itl K a).yld i H x H' → g x (wipe σ vs) H' fun σ2 H2 => wipe σ2 vs = wipe σ vs ∧ tt σ2 H2 fun b H3 =>
        if b = true then te σ2 H3 fun y H4 => ∃ acc, H4 D = some (.lst acc) ∧ acc.length < sizeLine ∧ Nx (upd H4 D (.lst (acc ++ [y]))) else Nx H3) := fun D hD =>
  lc_list (K := K) (a := a) (xs := xs) (Pv := LcP H D R) (Qd := Qd D) ⟨[], upd_same, Ext.new hD, by rw [del_upd, del_new hD]; exact h0⟩ (fun i H1 _ ⟨_, _, e1, _⟩ => e1.seqL hl nx) (fun i x H1 hi ⟨acc, h1, e1, r1⟩ => hs i x acc D H1 hi hD h1 e1 r1)
    (fun H1 ⟨acc, h1, e1, r1⟩ => hd D acc H1 hD h1 e1 (mono _ _ _ _ del_sub r1))
theorem lc_t {K : PySem.W.Frag} {a : Addr} {xs : List V} {g : TG} {tt : TT} {te : TE} {vs : List Nat} {σ : L2.St} {H : Hp} {Qd : Addr → Hp → Prop} (R : Nat → List V → Hp → Prop) (hl : SqT K H a xs) (h0 : R 0 [] H) (mono : ∀ i acc H1 H2, Ext H1 H2 → R i acc H1 → R i acc H2)
    (hs : ∀ i x acc D H1, xs[i]? = some x → H D = none → H1 D = some (.lst acc) → Ext H H1 → R i acc (del H1 D) → g x (wipe σ vs) H1 fun σ2 H2 => wipe σ2 vs = wipe σ vs ∧ tt σ2 H2 fun b H3 =>
      if b = true then te σ2 H3 fun y H4 => ∃ acc, H4 D = some (.lst acc) ∧ acc.length < sizeLine ∧ LcP H D R (i + 1) (upd H4 D (.lst (acc ++ [y]))) else LcP H D R (i + 1) H3)
    (hd : ∀ D acc H1, H D = none → H1 D = some (.lst acc) → Ext H H1 → R xs.length acc H1 → Qd D H1) :
    ∀ D, H D = none → ∃ W : Nat → Nat → Hp → Prop, (∃ m, W 0 m (upd H D (.lst []))) ∧ ∀ i m H, W i m H →
      ((Itt K a).stop i H ∧ Qd D H) ∨ ((Itt K a).go i H ∧ ∃ Nx : Hp → Prop, (∀ H', Nx H' → ∃ m', m' < m ∧ W (i + 1) m' H') ∧ ∀ x H', (Itt K a).yld i H x H' → g x (wipe σ vs) H' fun σ2 H2 => wipe σ2 vs = wipe σ vs ∧ tt σ2 H2 fun b H3 =>
        if b = true then te σ2 H3 fun y H4 => ∃ acc, H4 D = some (.lst acc) ∧ acc.length < sizeLine ∧ Nx (upd H4 D (.lst (acc ++ [y]))) else Nx H3) := fun D hD =>
  lc_tup (K := K) (a := a) (xs := xs) (Pv := LcP H D R) (Qd := Qd D) ⟨[], upd_same, Ext.new hD, by rw [del_upd, del_new hD]; exact h0⟩ (fun i H1 _ ⟨_, _, e1, _⟩ => e1.seqT hl) (fun i x H1 hi ⟨acc, h1, e1, r1⟩ => hs i x acc D H1 hi hD h1 e1 r1)
    (fun H1 ⟨acc, h1, e1, r1⟩ => hd D acc H1 hD h1 e1 (mono _ _ _ _ del_sub r1))
theorem PoolAt.upd {H : Hp} {v : V} {l : Addr} {o0 o : HO} (h : PoolAt H v) (hl : H l = some o0) (n : ¬ Pl o0) : PoolAt (upd H l o) v := by
  obtain ⟨a, c, k, b, s, rfl, h⟩ := h
  refine ⟨a, c, k, b, s, rfl, ?_⟩
  rw [upd_ne (fun e => n (by subst e; rw [hl] at h; cases h; exact ⟨_, _, _, _, rfl⟩))]
  exact h
/-! ### the readings, step by step -/
section
variable {σ : L2.St} {H : Hp} {Q : VK} {QB : Bool → Hp → Prop} {QL : List V → Hp → Prop} {QS : L2.St → Hp → Prop} {D : Ends} {K : PySem.W.Frag}
theorem w_var {i : Nat} {v : V} (h : σ[i]? = some (some v)) (q : Q v H) : tVar i σ H Q := ⟨v, h, q⟩
theorem w_c {v : V} (q : Q v H) : tC v σ H Q := q
theorem w_op {r : R2} {ta tb : TE} (h : ta σ H fun x H1 => tb σ H1 fun y H2 => r x y H2 Q) : tOp r ta tb σ H Q := h
theorem w_un {r : V → Hp → VK → Prop} {ta : TE} (h : ta σ H fun x H1 => r x H1 Q) : tUn r ta σ H Q := h
theorem w_rU {g : Int → V} {i : Int} (q : Q (g i) H) : rU g (.int i) H Q := ⟨i, rfl, q⟩
theorem w_rI0 {g : Int → Int → V} {i j : Int} (q : Q (g i j) H) : rI0 g (.int i) (.int j) H Q := ⟨i, j, rfl, rfl, q⟩
theorem w_rI {C : Int → Int → Prop} {g : Int → Int → V} {i j : Int} (c : C i j) (q : Q (g i j) H) : rI C g (.int i) (.int j) H Q := ⟨i, j, rfl, rfl, c, q⟩
theorem w_rEq {x y : V} (s : scal x y = true) (q : Q (.bl (decide (x = y))) H) : rEq x y H Q := ⟨s, q⟩
theorem w_rNe {x y : V} (s : scal x y = true) (q : Q (.bl (!decide (x = y))) H) : rNe x y H Q := ⟨s, q⟩
theorem w_seq {t u : TS} (h : t { D with nx := u D } σ H) : tSeq t u D σ H := h
theorem w_cut {t u : TS} (Mid : L2.St → Hp → Prop) (h : t { D with nx := Mid } σ H) (h2 : ∀ σ' H', Mid σ' H' → u D σ' H') : C8.tCut t u D σ H := ⟨Mid, h, h2⟩
theorem w_next (h : D.nx σ H) : tNext D σ H := h
theorem w_break (h : D.bk σ H) : tBreak D σ H := h
theorem w_cont (h : D.ct σ H) : tCont D σ H := h
theorem w_asg {te : TE} {g : TG} (h : te σ H fun x H1 => g x σ H1 D.nx) : tAsg te g D σ H := h
theorem w_gname {i : Nat} {v : V} {σ' : L2.St} (e : σ.set i (some v) = σ') (h : QS σ' H) : gName i v σ H QS := by subst e; exact h
theorem w_aug {i : Nat} {te : TE} {ti : TIp} {x : V} (h0 : σ[i]? = some (some x)) (h : te σ H fun y H1 => ti x y H1 fun z H2 => D.nx (σ.set i (some z)) H2) : tAug i te ti D σ H := ⟨x, h0, h⟩
theorem w_ipI {f : Int → Int → Int} {i j : Int} (q : Q (.int (f i j)) H) : ipI f (.int i) (.int j) H Q := ⟨i, j, rfl, rfl, q⟩
theorem w_ret {te : TE} (h : te σ H D.rt) : tRet te D σ H := h
theorem w_retN (h : D.rt .non H) : tRetN D σ H := h
theorem w_drop {te : TE} (h : te σ H fun _ H1 => D.nx σ H1) : tDrop te D σ H := h
theorem w_ifS {c : TT} {t u : TS} (h : c σ H fun b H1 => if b = true then t D σ H1 else u D σ H1) : tIfS c t u D σ H := h
theorem w_tTest {t : TE} (h : t σ H fun x H' => ∃ k, x = .bl k ∧ QB k H') : tTest t σ H QB := h
theorem w_tB {t : TE} (h : t σ H fun x H' => ∃ k, x = .bl k ∧ QB k H') : tB t σ H QB := h
theorem w_exbl {b : Bool} {p : Bool → Prop} (h : p b) : ∃ k, V.bl b = V.bl k ∧ p k := ⟨b, rfl, h⟩
theorem w_and {t u : TT} (h : t σ H fun c H1 => if c = true then u σ H1 QB else QB false H1) : tAnd t u σ H QB := h
theorem w_or {t u : TT} (h : t σ H fun c H1 => if c = true then QB true H1 else u σ H1 QB) : tOr t u σ H QB := h
theorem w_not {t : TT} (h : t σ H fun c H1 => QB (!c) H1) : tNot t σ H QB := h
theorem w_andV {ta tb : TE} (h : ta σ H fun x H1 => ∃ c, x = .bl c ∧ if c = true then tb σ H1 Q else Q (.bl false) H1) : tAndV ta tb σ H Q := h
theorem w_orV {ta tb : TE} (h : ta σ H fun x H1 => ∃ c, x = .bl c ∧ if c = true then Q (.bl true) H1 else tb σ H1 Q) : tOrV ta tb σ H Q := h
theorem w_notV {ta : TE} (h : ta σ H fun x H1 => ∃ c, x = .bl c ∧ Q (.bl (!c)) H1) : tNotV ta σ H Q := h
theorem w_if {t : TT} {ta tb : TE} (h : t σ H fun c H1 => if c = true then ta σ H1 Q else tb σ H1 Q) : tIf t ta tb σ H Q := h
theorem w_lc {wi : TI} {g : TG} {tt : TT} {te : TE} {vs : List Nat} (h : wi σ H fun J H1 => ∀ D, H1 D = none → ∃ W : Nat → Nat → Hp → Prop, (∃ m, W 0 m (upd H1 D (.lst []))) ∧ ∀ i m H, W i m H →
      (J.stop i H ∧ Q (.ref D) H) ∨ (J.go i H ∧ ∃ Nx : Hp → Prop, (∀ H', Nx H' → ∃ m', m' < m ∧ W (i + 1) m' H') ∧ ∀ x H', J.yld i H x H' → g x (wipe σ vs) H' fun σ2 H2 => wipe σ2 vs = wipe σ vs ∧ tt σ2 H2 fun b H3 =>
        if b = true then te σ2 H3 fun y H4 => ∃ acc, H4 D = some (.lst acc) ∧ acc.length < sizeLine ∧ Nx (upd H4 D (.lst (acc ++ [y]))) else Nx H3)) : tLc wi g tt te vs σ H Q := h
theorem w_for {wi : TI} {g : TG} {tb : TS} (h : wi σ H fun J H1 => ∃ W : Nat → Nat → L2.St → Hp → Prop, (∃ m, W 0 m σ H1) ∧ ∀ i m σ H, W i m σ H →
      (J.stop i H ∧ D.nx σ H) ∨ (J.go i H ∧ ∃ N : L2.St → Hp → Prop, (∀ σ' H', N σ' H' → ∃ m', m' < m ∧ W (i + 1) m' σ' H') ∧ ∀ x H', J.yld i H x H' → g x σ H' fun σ2 H2 => tb { D with nx := N, ct := N, bk := D.nx } σ2 H2)) : tFor wi g tb D σ H := h
theorem w_rng1 {ta : TA} {R : It → Hp → Prop} (h : ta σ H fun vs H1 => ∃ j : Int, vs = [.int j] ∧ -(2 ^ 62) ≤ j ∧ j < 2 ^ 62 ∧ R (Itr 0 j.toNat) H1) : iRng1 ta σ H R := h
theorem w_rng1x {j : Int} {p : Int → Prop} (h0 : -4611686018427387904 ≤ j) (h1 : j < 4611686018427387904) (q : p j) : ∃ k : Int, [V.int j] = [.int k] ∧ -(2 ^ 62) ≤ k ∧ k < 2 ^ 62 ∧ p k := ⟨j, rfl, by omega, by omega, q⟩
theorem w_ilist {tl : TE} {R : It → Hp → Prop} (h : tl σ H fun x H1 => ∃ a, x = .ref a ∧ (∃ xs, SqL K H1 a xs) ∧ R (Itl K a) H1) : iList K tl σ H R := h
theorem w_itup {tl : TE} {R : It → Hp → Prop} (h : tl σ H fun x H1 => ∃ a, x = .ref a ∧ (∃ xs, SqT K H1 a xs) ∧ R (Itt K a) H1) : iTup K tl σ H R := h
theorem w_iseq {tl : TE} {R : It → Hp → Prop} (h : tl σ H fun x H1 => ∃ a, x = .ref a ∧ (((∃ xs, SqL K H1 a xs) ∧ R (Itl K a) H1) ∨ ((∃ xs, SqT K H1 a xs) ∧ R (Itt K a) H1))) : iSeq K tl σ H R := h
theorem w_ilistx {a : Addr} {xs : List V} {p : Addr → Prop} (h : SqL K H a xs) (q : p a) : ∃ b, V.ref a = .ref b ∧ (∃ xs, SqL K H b xs) ∧ p b := ⟨a, rfl, ⟨xs, h⟩, q⟩
theorem w_itupx {a : Addr} {xs : List V} {p : Addr → Prop} (h : SqT K H a xs) (q : p a) : ∃ b, V.ref a = .ref b ∧ (∃ xs, SqT K H b xs) ∧ p b := ⟨a, rfl, ⟨xs, h⟩, q⟩
theorem w_wipe {σ' : L2.St} {vs : List Nat} {p : Prop} (e : wipe σ vs = wipe σ' vs) (q : p) : wipe σ vs = wipe σ' vs ∧ p := ⟨e, q⟩
theorem w_yes {QY : Bool → Hp → Prop} (q : QY true H) : tYes σ H QY := q
theorem w_isN {ta : TE} (h : ta σ H fun x H1 => Q (.bl (decide (x = .non))) H1) : tIsN ta σ H Q := h
theorem w_notN {ta : TE} (h : ta σ H fun x H1 => Q (.bl (!decide (x = .non))) H1) : tNotN ta σ H Q := h
theorem w_cb {r : List V → Hp → VK → Prop} {t : TA} (h : t σ H fun vs H1 => r vs H1 Q) : tCB r t σ H Q := h
theorem w_nil (h : QL [] H) : tNil σ H QL := h
theorem w_cons {ta : TE} {tr : TA} (h : ta σ H fun x H1 => tr σ H1 fun xs H2 => QL (x :: xs) H2) : tCons ta tr σ H QL := h
theorem w_tup {t : TA} (h : t σ H fun xs H1 => xs.length ≤ sizeLine ∧ ∀ p, H1 p = none → Q (.ref p) (upd H1 p (.tup xs))) : tTup t σ H Q := h
theorem w_lst {t : TA} (h : t σ H fun xs H1 => xs.length ≤ sizeLine ∧ ∀ p, H1 p = none → Q (.ref p) (upd H1 p (.lst xs))) : tLst t σ H Q := h
theorem le_line {n : Nat} (h : Nat.ble n 1000 = true) : n ≤ sizeLine := Nat.le_of_lt (small1000 (Nat.le_of_ble_eq_true h))
theorem w_lines {n : Nat} {p : Prop} (h : Nat.ble n 1000 = true) (q : p) : n ≤ sizeLine ∧ p := ⟨le_line h, q⟩
theorem w_call {sp : Sp} {dvs : List V} {E : XK} {t : TA} (h : t σ H fun vs H1 => sp (vs ++ dvs) H1 Q E) : tCall sp dvs E t σ H Q := h
theorem w_dnewK (h : ∀ p, H p = none → Q (.ref p) (upd H p (.dK []))) : tDNewK σ H Q := h
theorem w_dget {td ty : TE} (h : td σ H fun x H1 => ty σ H1 fun y H2 => ∃ a v, x = .ref a ∧ DGet H2 a y (some v) ∧ Q v H2) : tDGet td ty σ H Q := h
theorem w_sl {r : V → Option Int → Option Int → Hp → VK → Prop} {te : TE} {tl th : TO} (h : te σ H fun x H1 => tl σ H1 fun l H2 => th σ H2 fun u H3 => r x l u H3 Q) : tSl r te tl th σ H Q := h
theorem w_nopart {QO : Option Int → Hp → Prop} (h : QO none H) : tNoPart σ H QO := h
theorem w_part {QO : Option Int → Hp → Prop} {t : TE} (h : t σ H fun x H1 => ∃ i, x = .int i ∧ QO (some i) H1) : tPart t σ H QO := h
theorem w_exint {i : Int} {p : Int → Prop} (h : p i) : ∃ k, V.int i = V.int k ∧ p k := ⟨i, rfl, h⟩
theorem w_bm {T : String} {r : V → List V → Hp → VK → Prop} {to : TE} {t : TA} (h : to σ H fun x H1 => tyV K T x H1 ∧ t σ H1 fun xs H2 => r x xs H2 Q) : tBM K T r to t σ H Q := h
theorem w_bm0 {T : String} {r : V → List V → Hp → VK → Prop} {to : TE} (h : to σ H fun x H1 => tyV K T x H1 ∧ r x [] H1 Q) : tBM0 K T r to σ H Q := h
theorem ty_list {l : Addr} {xs : List V} (h : H l = some (.lst xs)) : tyV K "list" (.ref l) H := Or.inl ⟨rfl, _, SqL.of h⟩
theorem w_bmL {l : Addr} {xs : List V} {p : Prop} (h : H l = some (.lst xs)) (q : p) : tyV K "list" (.ref l) H ∧ p := ⟨ty_list h, q⟩
theorem w_append {l : Addr} {xs : List V} {y : V} (h : H l = some (.lst xs)) (n : xs.length < sizeLine) (q : Q .non (upd H l (.lst (xs ++ [y])))) : rAppend (.ref l) [y] H Q := ⟨l, xs, y, rfl, rfl, h, n, q⟩
theorem w_ixL {p : Addr} {xs : List V} {i : Int} {v : V} (h : SqL K H p xs) (e : atI xs i = some v) (q : Q v H) : rIxL K (.ref p) (.int i) H Q := ⟨p, xs, i, v, rfl, rfl, h, e, q⟩
theorem w_ixT {p : Addr} {xs : List V} {i : Int} {v : V} (h : SqT K H p xs) (e : atI xs i = some v) (q : Q v H) : rIxT K (.ref p) (.int i) H Q := ⟨p, xs, i, v, rfl, rfl, h, e, q⟩
theorem w_setL {p : Addr} {xs : List V} {k : Int} {j : Nat} {v : V} {QH : Hp → Prop} (h : H p = some (.lst xs)) (e : ixN xs.length k = some j) (q : QH (upd H p (.lst (xs.set j v)))) : rSetL (.ref p) (.int k) v H QH := ⟨p, xs, k, j, rfl, rfl, h, e, q⟩
theorem w_cat {l b : Addr} {xs zs : List V} (h1 : H l = some (.lst xs)) (h2 : H b = some (.lst zs)) (n : xs.length + zs.length ≤ 1000) (q : ∀ p, H p = none → Q (.ref p) (upd H p (.lst (xs ++ zs)))) : rCat (.ref l) (.ref b) H Q := ⟨l, b, xs, zs, rfl, rfl, h1, h2, Nat.le_of_lt (small1000 n), q⟩
theorem w_slL {a : Addr} {xs : List V} {lo hi : Option Int} (h : SqL K H a xs) (q : ∀ p, H p = none → Q (.ref p) (upd H p (.lst (cutV xs lo hi)))) : rSlL K (.ref a) lo hi H Q := ⟨a, xs, rfl, h, q⟩
theorem inV_int (n : Int) : ∀ ns : List Int, inV (.int n) (ns.map V.int) = decide (n ∈ ns)
  | [] => by simp [inV]
  | m :: r => by
    have ih := inV_int n r
    unfold inV at ih ⊢
    rw [List.map_cons, List.any_cons, ih]
    have e : eqV (.int m) (.int n) = decide (n = m) := by
      show (m == n) = decide (n = m)
      by_cases h : m = n
      · subst h; simp
      · rw [decide_eq_false (fun z => h z.symm)]; simpa using h
    rw [e, ← Bool.decide_or]
    simp only [List.mem_cons]
theorem flat_ints : ∀ ns : List Int, (ns.map V.int).all flatV = true
  | [] => rfl
  | _ :: r => by rw [List.map_cons, List.all_cons, flat_ints r]; rfl
theorem w_inL {p : Addr} {ns : List Int} {n : Int} (h : SqL K H p (ns.map V.int)) (q : Q (.bl (decide (n ∈ ns))) H) : rIn K false (.int n) (.ref p) H Q := ⟨p, _, rfl, .inl h, rfl, flat_ints ns, by rw [if_neg Bool.false_ne_true, inV_int]; exact q⟩
theorem w_inT {p : Addr} {ns : List Int} {n : Int} (h : SqT K H p (ns.map V.int)) (q : Q (.bl (decide (n ∈ ns))) H) : rIn K false (.int n) (.ref p) H Q := ⟨p, _, rfl, .inr h, rfl, flat_ints ns, by rw [if_neg Bool.false_ne_true, inV_int]; exact q⟩
theorem w_ninL {p : Addr} {ns : List Int} {n : Int} (h : SqL K H p (ns.map V.int)) (q : Q (.bl (!decide (n ∈ ns))) H) : rIn K true (.int n) (.ref p) H Q := ⟨p, _, rfl, .inl h, rfl, flat_ints ns, by rw [if_pos rfl, inV_int]; exact q⟩
theorem w_ninT {p : Addr} {ns : List Int} {n : Int} (h : SqT K H p (ns.map V.int)) (q : Q (.bl (!decide (n ∈ ns))) H) : rIn K true (.int n) (.ref p) H Q := ⟨p, _, rfl, .inr h, rfl, flat_ints ns, by rw [if_pos rfl, inV_int]; exact q⟩
theorem w_listof {a : Addr} {ys : List V} {p : Addr → List V → Prop} (h : SqL K H a ys) (q : p a ys) : ∃ b zs, [V.ref a] = [.ref b] ∧ (SqL K H b zs ∨ SqT K H b zs) ∧ p b zs := ⟨a, ys, rfl, .inl h, q⟩
theorem w_tupof {a : Addr} {ys : List V} {A B : Addr → List V → Prop} (h : SqL K H a ys) (q : A a ys) : ∃ b zs, [V.ref a] = [.ref b] ∧ ((SqL K H b zs ∧ A b zs) ∨ (SqT K H b zs ∧ B b zs)) := ⟨a, ys, rfl, .inl ⟨h, q⟩⟩
theorem w_gsub {to ti : TE} {t : TSet} {v : V} (h : to σ H fun o H1 => ti σ H1 fun i H2 => t o i v H2 fun H3 => QS σ H3) : gSub to ti t v σ H QS := h
theorem w_len {a : Addr} {xs : List V} {p : Nat → Prop} (h : SqL K H a xs) (q : p xs.length) : ∃ x n, [V.ref a] = [x] ∧ LenV K x H n ∧ p n := ⟨_, _, rfl, .inl ⟨_, h, rfl⟩, q⟩
theorem w_lenT {a : Addr} {xs : List V} {p : Nat → Prop} (h : SqT K H a xs) (q : p xs.length) : ∃ x n, [V.ref a] = [x] ∧ LenV K x H n ∧ p n := ⟨_, _, rfl, .inr ⟨_, h, rfl⟩, q⟩
theorem w_int1 {i : Int} {p : Int → Prop} {r : Bool → Prop} (q : p i) : (∃ j, [V.int i] = [.int j] ∧ p j) ∨ ∃ k, [V.int i] = [.bl k] ∧ r k := .inl ⟨i, rfl, q⟩
theorem w_intb {b : Bool} {p : Int → Prop} {r : Bool → Prop} (q : r b) : (∃ j, [V.bl b] = [.int j] ∧ p j) ∨ ∃ k, [V.bl b] = [.bl k] ∧ r k := .inr ⟨b, rfl, q⟩
theorem w_abs {i : Int} {p : Int → Prop} (q : p i) : ∃ j, [V.int i] = [.int j] ∧ p j := ⟨i, rfl, q⟩
end
theorem fmod_pos {a b : Int} (h : 0 < b) : 0 ≤ a.fmod b ∧ a.fmod b < b := by
  rw [Int.fmod_eq_emod_of_nonneg a (by omega)]
  exact ⟨Int.emod_nonneg a (by omega), Int.emod_lt_of_pos a h⟩
theorem cmul_fmod {x m y : Int} (h0 : 0 < m) (h1 : m < 18446744073709551616) : CMul (x.fmod m) y := .inl (by have := fmod_pos (a := x) h0; omega)
theorem w_start {t : TS} {D : Ends} {N : List Str} {vs : List V} {σ : L2.St} {H : Hp} (e : L2.start N vs = σ) (h : t D σ H) : t D (L2.start N vs) H := by rw [e]; exact h
theorem ixN_nat {n j : Nat} (h : Nat.blt j n = true) : ixN n (j : Int) = some j := by
  have h' : j < n := Nat.le_of_ble_eq_true h
  unfold ixN
  rw [if_pos (by omega), if_pos (by omega), Int.toNat_natCast]
/-! ### isinstance of built-in types -/
theorem w_isi {K : PySem.W.Frag} {H : Hp} {Q : VK} {x : V} {a b : String} {r : Bool} (ty : TyX K H x (.type a)) (e : kitB a b = some r) (q : Q (.bl r) H) : rIsi K [x, .ty b] H Q := ⟨x, .ty b, _, _, r, rfl, .ty b, ty, kit_ty e, q⟩
theorem isi_int_int : kitB "int" "int" = some true := by decide +kernel
theorem isi_int_bool : kitB "int" "bool" = some false := by decide +kernel
theorem isi_int_str : kitB "int" "str" = some false := by decide +kernel
theorem isi_int_list : kitB "int" "list" = some false := by decide +kernel
theorem isi_int_tuple : kitB "int" "tuple" = some false := by decide +kernel
theorem isi_bool_int : kitB "bool" "int" = some true := by decide +kernel
theorem isi_bool_bool : kitB "bool" "bool" = some true := by decide +kernel
theorem isi_bool_str : kitB "bool" "str" = some false := by decide +kernel
theorem isi_bool_list : kitB "bool" "list" = some false := by decide +kernel
theorem isi_bool_tuple : kitB "bool" "tuple" = some false := by decide +kernel
theorem isi_str_int : kitB "str" "int" = some false := by decide +kernel
theorem isi_str_bool : kitB "str" "bool" = some false := by decide +kernel
theorem isi_str_str : kitB "str" "str" = some true := by decide +kernel
theorem isi_str_list : kitB "str" "list" = some false := by decide +kernel
theorem isi_str_tuple : kitB "str" "tuple" = some false := by decide +kernel
theorem isi_non_list : kitB "NoneType" "list" = some false := by decide +kernel
theorem isi_non_tuple : kitB "NoneType" "tuple" = some false := by decide +kernel
theorem isi_list_list : kitB "list" "list" = some true := by decide +kernel
theorem isi_list_tuple : kitB "list" "tuple" = some false := by decide +kernel
theorem isi_tuple_list : kitB "tuple" "list" = some false := by decide +kernel
theorem isi_tuple_tuple : kitB "tuple" "tuple" = some true := by decide +kernel
theorem isi_dict_dict : kitB "dict" "dict" = some true := by decide +kernel
/-! ### branches -/
section
variable {A B : Prop} {p : Prop} [Decidable p]
theorem iteNT (q : B) : if (!true) = true then A else B := iteF q
theorem iteNF (q : A) : if (!false) = true then A else B := iteT q
theorem ite_d (h1 : p → A) (h2 : ¬ p → B) : if decide p = true then A else B := by
  by_cases h : p
  · rw [if_pos (decide_eq_true h)]; exact h1 h
  · rw [if_neg (by rw [decide_eq_false h]; exact Bool.false_ne_true)]; exact h2 h
theorem ite_nd (h1 : ¬ p → A) (h2 : p → B) : if (!decide p) = true then A else B := by
  by_cases h : p
  · rw [decide_eq_true h]; exact iteF (h2 h)
  · rw [decide_eq_false h]; exact iteT (h1 h)
theorem ite_decT (h : p) (q : A) : if decide p = true then A else B := by rw [if_pos (decide_eq_true h)]; exact q
theorem ite_decF (h : ¬ p) (q : B) : if decide p = true then A else B := by rw [if_neg (by rw [decide_eq_false h]; exact Bool.false_ne_true)]; exact q
theorem ite_ndecT (h : ¬ p) (q : A) : if (!decide p) = true then A else B := by rw [decide_eq_false h]; exact iteT q
theorem ite_ndecF (h : p) (q : B) : if (!decide p) = true then A else B := by rw [decide_eq_true h]; exact iteF q
theorem ite_viT {i j : Int} (h : i = j) (q : A) : if decide (V.int i = V.int j) = true then A else B := ite_decT (by rw [h]) q
theorem ite_viF {i j : Int} (h : i ≠ j) (q : B) : if decide (V.int i = V.int j) = true then A else B := ite_decF (fun e => h (V.int.inj e)) q
theorem ite_nviT {i j : Int} (h : i ≠ j) (q : A) : if (!decide (V.int i = V.int j)) = true then A else B := ite_ndecT (fun e => h (V.int.inj e)) q
theorem ite_nviF {i j : Int} (h : i = j) (q : B) : if (!decide (V.int i = V.int j)) = true then A else B := ite_ndecF (by rw [h]) q
theorem ite_vi {i j : Int} (h1 : i = j → A) (h2 : i ≠ j → B) : if decide (V.int i = V.int j) = true then A else B := ite_d (fun e => h1 (V.int.inj e)) fun e => h2 fun z => e (by rw [z])
theorem ite_nvi {i j : Int} (h1 : i ≠ j → A) (h2 : i = j → B) : if (!decide (V.int i = V.int j)) = true then A else B := ite_nd (fun e => h1 fun z => e (by rw [z])) fun e => h2 (V.int.inj e)
theorem ite_b {b : Bool} (h1 : b = true → A) (h2 : b = false → B) : if b = true then A else B := by
  cases b
  · exact iteF (h2 rfl)
  · exact iteT (h1 rfl)
end
end Kf

end
section
set_option Elab.async false
set_option linter.all false
set_option maxRecDepth 100000
set_option maxHeartbeats 4000000
namespace Kf
open PySem PySem.Spec PyProof.Rows L2 RT
theorem nolen_rt : typeLookup (.type "reversed") "__len__" = pure none := by rw [typeLookup_type, builtinLookup_eq_fast]; kernel_rfl
theorem slot_rt_hint : Slot "reversed" "__length_hint__" "reversed.__length_hint__" :=
  .of (owner := "reversed") (n := "__length_hint__") (by rw [typeLookup_type, builtinLookup_eq_fast]; kernel_rfl) (by decide +kernel) (by decide +kernel) (by decide +kernel)
    (by first | exact .inl (by decide +kernel) | exact .inr (by decide +kernel)) (by rw [isSubtype_type]; kernel_rfl)
theorem entry_rt_hint : entryFor table "reversed.__length_hint__" = some Builtin.«reversed.__length_hint__» := entryFor_of_tree (by kernel_rfl)
theorem args_rt_hint (a : Value) : argsOk "reversed.__length_hint__" ⟨[a], []⟩ := by
  unfold argsOk; rw [signature?_of (id := "reversed.__length_hint__") (n := ['_', '_', 't', 'n', 'i', 'h', '_', 'h', 't', 'g', 'n', 'e', 'l', '_', '_']) (o := ['d', 'e', 's', 'r', 'e', 'v', 'e', 'r']) (by kernel_rfl) owner_rt]; kernel_rfl
section
variable {prog : Program} {w : World} {A : Around} {E : Value → Shared → Prop} {s : Shared}
theorem hint_rt {it t : Addr} {n : Nat} {items : Array Value} {Q : Bool → Shared → Prop} (hit : IsRt s.heap it t ((items.size : Int) - 1)) (ht : IsTup s.heap t items) (hz : items.size ≤ sizeLine)
    (hQ : ∀ b tk, Q b { s with toks := tk }) : wpAny (model prog w) A (Builtin.List.listLengthHint (.ref it)) Q E s := by
  have hT := hit.typeIs
  obtain ⟨o, ho, hc, hd⟩ := id hit
  unfold Builtin.List.listLengthHint
  refine wpAny_bind (wpAny_specialOf hT nolen_rt ?_)
  show wpAny _ _ (specialOf (Value.ref it) (Str.ofString "__length_hint__") >>= _) _ _ _
  refine wpAny_bind (wpAny_specialOf hT slot_rt_hint.lookup ?_)
  generalize hid : ("reversed.__length_hint__" : String) = id0
  wp_delta
  rw [show splitId id0 = some ("reversed", "__length_hint__") from by subst hid; decide +kernel]
  subst hid
  refine wpAny_bind (wpAny_isInstance (b := true) hT (by rw [isSubtype_type]; kernel_rfl) ?_)
  rw [if_neg (by decide)]
  refine wpAny_bind (wpAny_rule ?_)
  refine wpAny_bind (wpAny_of_eq (slot_rt_hint.bind _) ?_)
  refine wpAny_bind (wpAny_attempt (wpAny_call_entry slot_rt_hint hT entry_rt_hint ?_ (args_rt_hint _)))
  unfold Builtin.«reversed.__length_hint__»
  refine wpAny_bind (wpAny_of_eq (a := Value.ref it) rfl ?_)
  refine wpAny_bind (wpAny_field ho hd (x := .ref t) rfl ?_)
  rw [if_neg (by intro z; cases z)]
  have hl := sizeLine_eq
  refine wpAny_bind (len_tuple ht (by omega) ?_)
  refine wpAny_bind (wpAny_of_eq (a := some ((items.size : Nat) : Int)) rfl ?_)
  refine wpAny_bind (wpAny_field ho hd (x := rawInt ((items.size : Int) - 1)) rfl ?_)
  show wpAny _ _ (if ((items.size : Nat) : Int) < (items.size : Int) - 1 + 1 then _ else retInt ((items.size : Int) - 1 + 1)) _ _ _
  rw [if_neg (by omega)]
  unfold retInt
  refine wpAny_bind (wpAny_mkInt (wpAny_pure ⟨_, rfl, ?_⟩))
  show wpAny _ _ (asInt? (.int ((items.size : Int) - 1 + 1) _) >>= _) _ _ _
  refine wpAny_bind (wpAny_of_eq (a := some ((items.size : Int) - 1 + 1)) rfl ?_)
  have h1 : Builtin.List.listFitsIndex ((items.size : Int) - 1 + 1) = true := by
    unfold Builtin.List.listFitsIndex
    rw [Bool.and_eq_true]
    exact ⟨decide_eq_true (by omega), decide_eq_true (by omega)⟩
  have h2 : Builtin.List.listTooLong ((items.size : Int) - 1 + 1).toNat = false := by
    unfold Builtin.List.listTooLong
    exact decide_eq_false (by omega)
  dsimp only
  rw [if_neg (by rw [h1]; decide), if_neg (by omega), if_neg (by rw [h2]; decide)]
  exact wpAny_pure (hQ _ _)
theorem hint_lri' {it : Addr} {Q : Bool → Shared → Prop} (hT : s.TypeIs (.ref it) "list_reverseiterator") (hQ : Q false s) : wpAny (model prog w) A (Builtin.List.listLengthHint (.ref it)) Q E s := by
  unfold Builtin.List.listLengthHint
  refine wpAny_bind (wpAny_specialOf hT nolen_lri ?_)
  show wpAny _ _ (specialOf (Value.ref it) (Str.ofString "__length_hint__") >>= _) _ _ _
  refine wpAny_bind (wpAny_specialOf hT hint_lri ?_)
  generalize hid : ("list_reverseiterator.__length_hint__" : String) = id0
  wp_delta
  rw [show splitId id0 = some ("list_reverseiterator", "__length_hint__") by subst hid; decide +kernel]
  subst hid
  refine wpAny_bind (wpAny_isInstance (b := true) hT (by rw [isSubtype_type]; kernel_rfl) ?_)
  rw [if_neg (by decide)]
  first
  | exact wpAny_pure hQ
  | (rw [if_pos (by decide +kernel)]; exact wpAny_pure hQ)
  | (rw [if_pos (by decide +kernel), if_neg (by decide +kernel)]; exact wpAny_pure hQ)
/-- reversed(t), t a tuple, walked -/
theorem walks_rt (hh : A.handled = none) (I t : Addr) (hne : t ≠ I) (items : Array Value) (hz : items.size ≤ sizeLine) :
    Walks prog w A I [I, t] [I] items.size (fun i v => items[items.size - 1 - i]? = some v) (fun i h => i ≤ items.size ∧ IsRt h I t ((items.size : Int) - 1 - (i : Int)) ∧ IsTup h t items) := by
  refine ⟨fun b hb => ?_, fun i h h' x hk => ?_, fun i s Q E hi x hQ => ?_, fun s Q E x hQ => ?_, fun i s Q E x hQ => iter_rt x.2.1 hQ⟩
  · rw [List.mem_singleton] at hb
    subst hb
    exact List.mem_cons_self
  · refine ⟨x.1, x.2.1.at fun o e => hk I List.mem_cons_self o e, ?_⟩
    obtain ⟨o, e, r⟩ := x.2.2
    exact ⟨o, hk t (by simp) o e, r⟩
  · obtain ⟨x1, x2, x3⟩ := x
    rw [show (items.size : Int) - 1 - (i : Int) = ((items.size - 1 - i : Nat) : Int) by omega] at x2
    have hx : items[items.size - 1 - i]? = some (items[items.size - 1 - i]'(by omega)) := Array.getElem?_eq_getElem (by omega)
    refine next_rt_item x2 x3 hx hz fun h' y2 sb => ?_
    rw [show ((items.size - 1 - i : Nat) : Int) - 1 = (items.size : Int) - 1 - ((i + 1 : Nat) : Int) by omega] at y2
    refine hQ _ h' _ hx ⟨hi, y2, ?_⟩ fun b o hb e => (sb.2 b (by simpa using hb)).trans e
    obtain ⟨o, e, r⟩ := x3
    exact ⟨o, (sb.2 t hne).trans e, r⟩
  · obtain ⟨x1, x2, x3⟩ := x
    rw [show (items.size : Int) - 1 - ((items.size : Nat) : Int) = -1 by omega] at x2
    exact next_rt_end hh x2 fun h' eb => hQ h' s.toks fun b o hb e => eb b o (by simpa using hb) e
/-- list(it), it an iterator of n items whose length is hinted at -/
theorem list_iter {T : String} {it d : Addr} {n : Nat} {Pv : Nat → Value → Prop} {St : Nat → Heap → Prop} {Q : Value → Shared → Prop} (W : Walks prog w A.in1.in1 it [it, d] [it] n Pv St) (hn : n ≤ sizeLine) (hT : s.TypeIs (.ref it) T) (n1 : (Value.type T == Value.type "list") = false) (n2 : (Value.type T == Value.type "tuple") = false)
    (hint : ∀ (h : Heap) (tk : Nat) (A : Around) (E : Value → Shared → Prop) (Q : Bool → Shared → Prop), (∀ b ∈ [it, d], ∀ o, s.heap.get? b = some o → h.get? b = some o) → (∀ b tk, Q b { s with heap := h, toks := tk }) → wpAny (model prog w) A (Builtin.List.listLengthHint (.ref it)) Q E { s with heap := h, toks := tk })
    (hd : d < s.heap.objs.size) (st : St 0 s.heap)
    (hQ : ∀ h' tk acc c, (∀ b o, b ≠ it → s.heap.get? b = some o → h'.get? b = some o) → h'.get? s.heap.objs.size = some { cls := .type "list", dict := none, data := .seq acc c, slots := #[] } → ItemsOf Pv acc n → Q (.ref s.heap.objs.size) { s with heap := h', toks := tk }) :
    wpAny (model prog w) A (call (.type "list") [.ref it]) Q E s := by
  have hit : it < s.heap.objs.size := by
    obtain ⟨o, e, _⟩ := hT
    exact Heap.lt_size e
  refine callType_codes (Q₁ := fun obj s₁ => obj = .ref s.heap.objs.size ∧ s₁ = { s with heap := s.heap.push { cls := .type "list", data := .seq #[] } }) PySem.F.called_list (PySem.F.typeCall_list_1 _) PySem.F.entry_list_init
    (code_list_new _ ⟨rfl, rfl⟩) fun obj s₁ h₁ => ?_
  obtain ⟨rfl, rfl⟩ := h₁
  generalize hS' : s.heap.objs.size = S
  have k1 : ∀ b o, s.heap.get? b = some o → (s.heap.push { cls := .type "list", data := .seq #[] }).get? b = some o := fun b o e => Heap.get?_push_of_some _ e
  have hS : (s.heap.push { cls := .type "list", data := .seq #[] }).get? S = some { cls := .type "list", data := .seq #[] } := by rw [← hS']; exact Heap.get?_push_size _ rfl
  have neI : S ≠ it := Nat.ne_of_gt (by rw [← hS']; exact hit)
  have neD : S ≠ d := Nat.ne_of_gt (by rw [← hS']; exact hd)
  have old : ∀ b o, s.heap.get? b = some o → b ≠ S := fun b o e => Nat.ne_of_lt (by rw [← hS']; exact Heap.lt_size e)
  generalize s.heap.push { cls := .type "list", data := .seq #[] } = g at k1 hS
  refine ⟨⟨_, hS, rfl⟩, PySem.F.args_list_init_2 _ _, ?_⟩
  show wpAny _ _ (do let x ← Builtin.List.listItems (.ref S); Builtin.List.listUpdate (.ref S) (fun _ => #[]); letGo x.toList.reverse; Builtin.List.listExtendWith (.ref S) (.ref it) .none) _ _ { s with heap := g }
  refine wpAny_bind ?_
  unfold Builtin.List.listItems
  refine wpAny_bind (wpAny_seqItems hS rfl (wpAny_pure ?_))
  show wpAny _ _ (updateSeq S (fun _ => #[]) >>= fun _ => letGo (#[] : Array Value).toList.reverse >>= fun _ => Builtin.List.listExtendWith (.ref S) (.ref it) .none) _ _ { s with heap := g }
  refine wpAny_bind (wpAny_updateSeq hS rfl ?_)
  have hS2 := Heap.get?_update_self (Obj.mapSeq (fun _ => (#[] : Array Value))) hS rfl
  have k2 : ∀ b o, b ≠ S → g.get? b = some o → (g.update S (Obj.mapSeq (fun _ => (#[] : Array Value)))).get? b = some o := fun b o hb e => (Heap.get?_update_other _ _ (Ne.symm hb)).trans e
  refine wpAny_bind (wpAny_letGo ?_)
  generalize g.update S (Obj.mapSeq (fun _ => (#[] : Array Value))) = g2 at hS2 k2
  have k3 : ∀ b o, s.heap.get? b = some o → g2.get? b = some o := fun b o e => k2 b o (old b o e) (k1 b o e)
  have st2 : St 0 g2 := W.frame 0 _ _ st fun b _ o e => k3 b o e
  have hT2 : ({ s with heap := g2 } : Shared).TypeIs (.ref it) T := by
    obtain ⟨o, e, r⟩ := hT
    exact ⟨o, k3 _ _ e, r⟩
  have hSf : S ∉ [it, d] := by
    simp only [List.mem_cons, List.not_mem_nil, or_false, not_or]
    exact ⟨neI, neD⟩
  have key : ∀ (h : Heap) (c tk : Nat), St 0 h → (∀ b o, b ≠ S → s.heap.get? b = some o → h.get? b = some o) → h.get? S = some { cls := .type "list", data := .seq #[] c } →
      codeAny (model prog w) A.in1 (.builtin "list.extend.loop" ⟨[.ref S, .ref it, .none], []⟩) (wants (fun r s₂ => r = Value.none ∧ Q (.ref S) s₂) E) { s with heap := h, toks := tk } := fun h c tk hst hk hSh => by
    refine codeAny_extend_loopS W.toS hn S hSf .none n 0 _ #[] c rfl (Nat.zero_le _) hst hSh (ItemsOf.nil _) fun s' acc c' hm hSa hacc => ?_
    rw [Moved.eq_with hm]
    refine (show Value.none = Value.none ∧ Q (.ref S) _ from ⟨rfl, ?_⟩)
    rw [← hS']
    refine hQ s'.heap s'.toks acc c' (fun b o hb e => hm.heap b o (fun hmem => ?_) (hk b o (old b o e) e)) (by rw [hS']; exact hSa) hacc
    rcases List.mem_cons.mp hmem with z | z
    · exact old b o e z
    · exact hb (List.mem_singleton.mp z)
  unfold Builtin.List.listExtendWith
  refine wpAny_bind (wpAny_typeOf (T := T) hT2 ?_)
  have h1 : Builtin.List.listSameRef (.ref S) (.ref it) = false := by simp [Builtin.List.listSameRef, neI]
  rw [if_neg (by rw [h1, n1, n2]; decide)]
  refine wpAny_bind (W.self 0 _ _ _ st2 ?_)
  refine wpAny_bind (wpAny_holding (hint g2 s.toks _ _ _ (fun b _ o e => k3 b o e) fun b tk => ?_))
  have qt := plainId_quiet PySem.F.plain_extend_loop ⟨[.ref S, .ref it, .none], []⟩
  refine wpAny_ite_split (fun _ => ?_) (fun _ => wpAny_pure ⟨qt, key g2 0 tk st2 (fun b o _ e => k3 b o e) hS2⟩)
  refine wpAny_bind (wpAny_rule (wpAny_bind ?_))
  show wpAny _ _ (updateSeq S (fun xs => xs.push .none) >>= fun _ => updateSeq S fun xs => xs.pop) _ _ _
  refine wpAny_bind (wpAny_updateSeq hS2 rfl ?_)
  have hS3 := Heap.get?_update_self (Obj.mapSeq (fun xs => xs.push Value.none)) hS2 rfl
  have k4 : ∀ b o, b ≠ S → g2.get? b = some o → (g2.update S (Obj.mapSeq (fun xs => xs.push Value.none))).get? b = some o := fun b o hb e => (Heap.get?_update_other _ _ (Ne.symm hb)).trans e
  generalize g2.update S (Obj.mapSeq (fun xs => xs.push Value.none)) = g3 at hS3 k4
  refine wpAny_updateSeq (hz := by seq_fits) hS3 rfl ?_
  have hS4 := Heap.get?_update_self (Obj.mapSeq (fun xs : Array Value => xs.pop)) hS3 rfl
  have k5 : ∀ b o, b ≠ S → g3.get? b = some o → (g3.update S (Obj.mapSeq (fun xs : Array Value => xs.pop))).get? b = some o := fun b o hb e => (Heap.get?_update_other _ _ (Ne.symm hb)).trans e
  have k6 : ∀ b o, b ≠ S → s.heap.get? b = some o → (g3.update S (Obj.mapSeq (fun xs : Array Value => xs.pop))).get? b = some o := fun b o hb e => k5 b o hb (k4 b o hb (k3 b o e))
  exact wpAny_pure ⟨qt, key _ _ _ (W.frame 0 _ _ st2 fun b hb o e => k5 b o (fun z => hSf (z ▸ hb)) (k4 b o (fun z => hSf (z ▸ hb)) e)) k6 hS4⟩
end
/-! ### the rule -/
section
variable {X : Cx} {K : PySem.W.Frag}
def tListRev (K : PySem.W.Frag) (te : TE) : TE := fun σ H Q => te σ H fun v H1 => ∃ (a : Addr) (xs : List V), v = .ref a ∧ (SqL K H1 a xs ∨ SqT K H1 a xs) ∧ ∀ q, H1 q = none → Q (.ref q) (upd H1 q (.lst xs.reverse))
theorem w_listRev {te : TE} {σ : L2.St} {H : Hp} {Q : VK} (h : te σ H fun v H1 => ∃ (a : Addr) (xs : List V), v = .ref a ∧ (SqL K H1 a xs ∨ SqT K H1 a xs) ∧ ∀ q, H1 q = none → Q (.ref q) (upd H1 q (.lst xs.reverse))) : tListRev K te σ H Q := h
theorem pe_listRev {e : Expr} {te : TE} {p p2 pos pos2 : Pos} (ek : X.K = K) (hc : X.calm = true) (hg : Gl X "list") (hm : X.mg "list" = none) (hg2 : Gl X "reversed") (hm2 : X.mg "reversed" = none) (he : PE X e te)
    (hs : starEach [e] X.env = (false, eval e X.env) :: starEach [] X.env := by rfl)
    (hs2 : starEach [.Call (.Name "reversed" p2) [e] [] pos2] X.env = (false, eval (.Call (.Name "reversed" p2) [e] [] pos2) X.env) :: starEach [] X.env := by rfl) :
    PE X (.Call (.Name "list" p) [.Call (.Name "reversed" p2) [e] [] pos2] [] pos) (tListRev K te) := by
  subst ek
  refine ⟨fun pins s σ H Q I h => ?_⟩
  refine Call_ (ld_blt I hg hm boot_list (PyProof.Rows.callWith_type1 (args_cons (Call_ (ld_blt I hg2 hm2 PyProof.Rows.boot_reversed (PyProof.Rows.callWith_type1 (args_cons (thn (he.run pins s σ H _ I h) fun u s1 ⟨v, H1, I1, r1, q1⟩ => args_nil ?_) hs) hs rfl))) hs2) hs2 rfl))
  obtain ⟨a, xs, ev, hq, q⟩ := q1
  subst ev
  obtain rfl : u = Value.ref a := r1
  have hline := sizeLine_eq
  have fin : ∀ (its : List Value) (s2 : Shared) (it : Addr) (I2 : Inv X pins σ H1 s2) (hf : FpOk X pins H1 it) (hil : it < s2.heap.objs.size), Vals xs its → xs.length ≤ sizeLine → ∀ (h' : Heap) (tk : Nat) (acc : Array Value) (c : Nat), (∀ b o, b ≠ it → s2.heap.get? b = some o → h'.get? b = some o) →
      h'.get? s2.heap.objs.size = some { cls := .type "list", dict := none, data := .seq acc c, slots := #[] } → ItemsOf (fun i v => its.toArray[its.toArray.size - 1 - i]? = some v) acc its.toArray.size → EP X pins σ Q (.ref s2.heap.objs.size) { s2 with heap := h', toks := tk } := by
    intro its s2 it I2 hf hil rv hz h' tk acc c hk hl hacc
    obtain ⟨f0, f1, f2, f3, f4, f5⟩ := hf
    have fresh := I2.hok.fresh (Nat.le_refl s2.heap.objs.size)
    have low : ∀ b o, s2.heap.get? b = some o → b ≠ s2.heap.objs.size := fun b o e => Nat.ne_of_lt (Heap.lt_size e)
    have nit : ∀ b o, H1 b = some o → b ≠ it := fun b o e z => by rw [z, f0] at e; cases e
    have ns : ∀ b o, H1 b = some o → b ≠ s2.heap.objs.size := fun b o e => ne_of_none e fresh
    have ho : HOk X.prog X.w (upd H1 s2.heap.objs.size (.lst xs.reverse)) h' := fun b o e => by
      by_cases hb : b = s2.heap.objs.size
      · subst hb
        rw [L2.upd_same] at e
        cases e
        exact ⟨by rw [List.length_reverse]; exact hz, acc.toList, c, vals_rev rv hacc, by rw [Array.toArray_toList]; exact hl⟩
      · rw [upd_ne hb] at e
        refine (I2.hok b o e).stay (fun d u hd eu => hk d u ?_ eu) (fun d q2 => by rw [upd_ne (ns d _ q2)]; exact q2) fun d ys q2 => by rw [upd_ne (ns d _ q2)]; exact q2
        rcases hd with z | z
        · rw [z]; exact nit b o e
        · exact nit d _ z
    refine ⟨.ref s2.heap.objs.size, upd H1 s2.heap.objs.size (.lst xs.reverse), ?_, rfl, q _ fresh⟩
    refine I2.step (g' := s2.gens) (d' := s2.drawn) (ch := [it]) (fun b hb => ?_) (fun b o _ _ hc e _ => hk b o (fun z => hc (by rw [z]; exact List.mem_cons_self)) e) (fun b o _ _ hc e _ => ⟨o.slots, hk b o (fun z => hc (by rw [z]; exact List.mem_cons_self)) e⟩)
      (fun b o _ e n => by rw [upd_ne (low b o e)]; exact n) (fun b o hc e => ⟨o, hk b o (fun z => hc (by rw [z]; exact List.mem_cons_self)) e⟩) (fun b ys e => by rw [upd_ne (ns b _ e)]; exact e) (fun b o u e => by rw [upd_ne (ns b _ e)]; exact e)
      (fun b ps e => ⟨#[], by rw [upd_ne (ns b _ e), e]; simp⟩) (fun m hm => ?_) ho I2.bare
    · rw [List.mem_singleton] at hb
      subst hb
      exact ⟨f3, f1, f4, f5⟩
    · obtain ⟨o, es, ep, e, r⟩ := hm
      exact ⟨o, es, ep, hk _ o (Ne.symm f1) e, r⟩
  have k0 : ∀ (ob : Obj) b o, s1.heap.get? b = some o → (s1.heap.push ob).get? b = some o := fun ob b o e => Heap.get?_push_of_some _ e
  have fp := I1.fpOk (H' := H1) (b := s1.heap.objs.size) (Nat.le_refl _) (I1.hok.fresh (Nat.le_refl _))
  have hd1 : X.A.handled = none := I1.ok.hd hc
  rcases hq with hq | hq
  · obtain ⟨its, rv, pl, hz⟩ := I1.list hq
    have il := pl.isList
    have hlen := rv.length
    obtain ⟨ol, hol, _⟩ := id il
    have hla := Heap.lt_size hol
    refine call_reversed_list il (args_nil ?_)
    have I2 : Inv X pins σ H1 { s1 with heap := s1.heap.push (revObj a ((its.toArray.size : Int) - 1)) } := I1.kept (t' := s1.toks) (k0 _)
    have hs : its.toArray.size ≤ sizeLine := by rw [List.size_toArray]; omega
    have hri : (s1.heap.push (revObj a ((its.toArray.size : Int) - 1))).IsRevIter s1.heap.objs.size a ((its.toArray.size : Int) - 1 - ((0 : Nat) : Int)) := by
      rw [show (its.toArray.size : Int) - 1 - ((0 : Nat) : Int) = (its.toArray.size : Int) - 1 by omega]
      exact ⟨_, Heap.get?_push_size _ rfl, rfl, rfl⟩
    refine list_iter (T := "list_reverseiterator") (s := { s1 with heap := s1.heap.push (revObj a ((its.toArray.size : Int) - 1)) }) (Walks.listRev (A := X.A.in1.in1) hd1 s1.heap.objs.size a (Nat.ne_of_lt hla) its.toArray) hs ⟨_, Heap.get?_push_size _ rfl, rfl⟩ (by decide) (by decide) ?_ (by rw [Heap.size_push]; exact Nat.lt_succ_of_lt hla) ⟨Nat.zero_le _, hri, il.push _⟩ ?_
    · intro h tk A E Q2 hk hQ
      have hT : ({ s1 with heap := h, toks := tk } : Shared).TypeIs (.ref s1.heap.objs.size) "list_reverseiterator" := ⟨_, hk _ List.mem_cons_self _ (Heap.get?_push_size _ rfl), rfl⟩
      exact hint_lri' hT (hQ _ _)
    · exact fun h' tk acc c hk hl hacc => fin its _ s1.heap.objs.size I2 fp (by show _ < (s1.heap.push _).objs.size; rw [Heap.size_push]; exact Nat.lt_succ_self _) rv hz h' tk acc c hk hl hacc
  · obtain ⟨its, rv, pl, hz⟩ := I1.tuple hq
    have hlen := rv.length
    obtain ⟨ol, hol, _⟩ := id pl
    have hla := Heap.lt_size hol
    have hs : its.toArray.size ≤ sizeLine := by rw [List.size_toArray]; omega
    refine call_reversed_tup pl (fun A E Q k => len_tuple pl (by omega) k) (args_nil ?_)
    have I2 : Inv X pins σ H1 { s1 with heap := s1.heap.push (rtObj a ((its.toArray.size : Int) - 1)), toks := s1.toks + 1 + 1 } := I1.kept (t' := s1.toks + 1 + 1) (k0 _)
    have hri : IsRt (s1.heap.push (rtObj a ((its.toArray.size : Int) - 1))) s1.heap.objs.size a ((its.toArray.size : Int) - 1 - ((0 : Nat) : Int)) := by
      rw [show (its.toArray.size : Int) - 1 - ((0 : Nat) : Int) = (its.toArray.size : Int) - 1 by omega]
      exact ⟨_, Heap.get?_push_size _ rfl, rfl, rfl⟩
    have hri' : IsRt (s1.heap.push (rtObj a ((its.toArray.size : Int) - 1))) s1.heap.objs.size a ((its.toArray.size : Int) - 1) := ⟨_, Heap.get?_push_size _ rfl, rfl, rfl⟩
    have pl2 : IsTup (s1.heap.push (rtObj a ((its.toArray.size : Int) - 1))) a its.toArray := by
      obtain ⟨o, e, r⟩ := pl
      exact ⟨o, k0 _ _ _ e, r⟩
    refine list_iter (T := "reversed") (s := { s1 with heap := s1.heap.push (rtObj a ((its.toArray.size : Int) - 1)), toks := s1.toks + 1 + 1 }) (walks_rt (A := X.A.in1.in1) hd1 s1.heap.objs.size a (Nat.ne_of_lt hla) its.toArray hs) hs ⟨_, Heap.get?_push_size _ rfl, rfl⟩ (by decide) (by decide) ?_ (by rw [Heap.size_push]; exact Nat.lt_succ_of_lt hla) ⟨Nat.zero_le _, hri, pl2⟩ ?_
    · intro h tk A E Q2 hk hQ
      refine hint_rt (s := { s1 with heap := h, toks := tk }) (n := 0) (hri'.at fun o e => hk _ List.mem_cons_self o e) ?_ hs hQ
      obtain ⟨o, e, r⟩ := pl2
      exact ⟨o, hk _ (by simp) _ e, r⟩
    · exact fun h' tk acc c hk hl hacc => fin its _ s1.heap.objs.size I2 fp (by show _ < (s1.heap.push _).objs.size; rw [Heap.size_push]; exact Nat.lt_succ_self _) rv hz h' tk acc c hk hl hacc
end
end Kf

end
section
set_option Elab.async false
set_option linter.all false
set_option maxRecDepth 100000
set_option maxHeartbeats 4000000
local macro_rules | `(tactic| walk_at "npl") => `(tactic| first | exact Kf.npl rfl | exact Kf.npl_ints _ | exact Kf.npl_one _ _ | exact Kf.npl_refs _ | assumption)
local macro_rules | `(tactic| walk_at "nn") => `(tactic| first
  | assumption
  | (refine' Kf.Ext.non ?nne ?nnh; (case nne => assumption); (case nnh => walk_at "nn")))
local macro_rules | `(tactic| walk_at "ext") => `(tactic| first
  | assumption
  | exact Kf.Ext.refl
  | (refine' Kf.Ext.newer ?exa ?exn; (case exn => assumption); (case exa => walk_at "ext"))
  | (refine' Kf.Ext.own ?exa ?exn; (case exn => walk_at "nn"); (case exa => walk_at "ext"))
  | (refine' Kf.Ext.trans ?exa ?exb; (case exb => assumption); (case exa => walk_at "ext")))
local macro_rules | `(tactic| walk_at "pool") => `(tactic| first
  | assumption
  | (refine' Kf.PoolAt.ext ?plh ?ple; (case plh => assumption); (case ple => walk_at "ext"))
  | (refine' Kf.PoolAt.upd ?plh ?plo ?pln; (case plo => assumption); (case pln => walk_at "npl"); (case plh => walk_at "pool")))
local macro_rules | `(tactic| walk_at "lk") => `(tactic| first
  | assumption
  | exact L2.upd_same
  | (refine' Kf.upd_old ?lkn ?lkh; (case lkn => assumption); (case lkh => walk_at "lk"))
  | (refine' Kf.upd_oth ?lkn ?lkh; (case lkn => (first | assumption | (apply Ne.symm; assumption))); (case lkh => walk_at "lk"))
  | (refine' Kf.Ext.get ?lke ?lkh ?lkn; (case lke => assumption); (case lkh => walk_at "lk"); (case lkn => walk_at "npl"))
  | (refine' L2.Same.at ?lke ?lkh; (case lke => assumption); (case lkh => walk_at "lk")))
local macro_rules | `(tactic| walk_at "sq") => `(tactic| first
  | assumption
  | (refine' L2.SqL.of ?sqh; (case sqh => walk_at "lk"))
  | (refine' L2.SqT.of ?sqh; (case sqh => walk_at "lk"))
  | (refine' Kf.Ext.seqL ?sqe ?sqh ?sqn; (case sqh => assumption); (case sqe => walk_at "ext"); (case sqn => walk_at "npl"))
  | (refine' Kf.Ext.seqT ?sqe ?sqh; (case sqh => assumption); (case sqe => walk_at "ext")))
local macro_rules | `(tactic| walk_at "at") => `(tactic| first | exact L2.atI_nat (j := 0) rfl | exact L2.atI_nat (j := 1) rfl | exact L2.atI_nat (j := 2) rfl | exact L2.atI_nat (j := 3) rfl | exact L2.atI_nat (j := 4) rfl | assumption)
local macro_rules | `(tactic| walk_at "ixn") => `(tactic| first | exact Kf.ixN_nat (j := 0) rfl | exact Kf.ixN_nat (j := 1) rfl | exact Kf.ixN_nat (j := 2) rfl | exact Kf.ixN_nat (j := 3) rfl | assumption)
local macro_rules | `(tactic| walk_at "set") => `(tactic| (first | (simp only [List.set_cons_succ, List.set_cons_zero]; rfl) | rfl))
local macro_rules | `(tactic| walk_at "om") => `(tactic| first | decide | omega | (simp only [List.length_map, List.length_cons, List.length_nil] at *; omega))
local macro_rules | `(tactic| walk_at "calls") => `(tactic| first
  | (with_reducible refine' Kf.call_take ?clp ?cla ?clb ?clq; (case clp => walk_at "pool"); (case cla => walk_at "om"); (case clb => walk_at "om"); intro r H' hE h0 h1)
  | (with_reducible refine' Kf.call_pool ?cls ?cla ?clq; (case cls => walk_at "sq"); (case cla => walk_at "om"); intro p H' hE hN hP)
  | (with_reducible refine' Kf.call_turn ?cls ?clp ?cla ?clq; (case cls => walk_at "sq"); (case clp => walk_at "pool"); (case cla => walk_at "om"); intro u H' hE hP))
local macro_rules | `(tactic| walk_at "side") => `(tactic| first
  | exact Kf.cmul_fmod (by decide) (by decide)
  | exact rfl
  | decide
  | omega
  | assumption
  | (refine ⟨?_, ?_⟩ <;> decide)
  | (refine ⟨?_, ?_, ?_⟩ <;> decide)
  | (refine ⟨?_, ?_⟩ <;> omega)
  | (refine Or.inl ⟨?_, ?_⟩ <;> decide)
  | (refine Or.inr ⟨?_, ?_⟩ <;> decide)
  | (refine Or.inl ⟨?_, ?_⟩ <;> omega)
  | (refine Or.inr ⟨?_, ?_⟩ <;> omega))
local macro_rules | `(tactic| walk_at "kit") => `(tactic| first | exact Kf.isi_int_int | exact Kf.isi_int_bool | exact Kf.isi_int_str | exact Kf.isi_int_list | exact Kf.isi_int_tuple | exact Kf.isi_bool_int | exact Kf.isi_bool_bool | exact Kf.isi_bool_str | exact Kf.isi_bool_list | exact Kf.isi_bool_tuple | exact Kf.isi_str_int | exact Kf.isi_str_bool | exact Kf.isi_str_str | exact Kf.isi_str_list | exact Kf.isi_str_tuple | exact Kf.isi_non_list | exact Kf.isi_non_tuple | exact Kf.isi_list_list | exact Kf.isi_list_tuple | exact Kf.isi_tuple_list | exact Kf.isi_tuple_tuple | exact Kf.isi_dict_dict)
local macro_rules | `(tactic| walk_at "ty") => `(tactic| first
  | exact L2.TyX.base (L2.TyOf.int _)
  | exact L2.TyX.base (L2.TyOf.bl _)
  | exact L2.TyX.base (L2.TyOf.str _)
  | exact L2.TyX.base L2.TyOf.non
  | (refine' L2.TyX.base (L2.TyOf.lst ?tyh); (case tyh => walk_at "lk"))
  | (refine' L2.TyX.base (L2.TyOf.tup ?tyh); (case tyh => walk_at "lk"))
  | (refine' L2.TyX.base (L2.TyOf.dK ?tyh); (case tyh => walk_at "lk")))
local macro_rules | `(tactic| walk_at "om2") => `(tactic| first | assumption | decide | omega)
local macro_rules | `(tactic| walk_at "st") => `(tactic| with_reducible first
  | (refine Kf.w_var rfl ?_)
  | (refine Kf.w_c ?_)
  | (refine Kf.w_seq ?_)
  | (refine Kf.w_asg ?_)
  | (refine' Kf.w_gname ?sth ?_; (case sth => with_unfolding_all walk_at "set"))
  | (refine Kf.w_op ?_)
  | (refine Kf.w_un ?_)
  | (refine Kf.w_rU ?_)
  | (refine Kf.w_rI0 ?_)
  | (refine' Kf.w_rI ?sth ?_; (case sth => with_unfolding_all walk_at "side"))
  | (refine' Kf.w_rEq ?sth ?_; (case sth => with_unfolding_all rfl))
  | (refine' Kf.w_rNe ?sth ?_; (case sth => with_unfolding_all rfl))
  | (refine Kf.w_tTest ?_)
  | (refine Kf.w_tB ?_)
  | (refine Kf.w_exbl ?_)
  | (refine Kf.w_exint ?_)
  | (refine Kf.w_ifS ?_)
  | (refine Kf.w_ret ?_)
  | (refine Kf.w_retN ?_)
  | (refine Kf.w_drop ?_)
  | (refine Kf.w_and ?_)
  | (refine Kf.w_or ?_)
  | (refine Kf.w_not ?_)
  | (refine Kf.w_andV ?_)
  | (refine Kf.w_orV ?_)
  | (refine Kf.w_notV ?_)
  | (refine Kf.w_if ?_)
  | (refine Kf.w_lc ?_)
  | (refine Kf.w_for ?_)
  | (refine Kf.w_rng1 ?_)
  | (refine' Kf.w_rng1x ?sth ?stg ?_; (case sth => with_unfolding_all walk_at "om"); (case stg => with_unfolding_all walk_at "om"))
  | (refine Kf.w_ilist ?_)
  | (refine Kf.w_iseq ?_)
  | (refine Kf.w_itup ?_)
  | (refine' Kf.w_ilistx ?sth ?_; (case sth => with_unfolding_all walk_at "sq"))
  | (refine' Kf.w_itupx ?sth ?_; (case sth => with_unfolding_all walk_at "sq"))
  | (refine' Kf.w_wipe ?sth ?_; (case sth => with_unfolding_all rfl))
  | (refine Kf.w_yes ?_)
  | (refine' Kf.w_isi ?sth ?stg ?_; (case sth => with_unfolding_all walk_at "ty"); (case stg => walk_at "kit"))
  | (refine Kf.w_isN ?_)
  | (refine Kf.w_notN ?_)
  | (refine Kf.w_cb ?_)
  | (refine Kf.w_nil ?_)
  | (refine Kf.w_cons ?_)
  | (refine Kf.w_tup ?_)
  | (refine Kf.w_lst ?_)
  | (refine' Kf.w_lines ?sth ?_; (case sth => with_unfolding_all rfl))
  | (refine Kf.w_call ?_)
  | (refine Kf.w_next ?_)
  | (refine Kf.w_break ?_)
  | (refine Kf.w_cont ?_)
  | (refine Kf.w_dnewK ?_)
  | (refine Kf.w_dget ?_)
  | (refine Kf.w_sl ?_)
  | (refine Kf.w_nopart ?_)
  | (refine Kf.w_part ?_)
  | (refine Kf.w_bm ?_)
  | (refine Kf.w_bm0 ?_)
  | (refine' Kf.w_bmL ?sth ?_; (case sth => with_unfolding_all walk_at "lk"))
  | (refine' Kf.w_cat ?sth ?stg ?stf ?_; (case sth => with_unfolding_all walk_at "lk"); (case stg => with_unfolding_all walk_at "lk"); (case stf => with_unfolding_all walk_at "om"))
  | (refine' Kf.w_slL ?sth ?_; (case sth => with_unfolding_all walk_at "sq"))
  | (refine' Kf.w_inL ?sth ?_; (case sth => with_unfolding_all walk_at "sq"))
  | (refine' Kf.w_inT ?sth ?_; (case sth => with_unfolding_all walk_at "sq"))
  | (refine' Kf.w_ninL ?sth ?_; (case sth => with_unfolding_all walk_at "sq"))
  | (refine' Kf.w_ninT ?sth ?_; (case sth => with_unfolding_all walk_at "sq"))
  | (refine' Kf.w_listof ?sth ?_; (case sth => with_unfolding_all walk_at "sq"))
  | (refine' Kf.w_tupof ?sth ?_; (case sth => with_unfolding_all walk_at "sq"))
  | (refine Kf.w_listRev ?_)
  | (refine Kf.w_gsub ?_)
  | (refine' Kf.w_ixL ?sth ?stg ?_; (case sth => with_unfolding_all walk_at "sq"); (case stg => with_unfolding_all walk_at "at"))
  | (refine' Kf.w_ixT ?sth ?stg ?_; (case sth => with_unfolding_all walk_at "sq"); (case stg => with_unfolding_all walk_at "at"))
  | (refine' Kf.w_setL ?sth ?stg ?_; (case sth => with_unfolding_all walk_at "lk"); (case stg => with_unfolding_all walk_at "ixn"))
  | (refine' Kf.w_len ?sth ?_; (case sth => with_unfolding_all walk_at "sq"))
  | (refine' Kf.w_lenT ?sth ?_; (case sth => with_unfolding_all walk_at "sq"))
  | (refine Kf.w_int1 ?_)
  | (refine Kf.w_intb ?_)
  | (refine Kf.w_abs ?_)
  | (refine Kf.w_aug rfl ?_)
  | (refine Kf.w_ipI ?_)
  | (refine L2.iteT ?_)
  | (refine L2.iteF ?_)
  | (refine Kf.iteNT ?_)
  | (refine Kf.iteNF ?_)
  | (refine' Kf.ite_decT ?sth ?_; (case sth => exact rfl))
  | (refine' Kf.ite_decF ?sth ?_; (case sth => with_unfolding_all (intro e; cases e; done)))
  | (refine' Kf.ite_ndecF ?sth ?_; (case sth => exact rfl))
  | (refine' Kf.ite_ndecT ?sth ?_; (case sth => with_unfolding_all (intro e; cases e; done)))
  | (refine' Kf.ite_viT ?sth ?_; (case sth => (with_unfolding_all walk_at "om2")))
  | (refine' Kf.ite_viF ?sth ?_; (case sth => (with_unfolding_all walk_at "om2")))
  | (refine' Kf.ite_nviT ?sth ?_; (case sth => (with_unfolding_all walk_at "om2")))
  | (refine' Kf.ite_nviF ?sth ?_; (case sth => (with_unfolding_all walk_at "om2")))
  | (refine' Kf.ite_decT ?sth ?_; (case sth => (with_unfolding_all walk_at "om2")))
  | (refine' Kf.ite_decF ?sth ?_; (case sth => (with_unfolding_all walk_at "om2")))
  | with_unfolding_all walk_at "calls")
local macro_rules | `(tactic| walk_at "go") => `(tactic| repeat walk_at "st")

namespace Kf
open PySem PySem.Spec PyProof.Rows L2
def topS (i : Nat) : Stmt := PySem.Challenge.pw_solvedpapers_k06_resolution_decides.main.body.getD i (.Pass ⟨0, 0, 0, 0⟩)
abbrev s__law_pool : Stmt := topS 4
abbrev N__law_pool : List Str := ["script", "k", "cell", "spare"]
abbrev P__law_pool : List Str := ["script", "k"]
theorem sc__law_pool : FnScope N__law_pool P__law_pool (defScope s__law_pool) := ⟨rfl, rfl, rfl, by decide +kernel, rfl, by decide +kernel, by decide +kernel⟩
abbrev s__law_take : Stmt := topS 5
abbrev N__law_take : List Str := ["pool", "size", "k", "cell", "mixed"]
abbrev P__law_take : List Str := ["pool", "size"]
theorem sc__law_take : FnScope N__law_take P__law_take (defScope s__law_take) := ⟨rfl, rfl, rfl, by decide +kernel, rfl, by decide +kernel, by decide +kernel⟩
section
variable {P : Program} {w : World} {K : PySem.W.Frag} {mg : Str → Option Value} {base : Heap}
/-- a pool is made -/
def spPool (K : PySem.W.Frag) : Sp := fun vs H Q _ => ∃ (a : Addr) (ns : List Int) (k : Int), vs = [.ref a, .int k] ∧ SqL K H a (ns.map V.int) ∧ 0 ≤ k ∧ ∀ p H', Ext H H' → H p = none → PoolAt H' (.ref p) → Q (.ref p) H'
theorem atI_ints {ns : List Int} {k : Int} (h0 : 0 ≤ k) (h1 : k < ((ns.map V.int).length : Nat)) : atI (ns.map V.int) k = some (.int (ns.getD k.toNat 0)) := by
  rw [List.length_map] at h1
  have hk : k.toNat < ns.length := by omega
  have e : k = ((k.toNat : Nat) : Int) := by omega
  rw [e]
  refine atI_nat (j := k.toNat) ?_
  rw [List.getElem?_map, List.getElem?_eq_getElem hk, Int.toNat_natCast]
  simp [hk]
theorem ok_pool (D : Df K mg "_law_pool" s__law_pool P__law_pool) (b_len : mg "len" = none) : Pr P w K mg base "_law_pool" 1 P__law_pool (spPool K) := by
  refine D.ok sc__law_pool (fun vs H Q E h => ?_) (fun f cdv A outer s H vs Q E hr h => ?_)
  · obtain ⟨a, ns, k, rfl, _⟩ := h; rfl
  obtain ⟨a, ns, k, rfl, hS, h0, q⟩ := h
  have nd := sc__law_pool.nd
  have fin : ∀ (c s : Int) (b : Bool) (p : Addr), H p = none → Q (.ref p) (upd H p (.lst [.int c, .int 0, .bl b, .int s])) := fun c s b p hp => q p _ (Ext.new hp) hp ⟨p, _, _, _, _, rfl, L2.upd_same⟩
  refine ⟨_, (pss_cons (ps_set (i := 2) nd rfl (Or.inl rfl) (pe_op op_add (pe_op op_mul pe_int (pv 1)) pe_int))
      (pss_cons (ps_set (i := 3) nd rfl (Or.inl rfl) (pe_op op_add (pe_op op_mul pe_int (pv 1)) pe_int))
      (pss_cons (ps_if (pt_cmpR op_lt (pv 1) (pe_callB (call_lenK (K := K) rfl) (by rfl) b_len PySem.boot_len (pa_cons (pv 0) pa_nil)) (nomark _)) (pss_one (ps_set (i := 2) nd rfl (Or.inl rfl) (pe_ix (ix_listK (K := K) rfl) (pv 0) (pv 1) (fun _ _ => rfl)))) pss_nil)
      (pss_cons (ps_if (pt_cmpR op_lt (pe_op op_add (pv 1) pe_int) (pe_callB (call_lenK (K := K) rfl) (by rfl) b_len PySem.boot_len (pa_cons (pv 0) pa_nil)) (nomark _)) (pss_one (ps_set (i := 3) nd rfl (Or.inl rfl) (pe_ix (ix_listK (K := K) rfl) (pv 0) (pe_op op_add (pv 1) pe_int) (fun _ _ => rfl)))) pss_nil)
      (pss_one (ps_ret (pe_lst (pa_cons (pv 2) (pa_cons pe_int (pa_cons (pe_cmpR op_ge (pv 2) (pe_op op_pow pe_int pe_int) (nomark _)) (pa_cons (pv 3) pa_nil))))))))))), ?_⟩
  refine w_start (σ := [some _, some _, none, none]) rfl ?_
  walk_at "go"
  refine ite_d (fun c1 => ?_) (fun c1 => ?_)
  · walk_at "go"
    refine w_ixL hS (atI_ints h0 c1) ?_
    walk_at "go"
    refine ite_d (fun c2 => ?_) (fun c2 => ?_)
    · walk_at "go"
      refine w_ixL hS (atI_ints (by omega) c2) ?_
      walk_at "go"
      exact fun p hp => fin _ _ _ _ hp
    · walk_at "go"
      exact fun p hp => fin _ _ _ _ hp
  · walk_at "go"
    exact fun p hp => fin _ _ _ _ hp
end
end Kf

end
section
set_option Elab.async false
set_option linter.all false
set_option maxRecDepth 100000
set_option maxHeartbeats 4000000
local macro_rules | `(tactic| walk_at "npl") => `(tactic| first | exact Kf.npl rfl | exact Kf.npl_ints _ | exact Kf.npl_one _ _ | exact Kf.npl_refs _ | assumption)
local macro_rules | `(tactic| walk_at "nn") => `(tactic| first
  | assumption
  | (refine' Kf.Ext.non ?nne ?nnh; (case nne => assumption); (case nnh => walk_at "nn")))
local macro_rules | `(tactic| walk_at "ext") => `(tactic| first
  | assumption
  | exact Kf.Ext.refl
  | (refine' Kf.Ext.newer ?exa ?exn; (case exn => assumption); (case exa => walk_at "ext"))
  | (refine' Kf.Ext.own ?exa ?exn; (case exn => walk_at "nn"); (case exa => walk_at "ext"))
  | (refine' Kf.Ext.trans ?exa ?exb; (case exb => assumption); (case exa => walk_at "ext")))
local macro_rules | `(tactic| walk_at "pool") => `(tactic| first
  | assumption
  | (refine' Kf.PoolAt.ext ?plh ?ple; (case plh => assumption); (case ple => walk_at "ext"))
  | (refine' Kf.PoolAt.upd ?plh ?plo ?pln; (case plo => assumption); (case pln => walk_at "npl"); (case plh => walk_at "pool")))
local macro_rules | `(tactic| walk_at "lk") => `(tactic| first
  | assumption
  | exact L2.upd_same
  | (refine' Kf.upd_old ?lkn ?lkh; (case lkn => assumption); (case lkh => walk_at "lk"))
  | (refine' Kf.upd_oth ?lkn ?lkh; (case lkn => (first | assumption | (apply Ne.symm; assumption))); (case lkh => walk_at "lk"))
  | (refine' Kf.Ext.get ?lke ?lkh ?lkn; (case lke => assumption); (case lkh => walk_at "lk"); (case lkn => walk_at "npl"))
  | (refine' L2.Same.at ?lke ?lkh; (case lke => assumption); (case lkh => walk_at "lk")))
local macro_rules | `(tactic| walk_at "sq") => `(tactic| first
  | assumption
  | (refine' L2.SqL.of ?sqh; (case sqh => walk_at "lk"))
  | (refine' L2.SqT.of ?sqh; (case sqh => walk_at "lk"))
  | (refine' Kf.Ext.seqL ?sqe ?sqh ?sqn; (case sqh => assumption); (case sqe => walk_at "ext"); (case sqn => walk_at "npl"))
  | (refine' Kf.Ext.seqT ?sqe ?sqh; (case sqh => assumption); (case sqe => walk_at "ext")))
local macro_rules | `(tactic| walk_at "at") => `(tactic| first | exact L2.atI_nat (j := 0) rfl | exact L2.atI_nat (j := 1) rfl | exact L2.atI_nat (j := 2) rfl | exact L2.atI_nat (j := 3) rfl | exact L2.atI_nat (j := 4) rfl | assumption)
local macro_rules | `(tactic| walk_at "ixn") => `(tactic| first | exact Kf.ixN_nat (j := 0) rfl | exact Kf.ixN_nat (j := 1) rfl | exact Kf.ixN_nat (j := 2) rfl | exact Kf.ixN_nat (j := 3) rfl | assumption)
local macro_rules | `(tactic| walk_at "set") => `(tactic| (first | (simp only [List.set_cons_succ, List.set_cons_zero]; rfl) | rfl))
local macro_rules | `(tactic| walk_at "om") => `(tactic| first | decide | omega | (simp only [List.length_map, List.length_cons, List.length_nil] at *; omega))
local macro_rules | `(tactic| walk_at "calls") => `(tactic| first
  | (with_reducible refine' Kf.call_take ?clp ?cla ?clb ?clq; (case clp => walk_at "pool"); (case cla => walk_at "om"); (case clb => walk_at "om"); intro r H' hE h0 h1)
  | (with_reducible refine' Kf.call_pool ?cls ?cla ?clq; (case cls => walk_at "sq"); (case cla => walk_at "om"); intro p H' hE hN hP)
  | (with_reducible refine' Kf.call_turn ?cls ?clp ?cla ?clq; (case cls => walk_at "sq"); (case clp => walk_at "pool"); (case cla => walk_at "om"); intro u H' hE hP))
local macro_rules | `(tactic| walk_at "side") => `(tactic| first
  | exact Kf.cmul_fmod (by decide) (by decide)
  | exact rfl
  | decide
  | omega
  | assumption
  | (refine ⟨?_, ?_⟩ <;> decide)
  | (refine ⟨?_, ?_, ?_⟩ <;> decide)
  | (refine ⟨?_, ?_⟩ <;> omega)
  | (refine Or.inl ⟨?_, ?_⟩ <;> decide)
  | (refine Or.inr ⟨?_, ?_⟩ <;> decide)
  | (refine Or.inl ⟨?_, ?_⟩ <;> omega)
  | (refine Or.inr ⟨?_, ?_⟩ <;> omega))
local macro_rules | `(tactic| walk_at "kit") => `(tactic| first | exact Kf.isi_int_int | exact Kf.isi_int_bool | exact Kf.isi_int_str | exact Kf.isi_int_list | exact Kf.isi_int_tuple | exact Kf.isi_bool_int | exact Kf.isi_bool_bool | exact Kf.isi_bool_str | exact Kf.isi_bool_list | exact Kf.isi_bool_tuple | exact Kf.isi_str_int | exact Kf.isi_str_bool | exact Kf.isi_str_str | exact Kf.isi_str_list | exact Kf.isi_str_tuple | exact Kf.isi_non_list | exact Kf.isi_non_tuple | exact Kf.isi_list_list | exact Kf.isi_list_tuple | exact Kf.isi_tuple_list | exact Kf.isi_tuple_tuple | exact Kf.isi_dict_dict)
local macro_rules | `(tactic| walk_at "ty") => `(tactic| first
  | exact L2.TyX.base (L2.TyOf.int _)
  | exact L2.TyX.base (L2.TyOf.bl _)
  | exact L2.TyX.base (L2.TyOf.str _)
  | exact L2.TyX.base L2.TyOf.non
  | (refine' L2.TyX.base (L2.TyOf.lst ?tyh); (case tyh => walk_at "lk"))
  | (refine' L2.TyX.base (L2.TyOf.tup ?tyh); (case tyh => walk_at "lk"))
  | (refine' L2.TyX.base (L2.TyOf.dK ?tyh); (case tyh => walk_at "lk")))
local macro_rules | `(tactic| walk_at "om2") => `(tactic| first | assumption | decide | omega)
local macro_rules | `(tactic| walk_at "st") => `(tactic| with_reducible first
  | (refine Kf.w_var rfl ?_)
  | (refine Kf.w_c ?_)
  | (refine Kf.w_seq ?_)
  | (refine Kf.w_asg ?_)
  | (refine' Kf.w_gname ?sth ?_; (case sth => with_unfolding_all walk_at "set"))
  | (refine Kf.w_op ?_)
  | (refine Kf.w_un ?_)
  | (refine Kf.w_rU ?_)
  | (refine Kf.w_rI0 ?_)
  | (refine' Kf.w_rI ?sth ?_; (case sth => with_unfolding_all walk_at "side"))
  | (refine' Kf.w_rEq ?sth ?_; (case sth => with_unfolding_all rfl))
  | (refine' Kf.w_rNe ?sth ?_; (case sth => with_unfolding_all rfl))
  | (refine Kf.w_tTest ?_)
  | (refine Kf.w_tB ?_)
  | (refine Kf.w_exbl ?_)
  | (refine Kf.w_exint ?_)
  | (refine Kf.w_ifS ?_)
  | (refine Kf.w_ret ?_)
  | (refine Kf.w_retN ?_)
  | (refine Kf.w_drop ?_)
  | (refine Kf.w_and ?_)
  | (refine Kf.w_or ?_)
  | (refine Kf.w_not ?_)
  | (refine Kf.w_andV ?_)
  | (refine Kf.w_orV ?_)
  | (refine Kf.w_notV ?_)
  | (refine Kf.w_if ?_)
  | (refine Kf.w_lc ?_)
  | (refine Kf.w_for ?_)
  | (refine Kf.w_rng1 ?_)
  | (refine' Kf.w_rng1x ?sth ?stg ?_; (case sth => with_unfolding_all walk_at "om"); (case stg => with_unfolding_all walk_at "om"))
  | (refine Kf.w_ilist ?_)
  | (refine Kf.w_iseq ?_)
  | (refine Kf.w_itup ?_)
  | (refine' Kf.w_ilistx ?sth ?_; (case sth => with_unfolding_all walk_at "sq"))
  | (refine' Kf.w_itupx ?sth ?_; (case sth => with_unfolding_all walk_at "sq"))
  | (refine' Kf.w_wipe ?sth ?_; (case sth => with_unfolding_all rfl))
  | (refine Kf.w_yes ?_)
  | (refine' Kf.w_isi ?sth ?stg ?_; (case sth => with_unfolding_all walk_at "ty"); (case stg => walk_at "kit"))
  | (refine Kf.w_isN ?_)
  | (refine Kf.w_notN ?_)
  | (refine Kf.w_cb ?_)
  | (refine Kf.w_nil ?_)
  | (refine Kf.w_cons ?_)
  | (refine Kf.w_tup ?_)
  | (refine Kf.w_lst ?_)
  | (refine' Kf.w_lines ?sth ?_; (case sth => with_unfolding_all rfl))
  | (refine Kf.w_call ?_)
  | (refine Kf.w_next ?_)
  | (refine Kf.w_break ?_)
  | (refine Kf.w_cont ?_)
  | (refine Kf.w_dnewK ?_)
  | (refine Kf.w_dget ?_)
  | (refine Kf.w_sl ?_)
  | (refine Kf.w_nopart ?_)
  | (refine Kf.w_part ?_)
  | (refine Kf.w_bm ?_)
  | (refine Kf.w_bm0 ?_)
  | (refine' Kf.w_bmL ?sth ?_; (case sth => with_unfolding_all walk_at "lk"))
  | (refine' Kf.w_cat ?sth ?stg ?stf ?_; (case sth => with_unfolding_all walk_at "lk"); (case stg => with_unfolding_all walk_at "lk"); (case stf => with_unfolding_all walk_at "om"))
  | (refine' Kf.w_slL ?sth ?_; (case sth => with_unfolding_all walk_at "sq"))
  | (refine' Kf.w_inL ?sth ?_; (case sth => with_unfolding_all walk_at "sq"))
  | (refine' Kf.w_inT ?sth ?_; (case sth => with_unfolding_all walk_at "sq"))
  | (refine' Kf.w_ninL ?sth ?_; (case sth => with_unfolding_all walk_at "sq"))
  | (refine' Kf.w_ninT ?sth ?_; (case sth => with_unfolding_all walk_at "sq"))
  | (refine' Kf.w_listof ?sth ?_; (case sth => with_unfolding_all walk_at "sq"))
  | (refine' Kf.w_tupof ?sth ?_; (case sth => with_unfolding_all walk_at "sq"))
  | (refine Kf.w_listRev ?_)
  | (refine Kf.w_gsub ?_)
  | (refine' Kf.w_ixL ?sth ?stg ?_; (case sth => with_unfolding_all walk_at "sq"); (case stg => with_unfolding_all walk_at "at"))
  | (refine' Kf.w_ixT ?sth ?stg ?_; (case sth => with_unfolding_all walk_at "sq"); (case stg => with_unfolding_all walk_at "at"))
  | (refine' Kf.w_setL ?sth ?stg ?_; (case sth => with_unfolding_all walk_at "lk"); (case stg => with_unfolding_all walk_at "ixn"))
  | (refine' Kf.w_len ?sth ?_; (case sth => with_unfolding_all walk_at "sq"))
  | (refine' Kf.w_lenT ?sth ?_; (case sth => with_unfolding_all walk_at "sq"))
  | (refine Kf.w_int1 ?_)
  | (refine Kf.w_intb ?_)
  | (refine Kf.w_abs ?_)
  | (refine Kf.w_aug rfl ?_)
  | (refine Kf.w_ipI ?_)
  | (refine L2.iteT ?_)
  | (refine L2.iteF ?_)
  | (refine Kf.iteNT ?_)
  | (refine Kf.iteNF ?_)
  | (refine' Kf.ite_decT ?sth ?_; (case sth => exact rfl))
  | (refine' Kf.ite_decF ?sth ?_; (case sth => with_unfolding_all (intro e; cases e; done)))
  | (refine' Kf.ite_ndecF ?sth ?_; (case sth => exact rfl))
  | (refine' Kf.ite_ndecT ?sth ?_; (case sth => with_unfolding_all (intro e; cases e; done)))
  | (refine' Kf.ite_viT ?sth ?_; (case sth => (with_unfolding_all walk_at "om2")))
  | (refine' Kf.ite_viF ?sth ?_; (case sth => (with_unfolding_all walk_at "om2")))
  | (refine' Kf.ite_nviT ?sth ?_; (case sth => (with_unfolding_all walk_at "om2")))
  | (refine' Kf.ite_nviF ?sth ?_; (case sth => (with_unfolding_all walk_at "om2")))
  | (refine' Kf.ite_decT ?sth ?_; (case sth => (with_unfolding_all walk_at "om2")))
  | (refine' Kf.ite_decF ?sth ?_; (case sth => (with_unfolding_all walk_at "om2")))
  | with_unfolding_all walk_at "calls")
local macro_rules | `(tactic| walk_at "go") => `(tactic| repeat walk_at "st")

namespace Kf
open PySem PySem.Spec PyProof.Rows L2
section
variable {P : Program} {w : World} {K : PySem.W.Frag} {mg : Str → Option Value} {base : Heap}
/-- a number below n is drawn -/
def spTake (K : PySem.W.Frag) : Sp := fun vs H Q _ => ∃ (v : V) (n : Int), vs = [v, .int n] ∧ PoolAt H v ∧ 0 < n ∧ n < 1073741824 ∧ ∀ r H', Ext H H' → 0 ≤ r → r < n → Q (.int r) H'
theorem ok_take (D : Df K mg "_law_take" s__law_take P__law_take) (b_int : mg "int" = none) : Pr P w K mg base "_law_take" 1 P__law_take (spTake K) := by
  refine D.ok sc__law_take (fun vs H Q E h => ?_) (fun f cdv A outer s H vs Q E hr h => ?_)
  · obtain ⟨v, n, rfl, _⟩ := h; rfl
  obtain ⟨v, n, rfl, ⟨a, c, k, b, sp, rfl, hH⟩, n0, n1, q⟩ := h
  have nd := sc__law_take.nd
  have fin : ∀ (x c' k' : Int) (b' : Bool) (s' : Int) (H' : Hp), H' = upd H a (.lst [.int c', .int k', .bl b', .int s']) → Q (.int (x.fmod n)) H' := fun x c' k' b' s' H' e => by
    subst e
    exact q _ _ (Ext.pool hH ⟨_, _, _, _, rfl⟩ ⟨_, _, _, _, rfl⟩) (fmod_pos n0).1 (fmod_pos n0).2
  refine ⟨_, (pss_cons (ps_set (i := 2) nd rfl (Or.inl rfl) (pe_ix (ix_listK (K := K) rfl) (pv 0) pe_int (fun _ _ => rfl)))
      (pss_cons (ps_asg (pe_op op_add (pv 2) pe_int) (pg_sub (pv 0) pe_int set_list))
      (pss_cons (ps_set (i := 3) nd rfl (Or.inl rfl) (pe_ix (ix_listK (K := K) rfl) (pv 0) pe_int (fun _ _ => rfl)))
      (pss_cons (ps_if (PW.pt (pw_and (pt_val (pe_ix (ix_listK (K := K) rfl) (pv 0) pe_int (fun _ _ => rfl))) (pw_and1 (pt_cmpR op_gt (pv 3) pe_int (nomark _))))) (pss_cons (ps_asg (pe_op op_fdivN (pv 3) (pv 1)) (pg_sub (pv 0) pe_int set_list))
      (pss_one (ps_ret (pe_op op_modN (pe_callTy call_int1 (by rfl) b_int (by decide +kernel) (pa_cons (pv 3) pa_nil)) (pv 1))))) pss_nil)
      (pss_cons (ps_if (pt_val (pe_ix (ix_listK (K := K) rfl) (pv 0) pe_int (fun _ _ => rfl))) (pss_one (ps_set (i := 3) nd rfl (Or.inl rfl) (pe_ix (ix_listK (K := K) rfl) (pv 0) pe_int (fun _ _ => rfl)))) pss_nil)
      (pss_cons (ps_set (i := 4) nd rfl (Or.inl rfl) (pe_op op_modN (pe_callTy call_int1 (by rfl) b_int (by decide +kernel) (pa_cons (pe_op op_add (pe_op op_add (pv 3) (pe_op op_mul pe_int (pv 2))) pe_int) pa_nil)) pe_int))
      (pss_cons (ps_set (i := 4) nd rfl (Or.inl rfl) (pe_op op_modN (pe_callTy call_int1 (by rfl) b_int (by decide +kernel) (pa_cons (pe_op op_mul (pv 4) (pe_op op_add (pv 4) pe_int)) pa_nil)) pe_int))
      (pss_cons (ps_set (i := 4) nd rfl (Or.inl rfl) (pe_op op_modN (pe_callTy call_int1 (by rfl) b_int (by decide +kernel) (pa_cons (pe_op op_add (pe_op op_mul (pv 4) (pe_op op_add (pv 4) pe_int)) (pe_op op_mul pe_int (pv 2))) pa_nil)) pe_int))
      (pss_one (ps_ret (pe_op op_modN (pe_callTy call_int1 (by rfl) b_int (by decide +kernel) (pa_cons (pe_op op_fdivN (pv 4) pe_int) pa_nil)) (pv 1)))))))))))), ?_⟩
  refine w_start (σ := [some _, some _, none, none, none]) rfl ?_
  walk_at "go"
  refine ite_b (fun c1 => ?_) (fun c1 => ?_)
  · walk_at "go"
    refine ite_d (fun c2 => ?_) (fun c2 => ?_)
    · walk_at "go"
      rw [upd_upd]
      exact fin _ _ _ _ _ _ rfl
    · subst c1
      walk_at "go"
      exact fin _ _ _ _ _ _ rfl
  · subst c1
    walk_at "go"
    exact fin _ _ _ _ _ _ rfl
end
end Kf

end
section
set_option Elab.async false
set_option linter.all false
set_option maxRecDepth 100000
set_option maxHeartbeats 4000000
namespace Kf
open PySem PySem.Spec PyProof.Rows L2
section
variable {P : Program} {w : World} {K : PySem.W.Frag} {mg : Str → Option Value} {base : Heap} {H : Hp} {Q : VK} {E : XK}
theorem call_take {v : V} {n : Int} (hp : PoolAt H v) (n0 : 0 < n) (n1 : n < 1073741824) (q : ∀ r H', Ext H H' → 0 ≤ r → r < n → Q (.int r) H') : spTake K ([v, .int n] ++ []) H Q E := ⟨v, n, rfl, hp, n0, n1, q⟩
theorem call_pool {a : Addr} {ns : List Int} {k : Int} (hs : SqL K H a (ns.map V.int)) (h0 : 0 ≤ k) (q : ∀ p H', Ext H H' → H p = none → PoolAt H' (.ref p) → Q (.ref p) H') : spPool K ([.ref a, .int k] ++ []) H Q E := ⟨a, ns, k, rfl, hs, h0, q⟩
/-- a pool of its own, or the given one -/
def spTurn (K : PySem.W.Frag) : Sp := fun vs H Q _ => ∃ (a : Addr) (ns : List Int) (v : V) (k : Int), vs = [.ref a, v, .int k] ∧ SqL K H a (ns.map V.int) ∧ PoolAt H v ∧ 0 ≤ k ∧ ∀ u H', Ext H H' → PoolAt H' u → Q u H'
theorem call_turn {a : Addr} {ns : List Int} {v : V} {k : Int} (hs : SqL K H a (ns.map V.int)) (hp : PoolAt H v) (h0 : 0 ≤ k) (q : ∀ u H', Ext H H' → PoolAt H' u → Q u H') : spTurn K ([.ref a, v, .int k] ++ []) H Q E := ⟨a, ns, v, k, rfl, hs, hp, h0, q⟩
end
abbrev s__law_turn : Stmt := topS 6
abbrev N__law_turn : List Str := ["script", "pool", "k"]
abbrev P__law_turn : List Str := ["script", "pool", "k"]
theorem sc__law_turn : FnScope N__law_turn P__law_turn (defScope s__law_turn) := ⟨rfl, rfl, rfl, by decide +kernel, rfl, by decide +kernel, by decide +kernel⟩
abbrev s__law_pick : Stmt := topS 7
abbrev N__law_pick : List Str := ["pool", "row"]
abbrev P__law_pick : List Str := ["pool", "row"]
theorem sc__law_pick : FnScope N__law_pick P__law_pick (defScope s__law_pick) := ⟨rfl, rfl, rfl, by decide +kernel, rfl, by decide +kernel, by decide +kernel⟩
abbrev s__law_mixed : Stmt := topS 8
abbrev N__law_mixed : List Str := ["pool", "row", "turn", "pairs", "k", "pair"]
abbrev P__law_mixed : List Str := ["pool", "row"]
theorem sc__law_mixed : FnScope N__law_mixed P__law_mixed (defScope s__law_mixed) := ⟨rfl, rfl, rfl, by decide +kernel, rfl, by decide +kernel, by decide +kernel⟩
abbrev s__law_whole : Stmt := topS 9
abbrev N__law_whole : List Str := ["value"]
abbrev P__law_whole : List Str := ["value"]
theorem sc__law_whole : FnScope N__law_whole P__law_whole (defScope s__law_whole) := ⟨rfl, rfl, rfl, by decide +kernel, rfl, by decide +kernel, by decide +kernel⟩
end Kf
local macro_rules | `(tactic| walk_at "npl") => `(tactic| first | exact Kf.npl rfl | exact Kf.npl_ints _ | exact Kf.npl_one _ _ | exact Kf.npl_refs _ | assumption)
local macro_rules | `(tactic| walk_at "nn") => `(tactic| first
  | assumption
  | (refine' Kf.Ext.non ?nne ?nnh; (case nne => assumption); (case nnh => walk_at "nn")))
local macro_rules | `(tactic| walk_at "ext") => `(tactic| first
  | assumption
  | exact Kf.Ext.refl
  | (refine' Kf.Ext.newer ?exa ?exn; (case exn => assumption); (case exa => walk_at "ext"))
  | (refine' Kf.Ext.own ?exa ?exn; (case exn => walk_at "nn"); (case exa => walk_at "ext"))
  | (refine' Kf.Ext.trans ?exa ?exb; (case exb => assumption); (case exa => walk_at "ext")))
local macro_rules | `(tactic| walk_at "pool") => `(tactic| first
  | assumption
  | (refine' Kf.PoolAt.ext ?plh ?ple; (case plh => assumption); (case ple => walk_at "ext"))
  | (refine' Kf.PoolAt.upd ?plh ?plo ?pln; (case plo => assumption); (case pln => walk_at "npl"); (case plh => walk_at "pool")))
local macro_rules | `(tactic| walk_at "lk") => `(tactic| first
  | assumption
  | exact L2.upd_same
  | (refine' Kf.upd_old ?lkn ?lkh; (case lkn => assumption); (case lkh => walk_at "lk"))
  | (refine' Kf.upd_oth ?lkn ?lkh; (case lkn => (first | assumption | (apply Ne.symm; assumption))); (case lkh => walk_at "lk"))
  | (refine' Kf.Ext.get ?lke ?lkh ?lkn; (case lke => assumption); (case lkh => walk_at "lk"); (case lkn => walk_at "npl"))
  | (refine' L2.Same.at ?lke ?lkh; (case lke => assumption); (case lkh => walk_at "lk")))
local macro_rules | `(tactic| walk_at "sq") => `(tactic| first
  | assumption
  | (refine' L2.SqL.of ?sqh; (case sqh => walk_at "lk"))
  | (refine' L2.SqT.of ?sqh; (case sqh => walk_at "lk"))
  | (refine' Kf.Ext.seqL ?sqe ?sqh ?sqn; (case sqh => assumption); (case sqe => walk_at "ext"); (case sqn => walk_at "npl"))
  | (refine' Kf.Ext.seqT ?sqe ?sqh; (case sqh => assumption); (case sqe => walk_at "ext")))
local macro_rules | `(tactic| walk_at "at") => `(tactic| first | exact L2.atI_nat (j := 0) rfl | exact L2.atI_nat (j := 1) rfl | exact L2.atI_nat (j := 2) rfl | exact L2.atI_nat (j := 3) rfl | exact L2.atI_nat (j := 4) rfl | assumption)
local macro_rules | `(tactic| walk_at "ixn") => `(tactic| first | exact Kf.ixN_nat (j := 0) rfl | exact Kf.ixN_nat (j := 1) rfl | exact Kf.ixN_nat (j := 2) rfl | exact Kf.ixN_nat (j := 3) rfl | assumption)
local macro_rules | `(tactic| walk_at "set") => `(tactic| (first | (simp only [List.set_cons_succ, List.set_cons_zero]; rfl) | rfl))
local macro_rules | `(tactic| walk_at "om") => `(tactic| first | decide | omega | (simp only [List.length_map, List.length_cons, List.length_nil] at *; omega))
local macro_rules | `(tactic| walk_at "calls") => `(tactic| first
  | (with_reducible refine' Kf.call_take ?clp ?cla ?clb ?clq; (case clp => walk_at "pool"); (case cla => walk_at "om"); (case clb => walk_at "om"); intro r H' hE h0 h1)
  | (with_reducible refine' Kf.call_pool ?cls ?cla ?clq; (case cls => walk_at "sq"); (case cla => walk_at "om"); intro p H' hE hN hP)
  | (with_reducible refine' Kf.call_turn ?cls ?clp ?cla ?clq; (case cls => walk_at "sq"); (case clp => walk_at "pool"); (case cla => walk_at "om"); intro u H' hE hP))
local macro_rules | `(tactic| walk_at "side") => `(tactic| first
  | exact Kf.cmul_fmod (by decide) (by decide)
  | exact rfl
  | decide
  | omega
  | assumption
  | (refine ⟨?_, ?_⟩ <;> decide)
  | (refine ⟨?_, ?_, ?_⟩ <;> decide)
  | (refine ⟨?_, ?_⟩ <;> omega)
  | (refine Or.inl ⟨?_, ?_⟩ <;> decide)
  | (refine Or.inr ⟨?_, ?_⟩ <;> decide)
  | (refine Or.inl ⟨?_, ?_⟩ <;> omega)
  | (refine Or.inr ⟨?_, ?_⟩ <;> omega))
local macro_rules | `(tactic| walk_at "kit") => `(tactic| first | exact Kf.isi_int_int | exact Kf.isi_int_bool | exact Kf.isi_int_str | exact Kf.isi_int_list | exact Kf.isi_int_tuple | exact Kf.isi_bool_int | exact Kf.isi_bool_bool | exact Kf.isi_bool_str | exact Kf.isi_bool_list | exact Kf.isi_bool_tuple | exact Kf.isi_str_int | exact Kf.isi_str_bool | exact Kf.isi_str_str | exact Kf.isi_str_list | exact Kf.isi_str_tuple | exact Kf.isi_non_list | exact Kf.isi_non_tuple | exact Kf.isi_list_list | exact Kf.isi_list_tuple | exact Kf.isi_tuple_list | exact Kf.isi_tuple_tuple | exact Kf.isi_dict_dict)
local macro_rules | `(tactic| walk_at "ty") => `(tactic| first
  | exact L2.TyX.base (L2.TyOf.int _)
  | exact L2.TyX.base (L2.TyOf.bl _)
  | exact L2.TyX.base (L2.TyOf.str _)
  | exact L2.TyX.base L2.TyOf.non
  | (refine' L2.TyX.base (L2.TyOf.lst ?tyh); (case tyh => walk_at "lk"))
  | (refine' L2.TyX.base (L2.TyOf.tup ?tyh); (case tyh => walk_at "lk"))
  | (refine' L2.TyX.base (L2.TyOf.dK ?tyh); (case tyh => walk_at "lk")))
local macro_rules | `(tactic| walk_at "om2") => `(tactic| first | assumption | decide | omega)
local macro_rules | `(tactic| walk_at "st") => `(tactic| with_reducible first
  | (refine Kf.w_var rfl ?_)
  | (refine Kf.w_c ?_)
  | (refine Kf.w_seq ?_)
  | (refine Kf.w_asg ?_)
  | (refine' Kf.w_gname ?sth ?_; (case sth => with_unfolding_all walk_at "set"))
  | (refine Kf.w_op ?_)
  | (refine Kf.w_un ?_)
  | (refine Kf.w_rU ?_)
  | (refine Kf.w_rI0 ?_)
  | (refine' Kf.w_rI ?sth ?_; (case sth => with_unfolding_all walk_at "side"))
  | (refine' Kf.w_rEq ?sth ?_; (case sth => with_unfolding_all rfl))
  | (refine' Kf.w_rNe ?sth ?_; (case sth => with_unfolding_all rfl))
  | (refine Kf.w_tTest ?_)
  | (refine Kf.w_tB ?_)
  | (refine Kf.w_exbl ?_)
  | (refine Kf.w_exint ?_)
  | (refine Kf.w_ifS ?_)
  | (refine Kf.w_ret ?_)
  | (refine Kf.w_retN ?_)
  | (refine Kf.w_drop ?_)
  | (refine Kf.w_and ?_)
  | (refine Kf.w_or ?_)
  | (refine Kf.w_not ?_)
  | (refine Kf.w_andV ?_)
  | (refine Kf.w_orV ?_)
  | (refine Kf.w_notV ?_)
  | (refine Kf.w_if ?_)
  | (refine Kf.w_lc ?_)
  | (refine Kf.w_for ?_)
  | (refine Kf.w_rng1 ?_)
  | (refine' Kf.w_rng1x ?sth ?stg ?_; (case sth => with_unfolding_all walk_at "om"); (case stg => with_unfolding_all walk_at "om"))
  | (refine Kf.w_ilist ?_)
  | (refine Kf.w_iseq ?_)
  | (refine Kf.w_itup ?_)
  | (refine' Kf.w_ilistx ?sth ?_; (case sth => with_unfolding_all walk_at "sq"))
  | (refine' Kf.w_itupx ?sth ?_; (case sth => with_unfolding_all walk_at "sq"))
  | (refine' Kf.w_wipe ?sth ?_; (case sth => with_unfolding_all rfl))
  | (refine Kf.w_yes ?_)
  | (refine' Kf.w_isi ?sth ?stg ?_; (case sth => with_unfolding_all walk_at "ty"); (case stg => walk_at "kit"))
  | (refine Kf.w_isN ?_)
  | (refine Kf.w_notN ?_)
  | (refine Kf.w_cb ?_)
  | (refine Kf.w_nil ?_)
  | (refine Kf.w_cons ?_)
  | (refine Kf.w_tup ?_)
  | (refine Kf.w_lst ?_)
  | (refine' Kf.w_lines ?sth ?_; (case sth => with_unfolding_all rfl))
  | (refine Kf.w_call ?_)
  | (refine Kf.w_next ?_)
  | (refine Kf.w_break ?_)
  | (refine Kf.w_cont ?_)
  | (refine Kf.w_dnewK ?_)
  | (refine Kf.w_dget ?_)
  | (refine Kf.w_sl ?_)
  | (refine Kf.w_nopart ?_)
  | (refine Kf.w_part ?_)
  | (refine Kf.w_bm ?_)
  | (refine Kf.w_bm0 ?_)
  | (refine' Kf.w_bmL ?sth ?_; (case sth => with_unfolding_all walk_at "lk"))
  | (refine' Kf.w_cat ?sth ?stg ?stf ?_; (case sth => with_unfolding_all walk_at "lk"); (case stg => with_unfolding_all walk_at "lk"); (case stf => with_unfolding_all walk_at "om"))
  | (refine' Kf.w_slL ?sth ?_; (case sth => with_unfolding_all walk_at "sq"))
  | (refine' Kf.w_inL ?sth ?_; (case sth => with_unfolding_all walk_at "sq"))
  | (refine' Kf.w_inT ?sth ?_; (case sth => with_unfolding_all walk_at "sq"))
  | (refine' Kf.w_ninL ?sth ?_; (case sth => with_unfolding_all walk_at "sq"))
  | (refine' Kf.w_ninT ?sth ?_; (case sth => with_unfolding_all walk_at "sq"))
  | (refine' Kf.w_listof ?sth ?_; (case sth => with_unfolding_all walk_at "sq"))
  | (refine' Kf.w_tupof ?sth ?_; (case sth => with_unfolding_all walk_at "sq"))
  | (refine Kf.w_listRev ?_)
  | (refine Kf.w_gsub ?_)
  | (refine' Kf.w_ixL ?sth ?stg ?_; (case sth => with_unfolding_all walk_at "sq"); (case stg => with_unfolding_all walk_at "at"))
  | (refine' Kf.w_ixT ?sth ?stg ?_; (case sth => with_unfolding_all walk_at "sq"); (case stg => with_unfolding_all walk_at "at"))
  | (refine' Kf.w_setL ?sth ?stg ?_; (case sth => with_unfolding_all walk_at "lk"); (case stg => with_unfolding_all walk_at "ixn"))
  | (refine' Kf.w_len ?sth ?_; (case sth => with_unfolding_all walk_at "sq"))
  | (refine' Kf.w_lenT ?sth ?_; (case sth => with_unfolding_all walk_at "sq"))
  | (refine Kf.w_int1 ?_)
  | (refine Kf.w_intb ?_)
  | (refine Kf.w_abs ?_)
  | (refine Kf.w_aug rfl ?_)
  | (refine Kf.w_ipI ?_)
  | (refine L2.iteT ?_)
  | (refine L2.iteF ?_)
  | (refine Kf.iteNT ?_)
  | (refine Kf.iteNF ?_)
  | (refine' Kf.ite_decT ?sth ?_; (case sth => exact rfl))
  | (refine' Kf.ite_decF ?sth ?_; (case sth => with_unfolding_all (intro e; cases e; done)))
  | (refine' Kf.ite_ndecF ?sth ?_; (case sth => exact rfl))
  | (refine' Kf.ite_ndecT ?sth ?_; (case sth => with_unfolding_all (intro e; cases e; done)))
  | (refine' Kf.ite_viT ?sth ?_; (case sth => (with_unfolding_all walk_at "om2")))
  | (refine' Kf.ite_viF ?sth ?_; (case sth => (with_unfolding_all walk_at "om2")))
  | (refine' Kf.ite_nviT ?sth ?_; (case sth => (with_unfolding_all walk_at "om2")))
  | (refine' Kf.ite_nviF ?sth ?_; (case sth => (with_unfolding_all walk_at "om2")))
  | (refine' Kf.ite_decT ?sth ?_; (case sth => (with_unfolding_all walk_at "om2")))
  | (refine' Kf.ite_decF ?sth ?_; (case sth => (with_unfolding_all walk_at "om2")))
  | with_unfolding_all walk_at "calls")
local macro_rules | `(tactic| walk_at "go") => `(tactic| repeat walk_at "st")

namespace Kf
open PySem PySem.Spec PyProof.Rows L2
section
variable {P : Program} {w : World} {K : PySem.W.Frag} {mg : Str → Option Value} {base : Heap} {H : Hp} {Q : VK} {E : XK}
theorem ok_turn (D : Df K mg "_law_turn" s__law_turn P__law_turn) (b_len : mg "len" = none) (p__law_pool : Pr P w K mg base "_law_pool" 1 P__law_pool (spPool K)) : Pr P w K mg base "_law_turn" 2 P__law_turn (spTurn K) := by
  refine D.ok sc__law_turn (fun vs H Q E h => ?_) (fun f cdv A outer s H vs Q E hr h => ?_)
  · obtain ⟨a, ns, v, k, rfl, _⟩ := h; rfl
  obtain ⟨a, ns, v, k, rfl, hS, hP, h0, q⟩ := h
  have nd := sc__law_turn.nd
  refine ⟨_, (pss_cons (ps_if (pt_cmpR op_lt (pv 2) (pe_callB (call_lenK (K := K) rfl) (by rfl) b_len PySem.boot_len (pa_cons (pv 0) pa_nil)) (nomark _)) (pss_one (ps_ret (pe_callP p__law_pool hr (pa_cons (pv 0) (pa_cons (pv 2) pa_nil))))) pss_nil)
      (pss_one (ps_ret (pv 1)))), ?_⟩
  refine w_start (σ := [some _, some _, some _]) rfl ?_
  walk_at "go"
  refine ite_d (fun c1 => ?_) (fun c1 => ?_)
  · walk_at "go"
    exact q _ _ (by assumption) (by assumption)
  · walk_at "go"
    exact q _ _ Ext.refl hP
/-- one of the row's items -/
def spPick (K : PySem.W.Frag) : Sp := fun vs H Q _ => ∃ (v : V) (a : Addr) (xs : List V), vs = [v, .ref a] ∧ PoolAt H v ∧ SqL K H a xs ∧ ¬ Pl (.lst xs) ∧ xs ≠ [] ∧ xs.length < 1000000 ∧ ∀ x H', x ∈ xs → Ext H H' → Q x H'
theorem call_pick {v : V} {a : Addr} {xs : List V} (hp : PoolAt H v) (hs : SqL K H a xs) (np : ¬ Pl (.lst xs)) (n0 : xs ≠ []) (n1 : xs.length < 1000000) (q : ∀ x H', x ∈ xs → Ext H H' → Q x H') : spPick K ([v, .ref a] ++ []) H Q E := ⟨v, a, xs, rfl, hp, hs, np, n0, n1, q⟩
theorem atI_in {xs : List V} {k : Int} (h0 : 0 ≤ k) (h1 : k < (xs.length : Nat)) : ∃ x, x ∈ xs ∧ xs[k.toNat]? = some x ∧ atI xs k = some x := by
  have hk : k.toNat < xs.length := by omega
  have e : k = ((k.toNat : Nat) : Int) := by omega
  have q := atI_nat (j := k.toNat) (List.getElem?_eq_getElem hk)
  rw [← e] at q
  exact ⟨xs[k.toNat], List.getElem_mem hk, List.getElem?_eq_getElem hk, q⟩
theorem ok_pick (D : Df K mg "_law_pick" s__law_pick P__law_pick) (b_len : mg "len" = none) (p__law_take : Pr P w K mg base "_law_take" 1 P__law_take (spTake K)) : Pr P w K mg base "_law_pick" 2 P__law_pick (spPick K) := by
  refine D.ok sc__law_pick (fun vs H Q E h => ?_) (fun f cdv A outer s H vs Q E hr h => ?_)
  · obtain ⟨v, a, xs, rfl, _⟩ := h; rfl
  obtain ⟨v, a, xs, rfl, hP, hS, np, n0, n1, q⟩ := h
  have nd := sc__law_pick.nd
  have hl : 0 < xs.length := List.length_pos_iff.mpr n0
  refine ⟨_, (pss_one (ps_ret (pe_ix (ix_listK (K := K) rfl) (pv 1) (pe_callP p__law_take hr (pa_cons (pv 0) (pa_cons (pe_callB (call_lenK (K := K) rfl) (by rfl) b_len PySem.boot_len (pa_cons (pv 1) pa_nil)) pa_nil))) (fun _ _ => rfl)))), ?_⟩
  refine w_start (σ := [some _, some _]) rfl ?_
  walk_at "go"
  rename_i r H' hE h0 h1
  obtain ⟨x, hx, _, e⟩ := atI_in h0 h1
  exact w_ixL (hE.seqL hS np) e (q x H' hx hE)
/-! ### mixed -/
theorem npl_nobl {xs : List V} (h : ∀ x ∈ xs, ∀ b, x ≠ .bl b) : ¬ Pl (.lst xs) := by
  rintro ⟨c, k, b, s, e⟩
  have e := HO.lst.inj e
  subst e
  exact h (.bl b) (by simp) b rfl
def PairsAt (H : Hp) (acc : List V) (i : Nat) : Prop := acc.length = i ∧ ∀ m, m < i → ∃ t j, acc[m]? = some (.ref t) ∧ H t = some (.tup [.int j, .int (m : Nat)])
theorem PairsAt.ext {H H' : Hp} {acc : List V} {i : Nat} (h : PairsAt H acc i) (e : Ext H H') : PairsAt H' acc i := ⟨h.1, fun m hm => by
  obtain ⟨t, j, h1, h2⟩ := h.2 m hm
  exact ⟨t, j, h1, e.get h2 (npl rfl)⟩⟩
theorem PairsAt.push {H : Hp} {acc : List V} {i : Nat} {t : Addr} {j : Int} (h : PairsAt H acc i) (ht : H t = some (.tup [.int j, .int (i : Nat)])) : PairsAt H (acc ++ [.ref t]) (i + 1) := ⟨by simp [h.1], fun m hm => by
  by_cases e : m < i
  · obtain ⟨t', j', h1, h2⟩ := h.2 m e
    exact ⟨t', j', by rw [List.getElem?_append_left (by rw [h.1]; exact e)]; exact h1, h2⟩
  · have e' : m = i := by omega
    subst e'
    exact ⟨t, j, by rw [List.getElem?_append_right (by rw [h.1]; exact Nat.le_refl _), h.1]; simp, ht⟩⟩
theorem PairsAt.nobl {H : Hp} {acc : List V} {i : Nat} (h : PairsAt H acc i) : ∀ x ∈ acc, ∀ b, x ≠ .bl b := fun x hx b e => by
  obtain ⟨m, hm⟩ := List.mem_iff_getElem?.mp hx
  have hl : m < i := by rw [← h.1]; exact (List.getElem?_eq_some_iff.mp hm).1
  obtain ⟨t, j, h1, _⟩ := h.2 m hl
  rw [h1] at hm
  cases hm
  cases e
theorem PairsAt.all {H : Hp} {acc : List V} {i : Nat} (h : PairsAt H acc i) : ∀ x ∈ acc, ∃ t j, ∃ m : Nat, m < i ∧ x = V.ref t ∧ H t = some (.tup [.int j, .int (m : Nat)]) := fun x hx => by
  obtain ⟨m, hm⟩ := List.mem_iff_getElem?.mp hx
  have hl : m < i := by rw [← h.1]; exact (List.getElem?_eq_some_iff.mp hm).1
  obtain ⟨t, j, h1, h2⟩ := h.2 m hl
  rw [h1] at hm
  cases hm
  exact ⟨t, j, m, hl, rfl, h2⟩
/-- the item that a pair names -/
def itemOf (H : Hp) (xs : List V) : V → V
  | .ref t => match H t with
    | some (.tup [_, .int m]) => xs.getD m.toNat .non
    | _ => .non
  | _ => .non
theorem itemOf_at {H : Hp} {xs : List V} {t : Addr} {j : V} {m : Nat} {x : V} (h : H t = some (.tup [j, .int (m : Nat)])) (hx : xs[m]? = some x) : itemOf H xs (.ref t) = x := by
  show (match H t with
    | some (.tup [_, .int m]) => xs.getD m.toNat .non
    | _ => .non) = x
  rw [h]
  show xs.getD ((m : Int)).toNat .non = x
  rw [Int.toNat_natCast, List.getD_eq_getElem?_getD, hx]
  rfl
theorem PairsAt.items {H : Hp} {acc xs : List V} (h : PairsAt H acc xs.length) : acc.map (itemOf H xs) = xs := by
  apply List.ext_getElem?
  intro m
  rw [List.getElem?_map]
  by_cases hm : m < xs.length
  · obtain ⟨t, j, h1, h2⟩ := h.2 m hm
    rw [h1, List.getElem?_eq_getElem hm]
    show some (itemOf H xs (.ref t)) = _
    rw [itemOf_at h2 (List.getElem?_eq_getElem hm)]
  · rw [List.getElem?_eq_none (by rw [h.1]; omega), List.getElem?_eq_none (by omega)]
    rfl
def spMixed (K : PySem.W.Frag) : Sp := fun vs H Q _ => ∃ (v : V) (a : Addr) (xs : List V), vs = [v, .ref a] ∧ PoolAt H v ∧ SqL K H a xs ∧ (∀ x ∈ xs, ∀ b, x ≠ .bl b) ∧ xs.length ≤ 500 ∧ ∀ ys p H', ys.Perm xs → Ext H H' → H p = none → H' p = some (.lst ys) → Q (.ref p) H'
theorem call_mixed {v : V} {a : Addr} {xs : List V} (hp : PoolAt H v) (hs : SqL K H a xs) (np : ∀ x ∈ xs, ∀ b, x ≠ .bl b) (n1 : xs.length ≤ 500) (q : ∀ ys p H', ys.Perm xs → Ext H H' → H p = none → H' p = some (.lst ys) → Q (.ref p) H') : spMixed K ([v, .ref a] ++ []) H Q E := ⟨v, a, xs, rfl, hp, hs, np, n1, q⟩
theorem ok_mixed (D : Df K mg "_law_mixed" s__law_mixed P__law_mixed) (b_len : mg "len" = none) (b_int : mg "int" = none) (b_range : mg "range" = none) (b_sorted : mg "sorted" = none) (p__law_take : Pr P w K mg base "_law_take" 1 P__law_take (spTake K)) :
    Pr P w K mg base "_law_mixed" 2 P__law_mixed (spMixed K) := by
  refine D.ok sc__law_mixed (fun vs H Q E h => ?_) (fun f cdv A outer s H vs Q E hr h => ?_)
  · obtain ⟨v, a, xs, rfl, _⟩ := h; rfl
  obtain ⟨v, a, xs, rfl, hP, hS, np, n1, q⟩ := h
  have nd := sc__law_mixed.nd
  have npx := npl_nobl np
  refine ⟨_, (pss_cons (ps_set (i := 2) nd rfl (Or.inr rfl) (pe_op op_add pe_int (pe_callP p__law_take hr (pa_cons (pv 0) (pa_cons pe_int pa_nil)))))
      (pss_cons (ps_set (i := 3) nd rfl (Or.inl rfl) (pe_callB (cr_sortedPK (K := K) rfl) (by rfl) b_sorted (by decide +kernel) (pa_cons (pe_lc (own := [("k", 4)]) rfl nd (pi_range1 (by rfl) b_range (pa_cons (pe_callB (call_lenK (K := K) rfl) (by rfl) b_len PySem.boot_len (pa_cons (pv 1) pa_nil)) pa_nil)) (blkOk_by (N := N__law_mixed) (sc := defScope s__law_mixed) (by decide +kernel)) (fun _ _ _ _ _ => pg_name (i := 4) nd rfl (Or.inl rfl)) (fun _ _ _ _ _ => pts_nil) (fun _ _ _ _ _ => (pe_tup (pa_cons (pe_op op_modN (pe_callTy call_int1 (by rfl) b_int (by decide +kernel) (pa_cons (pe_op op_mul (pe_op op_add (pv 4) pe_int) (pv 2)) pa_nil)) pe_int) (pa_cons (pv 4) pa_nil))))) pa_nil)))
      (pss_one (ps_ret (pe_lc (own := [("pair", 5)]) rfl nd (pi_listK (K := K) rfl (pv 3)) (blkOk_by (N := N__law_mixed) (sc := defScope s__law_mixed) (by decide +kernel)) (fun _ _ _ _ _ => pg_name (i := 5) nd rfl (Or.inl rfl)) (fun _ _ _ _ _ => pts_nil) (fun _ _ _ _ _ => (pe_ix (ix_listK (K := K) rfl) (pv 1) (pe_ix (ix_tupK (K := K) rfl) (pv 5) pe_int (fun _ _ => rfl)) (fun _ _ => rfl)))))))), ?_⟩
  refine w_start (σ := [some _, some _, none, none, none, none]) rfl ?_
  walk_at "go"
  rename_i r H1 hE h0 h1
  have hS1 := hE.seqL hS npx
  walk_at "go"
  refine lc_r (R := fun i acc Hd => PairsAt Hd acc i) ⟨rfl, fun m hm => absurd hm (by omega)⟩ (fun i acc Ha Hb e h => h.ext e) ?_ ?_
  · intro i acc D' H2 hi hD hacc hE2 hR
    have hl : acc.length ≤ 1000 := by rw [hR.1, Int.toNat_natCast] at *; omega
    walk_at "go"
    intro p hp
    refine LcP.put hD hacc (npl_nobl hR.nobl) hE2 (Ext.new hp) hl ?_
    have e : del (upd H2 p (.tup [.int (((0 + (i : Int) + 1) * (1 + r)).fmod 1009), .int (0 + (i : Int))])) D' p = some (.tup [.int (((0 + (i : Int) + 1) * (1 + r)).fmod 1009), .int (0 + (i : Int))]) := del_at upd_same (ne_of_none hacc hp).symm
    rw [Int.zero_add] at e
    rw [Int.zero_add]
    exact (hR.ext (Ext.del (Ext.new hp))).push e
  · intro D' acc H2 hD hacc hE2 hR
    rw [Int.toNat_natCast] at hR
    walk_at "go"
    refine ⟨D', acc, rfl, SqL.of hacc, fun x hx => ?_, fun ys p hperm hp => ?_⟩
    · obtain ⟨t, j, m, _, e1, e2⟩ := hR.all x hx
      exact ⟨t, j, m, e1, e2⟩
    walk_at "go"
    have hall : ∀ x ∈ ys, ∃ t j, ∃ m : Nat, m < xs.length ∧ x = V.ref t ∧ H2 t = some (.tup [.int j, .int (m : Nat)]) := fun x hx => hR.all x (hperm.mem_iff.mp hx)
    have nb : ∀ x ∈ ys, ∀ b, x ≠ V.bl b := fun x hx b e => by
      obtain ⟨t, j, m, _, e1, _⟩ := hall x hx
      rw [e1] at e; cases e
    have hS2 : SqL K H2 a xs := hE2.seqL hS1 npx
    refine lc_l (R := fun i acc Hd => acc = (ys.take i).map (itemOf H2 xs)) (SqL.of L2.upd_same) (npl_nobl nb) rfl (fun i acc Ha Hb e h => h) ?_ ?_
    · intro i x acc D2 H3 hx hD2 hacc2 hE3 hR3
      obtain ⟨t, j, m, hm, rfl, ht⟩ := hall x (List.mem_of_getElem? hx)
      have hil : i < ys.length := (List.getElem?_eq_some_iff.mp hx).1
      have hyl : ys.length = xs.length := by rw [hperm.length_eq, hR.1]
      have ht3 : H3 t = some (.tup [.int j, .int (m : Nat)]) := hE3.get (upd_old hp ht) (npl rfl)
      have hS3 : SqL K H3 a xs := ((Ext.new hp).trans hE3).seqL hS2 npx
      walk_at "go"
      refine w_ixL hS3 (atI_nat (j := m) (List.getElem?_eq_getElem hm)) ?_
      have hal : acc.length ≤ 1000 := by rw [hR3, List.length_map, List.length_take]; omega
      have hnb : ∀ y ∈ acc, ∀ b, y ≠ V.bl b := fun y hy b e => by
        rw [hR3] at hy
        obtain ⟨z, hz, ez⟩ := List.mem_map.mp hy
        obtain ⟨t', j', m', hm', e1, e2⟩ := hall z (List.mem_of_mem_take hz)
        rw [e1, itemOf_at e2 (List.getElem?_eq_getElem hm')] at ez
        exact np _ (List.getElem_mem hm') b (ez.trans e)
      refine LcP.put hD2 hacc2 (npl_nobl hnb) hE3 Ext.refl hal ?_
      rw [List.take_add_one, hx, List.map_append, ← hR3]
      show acc ++ [xs[m]] = acc ++ [itemOf H2 xs (.ref t)]
      rw [itemOf_at ht (List.getElem?_eq_getElem hm)]
    · intro D2 acc2 H3 hD2 hacc2 hE3 hR3
      rw [List.take_length] at hR3
      have hE4 : Ext H H3 := hE.trans (hE2.trans ((Ext.new hp).trans hE3))
      refine q acc2 D2 H3 ?_ hE4 (hE.non (hE2.non ((Ext.new hp).non hD2))) hacc2
      rw [hR3]
      have e := hperm.map (itemOf H2 xs)
      rw [hR.items] at e
      exact e
end
end Kf

end
section
set_option Elab.async false
set_option linter.all false
set_option maxRecDepth 100000
set_option maxHeartbeats 4000000
local macro_rules | `(tactic| walk_at "npl") => `(tactic| first | exact Kf.npl rfl | exact Kf.npl_ints _ | exact Kf.npl_one _ _ | exact Kf.npl_refs _ | assumption)
local macro_rules | `(tactic| walk_at "nn") => `(tactic| first
  | assumption
  | (refine' Kf.Ext.non ?nne ?nnh; (case nne => assumption); (case nnh => walk_at "nn")))
local macro_rules | `(tactic| walk_at "ext") => `(tactic| first
  | assumption
  | exact Kf.Ext.refl
  | (refine' Kf.Ext.newer ?exa ?exn; (case exn => assumption); (case exa => walk_at "ext"))
  | (refine' Kf.Ext.own ?exa ?exn; (case exn => walk_at "nn"); (case exa => walk_at "ext"))
  | (refine' Kf.Ext.trans ?exa ?exb; (case exb => assumption); (case exa => walk_at "ext")))
local macro_rules | `(tactic| walk_at "pool") => `(tactic| first
  | assumption
  | (refine' Kf.PoolAt.ext ?plh ?ple; (case plh => assumption); (case ple => walk_at "ext"))
  | (refine' Kf.PoolAt.upd ?plh ?plo ?pln; (case plo => assumption); (case pln => walk_at "npl"); (case plh => walk_at "pool")))
local macro_rules | `(tactic| walk_at "lk") => `(tactic| first
  | assumption
  | exact L2.upd_same
  | (refine' Kf.upd_old ?lkn ?lkh; (case lkn => assumption); (case lkh => walk_at "lk"))
  | (refine' Kf.upd_oth ?lkn ?lkh; (case lkn => (first | assumption | (apply Ne.symm; assumption))); (case lkh => walk_at "lk"))
  | (refine' Kf.Ext.get ?lke ?lkh ?lkn; (case lke => assumption); (case lkh => walk_at "lk"); (case lkn => walk_at "npl"))
  | (refine' L2.Same.at ?lke ?lkh; (case lke => assumption); (case lkh => walk_at "lk")))
local macro_rules | `(tactic| walk_at "sq") => `(tactic| first
  | assumption
  | (refine' L2.SqL.of ?sqh; (case sqh => walk_at "lk"))
  | (refine' L2.SqT.of ?sqh; (case sqh => walk_at "lk"))
  | (refine' Kf.Ext.seqL ?sqe ?sqh ?sqn; (case sqh => assumption); (case sqe => walk_at "ext"); (case sqn => walk_at "npl"))
  | (refine' Kf.Ext.seqT ?sqe ?sqh; (case sqh => assumption); (case sqe => walk_at "ext")))
local macro_rules | `(tactic| walk_at "at") => `(tactic| first | exact L2.atI_nat (j := 0) rfl | exact L2.atI_nat (j := 1) rfl | exact L2.atI_nat (j := 2) rfl | exact L2.atI_nat (j := 3) rfl | exact L2.atI_nat (j := 4) rfl | assumption)
local macro_rules | `(tactic| walk_at "ixn") => `(tactic| first | exact Kf.ixN_nat (j := 0) rfl | exact Kf.ixN_nat (j := 1) rfl | exact Kf.ixN_nat (j := 2) rfl | exact Kf.ixN_nat (j := 3) rfl | assumption)
local macro_rules | `(tactic| walk_at "set") => `(tactic| (first | (simp only [List.set_cons_succ, List.set_cons_zero]; rfl) | rfl))
local macro_rules | `(tactic| walk_at "om") => `(tactic| first | decide | omega | (simp only [List.length_map, List.length_cons, List.length_nil] at *; omega))
local macro_rules | `(tactic| walk_at "calls") => `(tactic| first
  | (with_reducible refine' Kf.call_take ?clp ?cla ?clb ?clq; (case clp => walk_at "pool"); (case cla => walk_at "om"); (case clb => walk_at "om"); intro r H' hE h0 h1)
  | (with_reducible refine' Kf.call_pool ?cls ?cla ?clq; (case cls => walk_at "sq"); (case cla => walk_at "om"); intro p H' hE hN hP)
  | (with_reducible refine' Kf.call_turn ?cls ?clp ?cla ?clq; (case cls => walk_at "sq"); (case clp => walk_at "pool"); (case cla => walk_at "om"); intro u H' hE hP))
local macro_rules | `(tactic| walk_at "side") => `(tactic| first
  | exact Kf.cmul_fmod (by decide) (by decide)
  | exact rfl
  | decide
  | omega
  | assumption
  | (refine ⟨?_, ?_⟩ <;> decide)
  | (refine ⟨?_, ?_, ?_⟩ <;> decide)
  | (refine ⟨?_, ?_⟩ <;> omega)
  | (refine Or.inl ⟨?_, ?_⟩ <;> decide)
  | (refine Or.inr ⟨?_, ?_⟩ <;> decide)
  | (refine Or.inl ⟨?_, ?_⟩ <;> omega)
  | (refine Or.inr ⟨?_, ?_⟩ <;> omega))
local macro_rules | `(tactic| walk_at "kit") => `(tactic| first | exact Kf.isi_int_int | exact Kf.isi_int_bool | exact Kf.isi_int_str | exact Kf.isi_int_list | exact Kf.isi_int_tuple | exact Kf.isi_bool_int | exact Kf.isi_bool_bool | exact Kf.isi_bool_str | exact Kf.isi_bool_list | exact Kf.isi_bool_tuple | exact Kf.isi_str_int | exact Kf.isi_str_bool | exact Kf.isi_str_str | exact Kf.isi_str_list | exact Kf.isi_str_tuple | exact Kf.isi_non_list | exact Kf.isi_non_tuple | exact Kf.isi_list_list | exact Kf.isi_list_tuple | exact Kf.isi_tuple_list | exact Kf.isi_tuple_tuple | exact Kf.isi_dict_dict)
local macro_rules | `(tactic| walk_at "ty") => `(tactic| first
  | exact L2.TyX.base (L2.TyOf.int _)
  | exact L2.TyX.base (L2.TyOf.bl _)
  | exact L2.TyX.base (L2.TyOf.str _)
  | exact L2.TyX.base L2.TyOf.non
  | (refine' L2.TyX.base (L2.TyOf.lst ?tyh); (case tyh => walk_at "lk"))
  | (refine' L2.TyX.base (L2.TyOf.tup ?tyh); (case tyh => walk_at "lk"))
  | (refine' L2.TyX.base (L2.TyOf.dK ?tyh); (case tyh => walk_at "lk")))
local macro_rules | `(tactic| walk_at "om2") => `(tactic| first | assumption | decide | omega)
local macro_rules | `(tactic| walk_at "st") => `(tactic| with_reducible first
  | (refine Kf.w_var rfl ?_)
  | (refine Kf.w_c ?_)
  | (refine Kf.w_seq ?_)
  | (refine Kf.w_asg ?_)
  | (refine' Kf.w_gname ?sth ?_; (case sth => with_unfolding_all walk_at "set"))
  | (refine Kf.w_op ?_)
  | (refine Kf.w_un ?_)
  | (refine Kf.w_rU ?_)
  | (refine Kf.w_rI0 ?_)
  | (refine' Kf.w_rI ?sth ?_; (case sth => with_unfolding_all walk_at "side"))
  | (refine' Kf.w_rEq ?sth ?_; (case sth => with_unfolding_all rfl))
  | (refine' Kf.w_rNe ?sth ?_; (case sth => with_unfolding_all rfl))
  | (refine Kf.w_tTest ?_)
  | (refine Kf.w_tB ?_)
  | (refine Kf.w_exbl ?_)
  | (refine Kf.w_exint ?_)
  | (refine Kf.w_ifS ?_)
  | (refine Kf.w_ret ?_)
  | (refine Kf.w_retN ?_)
  | (refine Kf.w_drop ?_)
  | (refine Kf.w_and ?_)
  | (refine Kf.w_or ?_)
  | (refine Kf.w_not ?_)
  | (refine Kf.w_andV ?_)
  | (refine Kf.w_orV ?_)
  | (refine Kf.w_notV ?_)
  | (refine Kf.w_if ?_)
  | (refine Kf.w_lc ?_)
  | (refine Kf.w_for ?_)
  | (refine Kf.w_rng1 ?_)
  | (refine' Kf.w_rng1x ?sth ?stg ?_; (case sth => with_unfolding_all walk_at "om"); (case stg => with_unfolding_all walk_at "om"))
  | (refine Kf.w_ilist ?_)
  | (refine Kf.w_iseq ?_)
  | (refine Kf.w_itup ?_)
  | (refine' Kf.w_ilistx ?sth ?_; (case sth => with_unfolding_all walk_at "sq"))
  | (refine' Kf.w_itupx ?sth ?_; (case sth => with_unfolding_all walk_at "sq"))
  | (refine' Kf.w_wipe ?sth ?_; (case sth => with_unfolding_all rfl))
  | (refine Kf.w_yes ?_)
  | (refine' Kf.w_isi ?sth ?stg ?_; (case sth => with_unfolding_all walk_at "ty"); (case stg => walk_at "kit"))
  | (refine Kf.w_isN ?_)
  | (refine Kf.w_notN ?_)
  | (refine Kf.w_cb ?_)
  | (refine Kf.w_nil ?_)
  | (refine Kf.w_cons ?_)
  | (refine Kf.w_tup ?_)
  | (refine Kf.w_lst ?_)
  | (refine' Kf.w_lines ?sth ?_; (case sth => with_unfolding_all rfl))
  | (refine Kf.w_call ?_)
  | (refine Kf.w_next ?_)
  | (refine Kf.w_break ?_)
  | (refine Kf.w_cont ?_)
  | (refine Kf.w_dnewK ?_)
  | (refine Kf.w_dget ?_)
  | (refine Kf.w_sl ?_)
  | (refine Kf.w_nopart ?_)
  | (refine Kf.w_part ?_)
  | (refine Kf.w_bm ?_)
  | (refine Kf.w_bm0 ?_)
  | (refine' Kf.w_bmL ?sth ?_; (case sth => with_unfolding_all walk_at "lk"))
  | (refine' Kf.w_cat ?sth ?stg ?stf ?_; (case sth => with_unfolding_all walk_at "lk"); (case stg => with_unfolding_all walk_at "lk"); (case stf => with_unfolding_all walk_at "om"))
  | (refine' Kf.w_slL ?sth ?_; (case sth => with_unfolding_all walk_at "sq"))
  | (refine' Kf.w_inL ?sth ?_; (case sth => with_unfolding_all walk_at "sq"))
  | (refine' Kf.w_inT ?sth ?_; (case sth => with_unfolding_all walk_at "sq"))
  | (refine' Kf.w_ninL ?sth ?_; (case sth => with_unfolding_all walk_at "sq"))
  | (refine' Kf.w_ninT ?sth ?_; (case sth => with_unfolding_all walk_at "sq"))
  | (refine' Kf.w_listof ?sth ?_; (case sth => with_unfolding_all walk_at "sq"))
  | (refine' Kf.w_tupof ?sth ?_; (case sth => with_unfolding_all walk_at "sq"))
  | (refine Kf.w_listRev ?_)
  | (refine Kf.w_gsub ?_)
  | (refine' Kf.w_ixL ?sth ?stg ?_; (case sth => with_unfolding_all walk_at "sq"); (case stg => with_unfolding_all walk_at "at"))
  | (refine' Kf.w_ixT ?sth ?stg ?_; (case sth => with_unfolding_all walk_at "sq"); (case stg => with_unfolding_all walk_at "at"))
  | (refine' Kf.w_setL ?sth ?stg ?_; (case sth => with_unfolding_all walk_at "lk"); (case stg => with_unfolding_all walk_at "ixn"))
  | (refine' Kf.w_len ?sth ?_; (case sth => with_unfolding_all walk_at "sq"))
  | (refine' Kf.w_lenT ?sth ?_; (case sth => with_unfolding_all walk_at "sq"))
  | (refine Kf.w_int1 ?_)
  | (refine Kf.w_intb ?_)
  | (refine Kf.w_abs ?_)
  | (refine Kf.w_aug rfl ?_)
  | (refine Kf.w_ipI ?_)
  | (refine L2.iteT ?_)
  | (refine L2.iteF ?_)
  | (refine Kf.iteNT ?_)
  | (refine Kf.iteNF ?_)
  | (refine' Kf.ite_decT ?sth ?_; (case sth => exact rfl))
  | (refine' Kf.ite_decF ?sth ?_; (case sth => with_unfolding_all (intro e; cases e; done)))
  | (refine' Kf.ite_ndecF ?sth ?_; (case sth => exact rfl))
  | (refine' Kf.ite_ndecT ?sth ?_; (case sth => with_unfolding_all (intro e; cases e; done)))
  | (refine' Kf.ite_viT ?sth ?_; (case sth => (with_unfolding_all walk_at "om2")))
  | (refine' Kf.ite_viF ?sth ?_; (case sth => (with_unfolding_all walk_at "om2")))
  | (refine' Kf.ite_nviT ?sth ?_; (case sth => (with_unfolding_all walk_at "om2")))
  | (refine' Kf.ite_nviF ?sth ?_; (case sth => (with_unfolding_all walk_at "om2")))
  | (refine' Kf.ite_decT ?sth ?_; (case sth => (with_unfolding_all walk_at "om2")))
  | (refine' Kf.ite_decF ?sth ?_; (case sth => (with_unfolding_all walk_at "om2")))
  | with_unfolding_all walk_at "calls")
local macro_rules | `(tactic| walk_at "go") => `(tactic| repeat walk_at "st")

namespace Kf
open PySem PySem.Spec PyProof.Rows L2
/-! ### data: numbers, texts, truths, None, lists, tuples -/
mutual
inductive Dq (H : Hp) : V → PyData → Prop
  | non : Dq H .non .none
  | bl (b : Bool) : Dq H (.bl b) (.bool b)
  | int (i : Int) : Dq H (.int i) (.int i)
  | str (x : Str) : Dq H (.str x) (.str x)
  | lst {a : Addr} {xs : List V} {ds : List PyData} : H a = some (.lst xs) → ¬ Pl (.lst xs) → DqAll H xs ds → Dq H (.ref a) (.list ds)
  | tup {a : Addr} {xs : List V} {ds : List PyData} : H a = some (.tup xs) → DqAll H xs ds → Dq H (.ref a) (.tuple ds)
inductive DqAll (H : Hp) : List V → List PyData → Prop
  | nil : DqAll H [] []
  | cons {v : V} {vs : List V} {d : PyData} {ds : List PyData} : Dq H v d → DqAll H vs ds → DqAll H (v :: vs) (d :: ds)
end
mutual
theorem Dq.ext {H H' : Hp} (e : Ext H H') : ∀ {v : V} {d : PyData}, Dq H v d → Dq H' v d
  | _, _, .non => .non
  | _, _, .bl b => .bl b
  | _, _, .int i => .int i
  | _, _, .str x => .str x
  | _, _, .lst h n r => .lst (e.get h n) n (DqAll.ext e r)
  | _, _, .tup h r => .tup (e.get h (npl rfl)) (DqAll.ext e r)
theorem DqAll.ext {H H' : Hp} (e : Ext H H') : ∀ {vs : List V} {ds : List PyData}, DqAll H vs ds → DqAll H' vs ds
  | _, _, .nil => .nil
  | _, _, .cons h r => .cons (Dq.ext e h) (DqAll.ext e r)
end
mutual
theorem Dq.dp {H : Hp} {K : PySem.W.Frag} : ∀ {v : V} {d : PyData}, Dq H v d → Dp K H v d
  | _, _, .non => .non
  | _, _, .bl b => .bl b
  | _, _, .int i => .int i
  | _, _, .str x => .str x
  | _, _, .lst h _ r => .lst (SqL.of h) (DqAll.dp r)
  | _, _, .tup h r => .tup (SqT.of h) (DqAll.dp r)
theorem DqAll.dp {H : Hp} {K : PySem.W.Frag} : ∀ {vs : List V} {ds : List PyData}, DqAll H vs ds → DpAll K H vs ds
  | _, _, .nil => .nil
  | _, _, .cons h r => .cons (Dq.dp h) (DqAll.dp r)
end
theorem DqAll.len {H : Hp} : ∀ {vs : List V} {ds : List PyData}, DqAll H vs ds → vs.length = ds.length
  | _, _, .nil => rfl
  | _, _, .cons _ r => by simp [DqAll.len r]
theorem DqAll.get {H : Hp} : ∀ {vs : List V} {ds : List PyData} {i : Nat} {v : V}, DqAll H vs ds → vs[i]? = some v → ∃ d, ds[i]? = some d ∧ Dq H v d
  | _, _, _, _, .nil, h => by simp at h
  | _, _, 0, _, .cons q r, h => by
    simp at h
    subst h
    exact ⟨_, rfl, q⟩
  | _, _, i + 1, _, .cons q r, h => by
    obtain ⟨d, e, q'⟩ := DqAll.get (i := i) r (by simpa using h)
    exact ⟨d, by simpa using e, q'⟩
theorem DqAll.ints {H : Hp} : ∀ ns : List Int, DqAll H (ns.map V.int) (ns.map PyData.int)
  | [] => .nil
  | n :: r => .cons (.int n) (DqAll.ints r)
/-- few levels, no list of more than a thousand -/
def Sm : Nat → PyData → Prop
  | 0, .list _ => False
  | 0, .tuple _ => False
  | n + 1, .list ds => ds.length ≤ 1000 ∧ ∀ d ∈ ds, Sm n d
  | n + 1, .tuple ds => ds.length ≤ 1000 ∧ ∀ d ∈ ds, Sm n d
  | _, .dict _ => False
  | _, _ => True
def spWhole (K : PySem.W.Frag) : Sp := fun vs H Q _ => ∃ i : Int, vs = [.int i] ∧ Q (.bl true) H
def spAlike (n : Nat) : Sp := fun vs H Q _ => ∃ (t u : V) (d : PyData), vs = [t, u] ∧ Dq H t d ∧ Dq H u d ∧ Sm n d ∧ ∀ H', Ext H H' → Q (.bl true) H'
section
variable {P : Program} {w : World} {K : PySem.W.Frag} {mg : Str → Option Value} {base : Heap} {H : Hp} {Q : VK} {E : XK}
theorem call_whole {i : Int} (q : Q (.bl true) H) : spWhole K ([.int i] ++ []) H Q E := ⟨i, rfl, q⟩
theorem call_alike {n : Nat} {t u : V} {d : PyData} (h1 : Dq H t d) (h2 : Dq H u d) (hs : Sm n d) (q : ∀ H', Ext H H' → Q (.bl true) H') : spAlike n ([t, u] ++ []) H Q E := ⟨t, u, d, rfl, h1, h2, hs, q⟩
theorem ok_whole (D : Df K mg "_law_whole" s__law_whole P__law_whole) (b_isinstance : mg "isinstance" = none) (b_int : mg "int" = none) (b_bool : mg "bool" = none) : Pr P w K mg base "_law_whole" 1 P__law_whole (spWhole K) := by
  refine D.ok sc__law_whole (fun vs H Q E h => ?_) (fun f cdv A outer s H vs Q E hr h => ?_)
  · obtain ⟨i, rfl, _⟩ := h; rfl
  obtain ⟨i, rfl, q⟩ := h
  have nd := sc__law_whole.nd
  refine ⟨_, (pss_one (ps_ret (pe_and (pe_callB (call_isiK1 (K := K) rfl) (by rfl) b_isinstance (by decide +kernel) (pa_cons (pv 0) (pa_cons (pe_bltn (v := .ty "int") (by rfl) b_int (by decide +kernel) rfl) pa_nil))) (pe_one (pe_not (pe_callB (call_isiK1 (K := K) rfl) (by rfl) b_isinstance (by decide +kernel) (pa_cons (pv 0) (pa_cons (pe_bltn (v := .ty "bool") (by rfl) b_bool (by decide +kernel) rfl) pa_nil)))))))), ?_⟩
  refine w_start (σ := [some _]) rfl ?_
  walk_at "go"
  exact q
theorem Df.never {x : Str} {st : Stmt} {ps : List Str} (D : Df K mg x st ps) (sp : Sp) (h : ∀ vs H Q E, ¬ sp vs H Q E) : Pr P w K mg base x 0 ps sp := by
  obtain ⟨f, fd, F, b, g⟩ := D.ex
  obtain ⟨oc, od, kV, doc, pm, an, cdv, ct, osl, e, lk, hcd⟩ := F.ex
  exact ⟨f, fd, ⟨fun vs H Q E q => absurd q (h _ _ _ _), fun A outer s H args us vs Q E _ _ _ _ q => absurd q (h _ _ _ _)⟩, b, F.kp, g, oc, od, osl, lk⟩
end
abbrev s__law_alike : Stmt := topS 10
abbrev N__law_alike : List Str := ["told", "due", "k"]
abbrev P__law_alike : List Str := ["told", "due"]
theorem sc__law_alike : FnScope N__law_alike P__law_alike (defScope s__law_alike) := ⟨rfl, rfl, rfl, by decide +kernel, rfl, by decide +kernel, by decide +kernel⟩
theorem neB {a : Bool} : (!decide (V.bl a = V.bl a)) = false := by simp
section
variable {P : Program} {w : World} {K : PySem.W.Frag} {mg : Str → Option Value} {base : Heap} {H : Hp} {Q : VK} {E : XK}
theorem ok_alike_step {n m : Nat} (D : Df K mg "_law_alike" s__law_alike P__law_alike) (b_isinstance : mg "isinstance" = none) (b_int : mg "int" = none) (b_bool : mg "bool" = none) (b_list : mg "list" = none) (b_tuple : mg "tuple" = none) (b_str : mg "str" = none) (b_len : mg "len" = none) (b_range : mg "range" = none)
    (p__law_whole : Pr P w K mg base "_law_whole" 1 P__law_whole (spWhole K)) (sp : Sp) (p__law_alike : Pr P w K mg base "_law_alike" m P__law_alike sp) (hm : m ≤ n + 1) (hsp : ∀ k vs H Q E, n = k + 1 → spAlike k vs H Q E → sp vs H Q E) : Pr P w K mg base "_law_alike" (n + 2) P__law_alike (spAlike n) := by
  refine D.ok sc__law_alike (fun vs H Q E h => ?_) (fun f cdv A outer s H vs Q E hr h => ?_)
  · obtain ⟨t, u, d, rfl, _⟩ := h; rfl
  obtain ⟨t, u, d, rfl, h1, h2, hs, q⟩ := h
  have nd := sc__law_alike.nd
  have hr1 : Room 1 _ := hr.mono (j := 1) (by omega)
  have hrm := hr.mono hm
  refine ⟨_, (pss_cons (ps_if (PW.pt (pw_or (pt_val (pe_callB (call_isiK1 (K := K) rfl) (by rfl) b_isinstance (by decide +kernel) (pa_cons (pv 1) (pa_cons (pe_bltn (v := .ty "list") (by rfl) b_list (by decide +kernel) rfl) pa_nil)))) (pw_or1 (pt_val (pe_callB (call_isiK1 (K := K) rfl) (by rfl) b_isinstance (by decide +kernel) (pa_cons (pv 1) (pa_cons (pe_bltn (v := .ty "tuple") (by rfl) b_tuple (by decide +kernel) rfl) pa_nil))))))) (pss_cons (ps_if (PW.pt (pw_or (pt_cmpR op_ne (pe_callB (call_isiK1 (K := K) rfl) (by rfl) b_isinstance (by decide +kernel) (pa_cons (pv 0) (pa_cons (pe_bltn (v := .ty "list") (by rfl) b_list (by decide +kernel) rfl) pa_nil))) (pe_callB (call_isiK1 (K := K) rfl) (by rfl) b_isinstance (by decide +kernel) (pa_cons (pv 1) (pa_cons (pe_bltn (v := .ty "list") (by rfl) b_list (by decide +kernel) rfl) pa_nil))) (nomark _)) (pw_or1 (pt_cmpR op_ne (pe_callB (call_isiK1 (K := K) rfl) (by rfl) b_isinstance (by decide +kernel) (pa_cons (pv 0) (pa_cons (pe_bltn (v := .ty "tuple") (by rfl) b_tuple (by decide +kernel) rfl) pa_nil))) (pe_callB (call_isiK1 (K := K) rfl) (by rfl) b_isinstance (by decide +kernel) (pa_cons (pv 1) (pa_cons (pe_bltn (v := .ty "tuple") (by rfl) b_tuple (by decide +kernel) rfl) pa_nil))) (nomark _))))) (pss_one (ps_ret pe_bl)) pss_nil)
      (pss_cons (ps_if (pt_cmpR op_ne (pe_callB (call_lenK (K := K) rfl) (by rfl) b_len PySem.boot_len (pa_cons (pv 0) pa_nil)) (pe_callB (call_lenK (K := K) rfl) (by rfl) b_len PySem.boot_len (pa_cons (pv 1) pa_nil)) (nomark _)) (pss_one (ps_ret pe_bl)) pss_nil)
      (pss_one (ps_ret (pe_cmpR op_eq (pe_callB (call_lenK (K := K) rfl) (by rfl) b_len PySem.boot_len (pa_cons (pe_lc (own := [("k", 2)]) rfl nd (pi_range1 (by rfl) b_range (pa_cons (pe_callB (call_lenK (K := K) rfl) (by rfl) b_len PySem.boot_len (pa_cons (pv 1) pa_nil)) pa_nil)) (blkOk_by (N := N__law_alike) (sc := defScope s__law_alike) (by decide +kernel)) (fun _ _ _ _ _ => pg_name (i := 2) nd rfl (Or.inl rfl)) (fun _ _ _ _ _ => pts_one (pt_not (pt_val (pe_callP p__law_alike hrm (pa_cons (pe_ix (ix_seqK (K := K) rfl) (pv 0) (pv 2) (fun _ _ => rfl)) (pa_cons (pe_ix (ix_seqK (K := K) rfl) (pv 1) (pv 2) (fun _ _ => rfl)) pa_nil)) (Nat.le_refl _))))) (fun _ _ _ _ _ => (pv 2))) pa_nil)) pe_int (nomark _)))))) pss_nil)
      (pss_cons (ps_if (pt_cmp (pc_isN (pv 1))) (pss_one (ps_ret (pe_cmp (pc_isN (pv 0))))) pss_nil)
      (pss_cons (ps_if (pt_val (pe_callB (call_isiK1 (K := K) rfl) (by rfl) b_isinstance (by decide +kernel) (pa_cons (pv 1) (pa_cons (pe_bltn (v := .ty "bool") (by rfl) b_bool (by decide +kernel) rfl) pa_nil)))) (pss_one (ps_ret (pe_and (pe_callB (call_isiK1 (K := K) rfl) (by rfl) b_isinstance (by decide +kernel) (pa_cons (pv 0) (pa_cons (pe_bltn (v := .ty "bool") (by rfl) b_bool (by decide +kernel) rfl) pa_nil))) (pe_one (pe_cmpR op_eq (pv 0) (pv 1) (nomark _)))))) pss_nil)
      (pss_cons (ps_if (pt_val (pe_callB (call_isiK1 (K := K) rfl) (by rfl) b_isinstance (by decide +kernel) (pa_cons (pv 1) (pa_cons (pe_bltn (v := .ty "str") (by rfl) b_str (by decide +kernel) rfl) pa_nil)))) (pss_one (ps_ret (pe_and (pe_callB (call_isiK1 (K := K) rfl) (by rfl) b_isinstance (by decide +kernel) (pa_cons (pv 0) (pa_cons (pe_bltn (v := .ty "str") (by rfl) b_str (by decide +kernel) rfl) pa_nil))) (pe_one (pe_cmpR op_eq (pv 0) (pv 1) (nomark _)))))) pss_nil)
      (pss_one (ps_ret (pe_and (pe_callP p__law_whole hr1 (pa_cons (pv 0) pa_nil) (Nat.le_refl _)) (pe_one (pe_cmpR op_eq (pv 0) (pv 1) (nomark _)))))))))), ?_⟩
  cases h2 with
  | non =>
    cases h1
    refine w_start (σ := [some _, some _, none]) rfl ?_
    walk_at "go"
    exact q _ Ext.refl
  | bl b =>
    cases h1
    refine w_start (σ := [some _, some _, none]) rfl ?_
    walk_at "go"
    rw [decide_eq_true rfl]
    exact q _ Ext.refl
  | int i =>
    cases h1
    refine w_start (σ := [some _, some _, none]) rfl ?_
    walk_at "go"
    refine call_whole ?_
    walk_at "go"
    rw [decide_eq_true rfl]
    exact q _ Ext.refl
  | str x =>
    cases h1
    refine w_start (σ := [some _, some _, none]) rfl ?_
    walk_at "go"
    rw [decide_eq_true rfl]
    exact q _ Ext.refl
  | @lst b ys ds hb nb rb =>
    cases h1 with
    | @lst a xs _ ha na ra =>
      cases n with
      | zero => exact hs.elim
      | succ n =>
        obtain ⟨hl, hs⟩ := hs
        have e1 := ra.len
        have e2 := rb.len
        refine w_start (σ := [some _, some _, none]) rfl ?_
        walk_at "go"
        refine lc_r (R := fun _ acc _ => acc = []) rfl (fun _ _ _ _ _ h => h) ?_ ?_
        · rintro i acc D' H1 hi hD hacc hE rfl
          have hia : i < xs.length := by omega
          have hib : i < ys.length := by omega
          obtain ⟨d, hd, q1⟩ := ra.get (List.getElem?_eq_getElem hia)
          obtain ⟨d', hd', q2⟩ := rb.get (List.getElem?_eq_getElem hib)
          rw [hd] at hd'
          cases hd'
          walk_at "go"
          simp only [Int.zero_add]
          refine .inl ⟨_, _, _, _, rfl, rfl, SqL.of (hE.get ha na), atI_nat (j := i) (List.getElem?_eq_getElem hia), ?_⟩
          walk_at "go"
          refine .inl ⟨_, _, _, _, rfl, rfl, SqL.of (hE.get hb nb), atI_nat (j := i) (List.getElem?_eq_getElem hib), ?_⟩
          walk_at "go"
          refine hsp n _ _ _ _ rfl (call_alike (q1.ext hE) (q2.ext hE) (hs d (List.mem_of_getElem? hd)) fun H' hE' => ?_)
          walk_at "go"
          exact LcP.skip hacc npl_nil hE hE' rfl
        · rintro D' acc H1 hD hacc hE rfl
          walk_at "go"
          exact q _ hE
  | @tup b ys ds hb rb =>
    cases h1 with
    | @tup a xs _ ha ra =>
      cases n with
      | zero => exact hs.elim
      | succ n =>
        obtain ⟨hl, hs⟩ := hs
        have e1 := ra.len
        have e2 := rb.len
        refine w_start (σ := [some _, some _, none]) rfl ?_
        walk_at "go"
        refine lc_r (R := fun _ acc _ => acc = []) rfl (fun _ _ _ _ _ h => h) ?_ ?_
        · rintro i acc D' H1 hi hD hacc hE rfl
          have hia : i < xs.length := by omega
          have hib : i < ys.length := by omega
          obtain ⟨d, hd, q1⟩ := ra.get (List.getElem?_eq_getElem hia)
          obtain ⟨d', hd', q2⟩ := rb.get (List.getElem?_eq_getElem hib)
          rw [hd] at hd'
          cases hd'
          walk_at "go"
          simp only [Int.zero_add]
          refine .inr (.inl ⟨_, _, _, _, rfl, rfl, SqT.of (hE.get ha (npl rfl)), atI_nat (j := i) (List.getElem?_eq_getElem hia), ?_⟩)
          walk_at "go"
          refine .inr (.inl ⟨_, _, _, _, rfl, rfl, SqT.of (hE.get hb (npl rfl)), atI_nat (j := i) (List.getElem?_eq_getElem hib), ?_⟩)
          walk_at "go"
          refine hsp n _ _ _ _ rfl (call_alike (q1.ext hE) (q2.ext hE) (hs d (List.mem_of_getElem? hd)) fun H' hE' => ?_)
          walk_at "go"
          exact LcP.skip hacc npl_nil hE hE' rfl
        · rintro D' acc H1 hD hacc hE rfl
          walk_at "go"
          exact q _ hE
theorem ok_alike (D : Df K mg "_law_alike" s__law_alike P__law_alike) (b_isinstance : mg "isinstance" = none) (b_int : mg "int" = none) (b_bool : mg "bool" = none) (b_list : mg "list" = none) (b_tuple : mg "tuple" = none) (b_str : mg "str" = none) (b_len : mg "len" = none) (b_range : mg "range" = none)
    (p__law_whole : Pr P w K mg base "_law_whole" 1 P__law_whole (spWhole K)) : ∀ n : Nat, Pr P w K mg base "_law_alike" (n + 2) P__law_alike (spAlike n)
  | 0 => ok_alike_step D b_isinstance b_int b_bool b_list b_tuple b_str b_len b_range p__law_whole (fun _ _ _ _ => False) (D.never _ fun _ _ _ _ h => h) (by omega) (fun k vs H Q E e _ => by omega)
  | n + 1 => ok_alike_step D b_isinstance b_int b_bool b_list b_tuple b_str b_len b_range p__law_whole _ (ok_alike D b_isinstance b_int b_bool b_list b_tuple b_str b_len b_range p__law_whole n) (by omega) (fun k vs H Q E e h => by
    have e' : n = k := by omega
    subst e'
    exact h)
end
end Kf

end
section
set_option linter.all false
namespace Kf.R6
/-! Plain Lean: clauses over few nodes, resolution, its soundness and completeness. -/
/-- the canonical clause of some literals over the nodes, or none -/
def cl : List Int → List Int → Option (List Int)
  | [], _ => some []
  | n :: r, ls => if n ∈ ls ∧ -n ∈ ls then none else (cl r ls).map fun c => if n ∈ ls then n :: c else if -n ∈ ls then -n :: c else c
def st (ns c : List Int) (l : Int) (o : List Int) : Option (List Int) :=
  if l ∈ c ∧ -l ∈ o then cl ns (c.filter (fun x => decide (x ≠ l)) ++ o.filter (fun x => decide (x ≠ -l))) else none
/-- all literals are over the nodes -/
def Over (ns ls : List Int) : Prop := ∀ l ∈ ls, l ∈ ns ∨ -l ∈ ns
structure Nodes (ns : List Int) : Prop where
  pos : ∀ n ∈ ns, 0 < n
  up : ns.Pairwise (· < ·)
theorem Nodes.tail {n : Int} {r : List Int} (h : Nodes (n :: r)) : Nodes r := ⟨fun m hm => h.pos m (List.mem_cons_of_mem _ hm), (List.pairwise_cons.mp h.up).2⟩
theorem cl_none {ls : List Int} : ∀ {ns : List Int}, cl ns ls = none ↔ ∃ n ∈ ns, n ∈ ls ∧ -n ∈ ls
  | [] => by simp [cl]
  | n :: r => by
    unfold cl
    by_cases h : n ∈ ls ∧ -n ∈ ls
    · rw [if_pos h]
      exact ⟨fun _ => ⟨n, List.mem_cons_self, h⟩, fun _ => rfl⟩
    · rw [if_neg h, Option.map_eq_none_iff, cl_none (ns := r)]
      constructor
      · rintro ⟨m, hm, h2⟩
        exact ⟨m, List.mem_cons_of_mem _ hm, h2⟩
      · rintro ⟨m, hm, h2⟩
        rcases List.mem_cons.mp hm with e | hm
        · subst e; exact absurd h2 h
        · exact ⟨m, hm, h2⟩
theorem cl_mem {ls : List Int} : ∀ {ns c : List Int}, cl ns ls = some c → ∀ l, l ∈ c ↔ l ∈ ls ∧ (l ∈ ns ∨ -l ∈ ns)
  | [], c, h, l => by
    simp only [cl, Option.some.injEq] at h
    subst h
    simp
  | n :: r, c, h, l => by
    unfold cl at h
    by_cases hb : n ∈ ls ∧ -n ∈ ls
    · rw [if_pos hb] at h; cases h
    · rw [if_neg hb, Option.map_eq_some_iff] at h
      obtain ⟨c', hc, e⟩ := h
      have ih := cl_mem hc
      subst e
      have key : ∀ (z : Int) (cc : List Int), l ∈ z :: cc ↔ l = z ∨ l ∈ cc := fun z cc => List.mem_cons
      have hl : (l ∈ n :: r ∨ -l ∈ n :: r) ↔ (l = n ∨ l = -n) ∨ (l ∈ r ∨ -l ∈ r) := by
        rw [List.mem_cons, List.mem_cons]
        constructor
        · rintro ((h | h) | (h | h))
          · exact .inl (.inl h)
          · exact .inr (.inl h)
          · exact .inl (.inr (by omega))
          · exact .inr (.inr h)
        · rintro ((h | h) | (h | h))
          · exact .inl (.inl h)
          · exact .inr (.inl (by omega))
          · exact .inl (.inr h)
          · exact .inr (.inr h)
      rw [hl]
      by_cases h1 : n ∈ ls
      · have h2 : -n ∉ ls := fun z => hb ⟨h1, z⟩
        rw [if_pos h1, key, ih]
        constructor
        · rintro (e | ⟨a, b⟩)
          · subst e; exact ⟨h1, .inl (.inl rfl)⟩
          · exact ⟨a, .inr b⟩
        · rintro ⟨a, (e | e) | b⟩
          · exact .inl e
          · subst e; exact absurd a h2
          · exact .inr ⟨a, b⟩
      · rw [if_neg h1]
        by_cases h2 : -n ∈ ls
        · rw [if_pos h2, key, ih]
          constructor
          · rintro (e | ⟨a, b⟩)
            · subst e; exact ⟨h2, .inl (.inr rfl)⟩
            · exact ⟨a, .inr b⟩
          · rintro ⟨a, (e | e) | b⟩
            · subst e; exact absurd a h1
            · exact .inl e
            · exact .inr ⟨a, b⟩
        · rw [if_neg h2, ih]
          constructor
          · rintro ⟨a, b⟩
            exact ⟨a, .inr b⟩
          · rintro ⟨a, (e | e) | b⟩
            · subst e; exact absurd a h1
            · subst e; exact absurd a h2
            · exact ⟨a, b⟩
theorem cl_over {ns ls c : List Int} (h : cl ns ls = some c) : Over ns c := fun l hl => ((cl_mem h l).mp hl).2
/-- all clauses over the nodes -/
def allC : List Int → List (List Int)
  | [] => [[]]
  | n :: r => (allC r).map (n :: ·) ++ ((allC r).map (-n :: ·) ++ allC r)
theorem allC_len : ∀ ns : List Int, (allC ns).length = 3 ^ ns.length
  | [] => rfl
  | n :: r => by
    simp only [allC, List.length_append, List.length_map, List.length_cons, allC_len r, Nat.pow_succ]
    omega
theorem cl_all {ls : List Int} : ∀ {ns c : List Int}, cl ns ls = some c → c ∈ allC ns
  | [], c, h => by
    simp only [cl, Option.some.injEq] at h
    subst h
    simp [allC]
  | n :: r, c, h => by
    unfold cl at h
    by_cases hb : n ∈ ls ∧ -n ∈ ls
    · rw [if_pos hb] at h; cases h
    · rw [if_neg hb, Option.map_eq_some_iff] at h
      obtain ⟨c', hc, e⟩ := h
      have ih := cl_all hc
      subst e
      unfold allC
      rw [List.mem_append, List.mem_append, List.mem_map, List.mem_map]
      split
      · exact .inl ⟨c', ih, rfl⟩
      · split
        · exact .inr (.inl ⟨c', ih, rfl⟩)
        · exact .inr (.inr ih)
theorem nodup_le {α : Type} [DecidableEq α] : ∀ {l m : List α}, l.Nodup → (∀ x ∈ l, x ∈ m) → l.length ≤ m.length
  | [], m, _, _ => Nat.zero_le _
  | x :: l, m, hn, hs => by
    have hx : x ∈ m := hs x List.mem_cons_self
    have hn' := List.nodup_cons.mp hn
    have ih := nodup_le (l := l) (m := m.erase x) hn'.2 fun y hy => by
      refine (List.mem_erase_of_ne fun e => ?_).mpr (hs y (List.mem_cons_of_mem _ hy))
      subst e
      exact hn'.1 hy
    rw [List.length_erase_of_mem hx] at ih
    have hp : 0 < m.length := List.length_pos_of_mem hx
    rw [List.length_cons]
    omega
/-- a list of unlike clauses over the nodes -/
structure Cs (ns : List Int) (cs : List (List Int)) : Prop where
  nd : cs.Nodup
  all : ∀ c ∈ cs, c ∈ allC ns
theorem Cs.len {ns : List Int} {cs : List (List Int)} (h : Cs ns cs) (hn : ns.length ≤ 4) : cs.length ≤ 81 := by
  have e := nodup_le h.nd h.all
  rw [allC_len] at e
  have : 3 ^ ns.length ≤ 3 ^ 4 := Nat.pow_le_pow_right (by decide) hn
  omega
def addC (cs : List (List Int)) (d : List Int) : List (List Int) := if d ∈ cs then cs else cs ++ [d]
theorem Cs.add {ns : List Int} {cs : List (List Int)} {d : List Int} (h : Cs ns cs) (hd : d ∈ allC ns) : Cs ns (addC cs d) := by
  unfold addC
  split
  · exact h
  · rename_i hn
    refine ⟨List.nodup_append.mpr ⟨h.nd, by simp, fun a ha b hb e => ?_⟩, fun c hc => ?_⟩
    · rw [List.mem_singleton] at hb
      subst hb e
      exact hn ha
    · rcases List.mem_append.mp hc with z | z
      · exact h.all c z
      · rw [List.mem_singleton] at z
        subst z; exact hd
theorem addC_mem {cs : List (List Int)} {d : List Int} : d ∈ addC cs d := by
  unfold addC
  split
  · assumption
  · simp
theorem addC_pre {cs : List (List Int)} {d : List Int} : cs <+: addC cs d := by
  unfold addC
  split
  · exact List.prefix_refl _
  · exact List.prefix_append _ _
/-- one literal's turn -/
def turn (ns one two : List Int) (cs : List (List Int)) (l : Int) : List (List Int) := match st ns one l two with
  | none => cs
  | some d => addC cs d
def pairGo (ns one two : List Int) (cs : List (List Int)) (ls : List Int) : List (List Int) := ls.foldl (turn ns one two) cs
theorem st_all {ns c o d : List Int} {l : Int} (h : st ns c l o = some d) : d ∈ allC ns := by
  unfold st at h
  split at h
  · exact cl_all h
  · cases h
theorem turn_pre {ns one two : List Int} {cs : List (List Int)} {l : Int} : cs <+: turn ns one two cs l := by
  unfold turn
  split
  · exact List.prefix_refl _
  · exact addC_pre
theorem turn_cs {ns one two : List Int} {cs : List (List Int)} {l : Int} (h : Cs ns cs) : Cs ns (turn ns one two cs l) := by
  unfold turn
  split
  · exact h
  · rename_i d e
    exact h.add (st_all e)
theorem pairGo_pre {ns one two : List Int} : ∀ {ls : List Int} {cs : List (List Int)}, cs <+: pairGo ns one two cs ls
  | [], _ => List.prefix_refl _
  | _ :: _, _ => turn_pre.trans pairGo_pre
theorem pairGo_cs {ns one two : List Int} : ∀ {ls : List Int} {cs : List (List Int)}, Cs ns cs → Cs ns (pairGo ns one two cs ls)
  | [], _, h => h
  | x :: ls, cs, h => pairGo_cs (ls := ls) (cs := turn ns one two cs x) (turn_cs h)
theorem pairGo_in {ns one two d : List Int} : ∀ {ls : List Int} {cs : List (List Int)} {l : Int}, l ∈ ls → st ns one l two = some d → d ∈ pairGo ns one two cs ls
  | x :: ls, cs, l, hl, h => by
    rcases List.mem_cons.mp hl with e | hl
    · subst e
      have : d ∈ turn ns one two cs l := by unfold turn; rw [h]; exact addC_mem
      exact (pairGo_pre (ls := ls)).subset this
    · exact pairGo_in (cs := turn ns one two cs x) hl h
/-- every clause that comes is a resolvent -/
theorem turn_new {ns one two : List Int} {cs : List (List Int)} {l : Int} {d : List Int} (h : d ∈ turn ns one two cs l) : d ∈ cs ∨ st ns one l two = some d := by
  unfold turn at h
  split at h
  · exact .inl h
  · rename_i e he
    unfold addC at h
    split at h
    · exact .inl h
    · rcases List.mem_append.mp h with z | z
      · exact .inl z
      · rw [List.mem_singleton] at z
        subst z; exact .inr he
/-! ### rows -/
def rowsOf : List Int → List (List Int)
  | ns => ns.foldl (fun rows n => rows.map (· ++ [n]) ++ rows.map (· ++ [-n])) [[]]
/-- a row over the nodes: one literal each -/
inductive Row : List Int → List Int → Prop
  | nil : Row [] []
  | pos {n r ρ} : Row r ρ → Row (n :: r) (n :: ρ)
  | neg {n r ρ} : Row r ρ → Row (n :: r) (-n :: ρ)
theorem rows_step : ∀ (ns : List Int) (rows : List (List Int)) (row : List Int),
    row ∈ ns.foldl (fun rows n => rows.map (· ++ [n]) ++ rows.map (· ++ [-n])) rows ↔ ∃ a ∈ rows, ∃ b, Row ns b ∧ row = a ++ b
  | [], rows, row => by
    constructor
    · intro h; exact ⟨row, h, [], .nil, by simp⟩
    · rintro ⟨a, ha, b, hb, e⟩
      cases hb
      rw [List.append_nil] at e
      subst e; exact ha
  | n :: r, rows, row => by
    rw [List.foldl_cons, rows_step r]
    constructor
    · rintro ⟨a, ha, b, hb, e⟩
      rcases List.mem_append.mp ha with h | h
      · obtain ⟨a', ha', e'⟩ := List.mem_map.mp h
        subst e'
        exact ⟨a', ha', n :: b, .pos hb, by rw [e]; simp⟩
      · obtain ⟨a', ha', e'⟩ := List.mem_map.mp h
        subst e'
        exact ⟨a', ha', -n :: b, .neg hb, by rw [e]; simp⟩
    · rintro ⟨a, ha, b, hb, e⟩
      cases hb with
      | pos hb => exact ⟨a ++ [n], List.mem_append_left _ (List.mem_map.mpr ⟨a, ha, rfl⟩), _, hb, by rw [e]; simp⟩
      | neg hb => exact ⟨a ++ [-n], List.mem_append_right _ (List.mem_map.mpr ⟨a, ha, rfl⟩), _, hb, by rw [e]; simp⟩
theorem rowsOf_iff {ns row : List Int} : row ∈ rowsOf ns ↔ Row ns row := by
  unfold rowsOf
  rw [rows_step]
  constructor
  · rintro ⟨a, ha, b, hb, e⟩
    rw [List.mem_singleton] at ha
    subst ha
    rw [e]; exact hb
  · intro h; exact ⟨[], by simp, row, h, by simp⟩
def holds (c row : List Int) : Bool := c.any fun l => decide (l ∈ row)
theorem holds_iff {c row : List Int} : holds c row = true ↔ ∃ l ∈ c, l ∈ row := by simp [holds]
theorem Row.mem {ns row : List Int} (h : Row ns row) : ∀ l ∈ row, l ∈ ns ∨ -l ∈ ns := by
  induction h with
  | nil => simp
  | pos _ ih =>
    intro l hl
    rcases List.mem_cons.mp hl with e | hl
    · subst e; exact .inl List.mem_cons_self
    · rcases ih l hl with z | z
      · exact .inl (List.mem_cons_of_mem _ z)
      · exact .inr (List.mem_cons_of_mem _ z)
  | neg _ ih =>
    intro l hl
    rcases List.mem_cons.mp hl with e | hl
    · subst e; exact .inr (by rw [Int.neg_neg]; exact List.mem_cons_self)
    · rcases ih l hl with z | z
      · exact .inl (List.mem_cons_of_mem _ z)
      · exact .inr (List.mem_cons_of_mem _ z)
theorem Row.one {ns row : List Int} (hn : Nodes ns) (h : Row ns row) : ∀ l, ¬ (l ∈ row ∧ -l ∈ row) := by
  induction h with
  | nil => simp
  | @pos n r ρ hr ih =>
    have hp := hn.pos n List.mem_cons_self
    have hlt : ∀ m ∈ r, n < m := (List.pairwise_cons.mp hn.up).1
    have far : ∀ l ∈ ρ, l ≠ n ∧ l ≠ -n := fun l hl => by
      have hm := hr.mem l hl
      rcases hm with z | z
      · have := hlt _ z; have := hn.tail.pos _ z; omega
      · have := hlt _ z; omega
    rintro l ⟨h1, h2⟩
    rcases List.mem_cons.mp h1 with e | h1
    · rcases List.mem_cons.mp h2 with e2 | h2
      · omega
      · have := far _ h2; omega
    · rcases List.mem_cons.mp h2 with e2 | h2
      · have := far _ h1; omega
      · exact ih hn.tail l ⟨h1, h2⟩
  | @neg n r ρ hr ih =>
    have hp := hn.pos n List.mem_cons_self
    have hlt : ∀ m ∈ r, n < m := (List.pairwise_cons.mp hn.up).1
    have far : ∀ l ∈ ρ, l ≠ n ∧ l ≠ -n := fun l hl => by
      have hm := hr.mem l hl
      rcases hm with z | z
      · have := hlt _ z; have := hn.tail.pos _ z; omega
      · have := hlt _ z; omega
    rintro l ⟨h1, h2⟩
    rcases List.mem_cons.mp h1 with e | h1
    · rcases List.mem_cons.mp h2 with e2 | h2
      · omega
      · have := far _ h2; omega
    · rcases List.mem_cons.mp h2 with e2 | h2
      · have := far _ h1; omega
      · exact ih hn.tail l ⟨h1, h2⟩
theorem Row.total {ns row : List Int} (h : Row ns row) : ∀ l, (l ∈ ns ∨ -l ∈ ns) → l ∈ row ∨ -l ∈ row := by
  induction h with
  | nil => simp
  | @pos n r ρ _ ih =>
    intro l hl
    by_cases e : l = n
    · subst e; exact .inl List.mem_cons_self
    · by_cases e2 : -l = n
      · exact .inr (by rw [e2]; exact List.mem_cons_self)
      · have hl' : l ∈ r ∨ -l ∈ r := by
          rcases hl with z | z
          · rcases List.mem_cons.mp z with q | q
            · exact absurd q e
            · exact .inl q
          · rcases List.mem_cons.mp z with q | q
            · exact absurd q e2
            · exact .inr q
        rcases ih l hl' with z | z
        · exact .inl (List.mem_cons_of_mem _ z)
        · exact .inr (List.mem_cons_of_mem _ z)
  | @neg n r ρ _ ih =>
    intro l hl
    by_cases e : l = n
    · subst e; exact .inr List.mem_cons_self
    · by_cases e2 : -l = n
      · exact .inl (by rw [show l = -n by omega]; exact List.mem_cons_self)
      · have hl' : l ∈ r ∨ -l ∈ r := by
          rcases hl with z | z
          · rcases List.mem_cons.mp z with q | q
            · exact absurd q e
            · exact .inl q
          · rcases List.mem_cons.mp z with q | q
            · exact absurd q e2
            · exact .inr q
        rcases ih l hl' with z | z
        · exact .inl (List.mem_cons_of_mem _ z)
        · exact .inr (List.mem_cons_of_mem _ z)
/-- a resolvent of two true clauses is true -/
theorem st_sound {ns c o d row : List Int} {l : Int} (hn : Nodes ns) (hr : Row ns row) (hc : Over ns c) (ho : Over ns o) (h : st ns c l o = some d) (h1 : holds c row = true) (h2 : holds o row = true) : holds d row = true := by
  unfold st at h
  split at h
  · have hm := cl_mem h
    obtain ⟨a, ha, ra⟩ := holds_iff.mp h1
    obtain ⟨b, hb, rb⟩ := holds_iff.mp h2
    rw [holds_iff]
    by_cases e : a = l
    · have e2 : b ≠ -l := fun e2 => hr.one hn l ⟨by rw [← e]; exact ra, by rw [← e2]; exact rb⟩
      exact ⟨b, (hm b).mpr ⟨List.mem_append_right _ (List.mem_filter.mpr ⟨hb, decide_eq_true e2⟩), ho b hb⟩, rb⟩
    · exact ⟨a, (hm a).mpr ⟨List.mem_append_left _ (List.mem_filter.mpr ⟨ha, decide_eq_true e⟩), hc a ha⟩, ra⟩
  · cases h
/-- closed under resolution -/
def Closed (ns : List Int) (cs : List (List Int)) : Prop := ∀ c ∈ cs, ∀ o ∈ cs, ∀ l ∈ c, ∀ d, st ns c l o = some d → d ∈ cs
theorem complete {ns : List Int} (hn : Nodes ns) {cs : List (List Int)} (hc : Closed ns cs) (ho : ∀ c ∈ cs, Over ns c) : ∀ (rest ρ : List Int), (∀ n ∈ rest, n ∈ ns ∧ n ∉ ρ ∧ -n ∉ ρ) → rest.Pairwise (· < ·) → (∀ l, ¬ (l ∈ ρ ∧ -l ∈ ρ)) →
    (∀ b, Row rest b → ∃ c ∈ cs, ∀ l ∈ c, -l ∈ ρ ++ b) → ∃ c ∈ cs, ∀ l ∈ c, -l ∈ ρ
  | [], ρ, _, _, _, h => by
    obtain ⟨c, hc, q⟩ := h [] .nil
    exact ⟨c, hc, by simpa using q⟩
  | n :: r, ρ, hr, hu, h1, h => by
    have hp := hn.pos n (hr n List.mem_cons_self).1
    obtain ⟨hns, n1, n2⟩ := hr n List.mem_cons_self
    have hlt : ∀ m ∈ r, n < m := (List.pairwise_cons.mp hu).1
    have hr' : ∀ (s : Int), s = n ∨ s = -n → ∀ m ∈ r, m ∈ ns ∧ m ∉ ρ ++ [s] ∧ -m ∉ ρ ++ [s] := fun s hs m hm => by
      obtain ⟨a1, a2, a3⟩ := hr m (List.mem_cons_of_mem _ hm)
      have := hlt m hm
      refine ⟨a1, ?_, ?_⟩
      · simp only [List.mem_append, List.mem_singleton, not_or]
        exact ⟨a2, by omega⟩
      · simp only [List.mem_append, List.mem_singleton, not_or]
        exact ⟨a3, by omega⟩
    have h1' : ∀ (s : Int), s = n ∨ s = -n → ∀ l, ¬ (l ∈ ρ ++ [s] ∧ -l ∈ ρ ++ [s]) := fun s hs l => by
      simp only [List.mem_append, List.mem_singleton]
      rintro ⟨a | a, b | b⟩
      · exact h1 l ⟨a, b⟩
      · rcases hs with e | e
        · exact n2 (by rw [show -n = l by omega]; exact a)
        · exact n1 (by rw [show n = l by omega]; exact a)
      · rcases hs with e | e
        · exact n2 (by rw [show -n = -l by omega]; exact b)
        · exact n1 (by rw [show n = -l by omega]; exact b)
      · omega
    obtain ⟨c1, hc1, q1⟩ := complete hn hc ho r (ρ ++ [n]) (hr' n (.inl rfl)) (List.pairwise_cons.mp hu).2 (h1' n (.inl rfl)) fun b hb => by
      obtain ⟨c, hc, q⟩ := h (n :: b) (.pos hb)
      exact ⟨c, hc, by simpa using q⟩
    obtain ⟨c2, hc2, q2⟩ := complete hn hc ho r (ρ ++ [-n]) (hr' (-n) (.inr rfl)) (List.pairwise_cons.mp hu).2 (h1' (-n) (.inr rfl)) fun b hb => by
      obtain ⟨c, hc, q⟩ := h (-n :: b) (.neg hb)
      exact ⟨c, hc, by simpa using q⟩
    by_cases e1 : -n ∈ c1
    · by_cases e2 : n ∈ c2
      · have hst : ∃ d, st ns c2 n c1 = some d := by
          cases q : st ns c2 n c1 with
          | some d => exact ⟨d, rfl⟩
          | none =>
            exfalso
            unfold st at q
            rw [if_pos ⟨e2, e1⟩] at q
            obtain ⟨m, _, ma, mb⟩ := cl_none.mp q
            have inρ : ∀ x, x ∈ c2.filter (fun x => decide (x ≠ n)) ++ c1.filter (fun x => decide (x ≠ -n)) → -x ∈ ρ := fun x hx => by
              rcases List.mem_append.mp hx with z | z
              · obtain ⟨z1, z2⟩ := List.mem_filter.mp z
                have := q2 x z1
                simp only [List.mem_append, List.mem_singleton] at this
                have z2 := of_decide_eq_true z2
                rcases this with y | y
                · exact y
                · omega
              · obtain ⟨z1, z2⟩ := List.mem_filter.mp z
                have := q1 x z1
                simp only [List.mem_append, List.mem_singleton] at this
                have z2 := of_decide_eq_true z2
                rcases this with y | y
                · exact y
                · omega
            have i1 := inρ m ma
            have i2 := inρ (-m) mb
            exact h1 (-m) ⟨i1, i2⟩
        obtain ⟨d, hd⟩ := hst
        refine ⟨d, hc c2 hc2 c1 hc1 n e2 d hd, fun l hl => ?_⟩
        unfold st at hd
        rw [if_pos ⟨e2, e1⟩] at hd
        have hx := ((cl_mem hd l).mp hl).1
        rcases List.mem_append.mp hx with z | z
        · obtain ⟨z1, z2⟩ := List.mem_filter.mp z
          have := q2 l z1
          simp only [List.mem_append, List.mem_singleton] at this
          have z2 := of_decide_eq_true z2
          rcases this with y | y
          · exact y
          · omega
        · obtain ⟨z1, z2⟩ := List.mem_filter.mp z
          have := q1 l z1
          simp only [List.mem_append, List.mem_singleton] at this
          have z2 := of_decide_eq_true z2
          rcases this with y | y
          · exact y
          · omega
      · refine ⟨c2, hc2, fun l hl => ?_⟩
        have := q2 l hl
        simp only [List.mem_append, List.mem_singleton] at this
        rcases this with y | y
        · exact y
        · exact absurd (show n ∈ c2 by rw [show n = l by omega]; exact hl) e2
    · refine ⟨c1, hc1, fun l hl => ?_⟩
      have := q1 l hl
      simp only [List.mem_append, List.mem_singleton] at this
      rcases this with y | y
      · exact y
      · exact absurd (show -n ∈ c1 by rw [show -n = l by omega]; exact hl) e1
/-- the empty clause stands exactly if no row satisfies all -/
theorem decides {ns : List Int} (hn : Nodes ns) {cs org : List (List Int)} (hc : Closed ns cs) (ho : ∀ c ∈ cs, Over ns c) (hs : ∀ c ∈ org, c ∈ cs) (hsound : ∀ row, Row ns row → (∀ c ∈ org, holds c row = true) → ∀ c ∈ cs, holds c row = true) :
    ([] ∈ cs) ↔ ∀ row, Row ns row → ¬ ∀ c ∈ org, holds c row = true := by
  constructor
  · intro h row hr hall
    have := hsound row hr hall [] h
    simp [holds] at this
  · intro h
    obtain ⟨c, hcc, q⟩ := complete hn hc ho ns [] (fun n hn => ⟨hn, by simp, by simp⟩) hn.up (by simp) fun b hb => by
      have := h b hb
      have ⟨c, hc⟩ := Classical.not_forall.mp this
      have ⟨hc1, hc2⟩ := Classical.not_imp.mp hc
      refine ⟨c, hs c hc1, fun l hl => ?_⟩
      have hover := ho c (hs c hc1) l hl
      rcases hb.total l hover with z | z
      · exact absurd (holds_iff.mpr ⟨l, hl, z⟩) hc2
      · simpa using z
    have e : c = [] := by
      cases c with
      | nil => rfl
      | cons x r => simpa using q x List.mem_cons_self
    rw [← e]; exact hcc
end Kf.R6

end
section
set_option Elab.async false
set_option linter.all false
set_option maxRecDepth 100000
set_option maxHeartbeats 4000000
local macro_rules | `(tactic| walk_at "npl") => `(tactic| first | exact Kf.npl rfl | exact Kf.npl_ints _ | exact Kf.npl_one _ _ | exact Kf.npl_refs _ | assumption)
local macro_rules | `(tactic| walk_at "nn") => `(tactic| first
  | assumption
  | (refine' Kf.Ext.non ?nne ?nnh; (case nne => assumption); (case nnh => walk_at "nn")))
local macro_rules | `(tactic| walk_at "ext") => `(tactic| first
  | assumption
  | exact Kf.Ext.refl
  | (refine' Kf.Ext.newer ?exa ?exn; (case exn => assumption); (case exa => walk_at "ext"))
  | (refine' Kf.Ext.own ?exa ?exn; (case exn => walk_at "nn"); (case exa => walk_at "ext"))
  | (refine' Kf.Ext.trans ?exa ?exb; (case exb => assumption); (case exa => walk_at "ext")))
local macro_rules | `(tactic| walk_at "pool") => `(tactic| first
  | assumption
  | (refine' Kf.PoolAt.ext ?plh ?ple; (case plh => assumption); (case ple => walk_at "ext"))
  | (refine' Kf.PoolAt.upd ?plh ?plo ?pln; (case plo => assumption); (case pln => walk_at "npl"); (case plh => walk_at "pool")))
local macro_rules | `(tactic| walk_at "lk") => `(tactic| first
  | assumption
  | exact L2.upd_same
  | (refine' Kf.upd_old ?lkn ?lkh; (case lkn => assumption); (case lkh => walk_at "lk"))
  | (refine' Kf.upd_oth ?lkn ?lkh; (case lkn => (first | assumption | (apply Ne.symm; assumption))); (case lkh => walk_at "lk"))
  | (refine' Kf.Ext.get ?lke ?lkh ?lkn; (case lke => assumption); (case lkh => walk_at "lk"); (case lkn => walk_at "npl"))
  | (refine' L2.Same.at ?lke ?lkh; (case lke => assumption); (case lkh => walk_at "lk")))
local macro_rules | `(tactic| walk_at "sq") => `(tactic| first
  | assumption
  | (refine' L2.SqL.of ?sqh; (case sqh => walk_at "lk"))
  | (refine' L2.SqT.of ?sqh; (case sqh => walk_at "lk"))
  | (refine' Kf.Ext.seqL ?sqe ?sqh ?sqn; (case sqh => assumption); (case sqe => walk_at "ext"); (case sqn => walk_at "npl"))
  | (refine' Kf.Ext.seqT ?sqe ?sqh; (case sqh => assumption); (case sqe => walk_at "ext")))
local macro_rules | `(tactic| walk_at "at") => `(tactic| first | exact L2.atI_nat (j := 0) rfl | exact L2.atI_nat (j := 1) rfl | exact L2.atI_nat (j := 2) rfl | exact L2.atI_nat (j := 3) rfl | exact L2.atI_nat (j := 4) rfl | assumption)
local macro_rules | `(tactic| walk_at "ixn") => `(tactic| first | exact Kf.ixN_nat (j := 0) rfl | exact Kf.ixN_nat (j := 1) rfl | exact Kf.ixN_nat (j := 2) rfl | exact Kf.ixN_nat (j := 3) rfl | assumption)
local macro_rules | `(tactic| walk_at "set") => `(tactic| (first | (simp only [List.set_cons_succ, List.set_cons_zero]; rfl) | rfl))
local macro_rules | `(tactic| walk_at "om") => `(tactic| first | decide | omega | (simp only [List.length_map, List.length_cons, List.length_nil] at *; omega))
local macro_rules | `(tactic| walk_at "calls") => `(tactic| first
  | (with_reducible refine' Kf.call_take ?clp ?cla ?clb ?clq; (case clp => walk_at "pool"); (case cla => walk_at "om"); (case clb => walk_at "om"); intro r H' hE h0 h1)
  | (with_reducible refine' Kf.call_pool ?cls ?cla ?clq; (case cls => walk_at "sq"); (case cla => walk_at "om"); intro p H' hE hN hP)
  | (with_reducible refine' Kf.call_turn ?cls ?clp ?cla ?clq; (case cls => walk_at "sq"); (case clp => walk_at "pool"); (case cla => walk_at "om"); intro u H' hE hP))
local macro_rules | `(tactic| walk_at "side") => `(tactic| first
  | exact Kf.cmul_fmod (by decide) (by decide)
  | exact rfl
  | decide
  | omega
  | assumption
  | (refine ⟨?_, ?_⟩ <;> decide)
  | (refine ⟨?_, ?_, ?_⟩ <;> decide)
  | (refine ⟨?_, ?_⟩ <;> omega)
  | (refine Or.inl ⟨?_, ?_⟩ <;> decide)
  | (refine Or.inr ⟨?_, ?_⟩ <;> decide)
  | (refine Or.inl ⟨?_, ?_⟩ <;> omega)
  | (refine Or.inr ⟨?_, ?_⟩ <;> omega))
local macro_rules | `(tactic| walk_at "kit") => `(tactic| first | exact Kf.isi_int_int | exact Kf.isi_int_bool | exact Kf.isi_int_str | exact Kf.isi_int_list | exact Kf.isi_int_tuple | exact Kf.isi_bool_int | exact Kf.isi_bool_bool | exact Kf.isi_bool_str | exact Kf.isi_bool_list | exact Kf.isi_bool_tuple | exact Kf.isi_str_int | exact Kf.isi_str_bool | exact Kf.isi_str_str | exact Kf.isi_str_list | exact Kf.isi_str_tuple | exact Kf.isi_non_list | exact Kf.isi_non_tuple | exact Kf.isi_list_list | exact Kf.isi_list_tuple | exact Kf.isi_tuple_list | exact Kf.isi_tuple_tuple | exact Kf.isi_dict_dict)
local macro_rules | `(tactic| walk_at "ty") => `(tactic| first
  | exact L2.TyX.base (L2.TyOf.int _)
  | exact L2.TyX.base (L2.TyOf.bl _)
  | exact L2.TyX.base (L2.TyOf.str _)
  | exact L2.TyX.base L2.TyOf.non
  | (refine' L2.TyX.base (L2.TyOf.lst ?tyh); (case tyh => walk_at "lk"))
  | (refine' L2.TyX.base (L2.TyOf.tup ?tyh); (case tyh => walk_at "lk"))
  | (refine' L2.TyX.base (L2.TyOf.dK ?tyh); (case tyh => walk_at "lk")))
local macro_rules | `(tactic| walk_at "om2") => `(tactic| first | assumption | decide | omega)
local macro_rules | `(tactic| walk_at "st") => `(tactic| with_reducible first
  | (refine Kf.w_var rfl ?_)
  | (refine Kf.w_c ?_)
  | (refine Kf.w_seq ?_)
  | (refine Kf.w_asg ?_)
  | (refine' Kf.w_gname ?sth ?_; (case sth => with_unfolding_all walk_at "set"))
  | (refine Kf.w_op ?_)
  | (refine Kf.w_un ?_)
  | (refine Kf.w_rU ?_)
  | (refine Kf.w_rI0 ?_)
  | (refine' Kf.w_rI ?sth ?_; (case sth => with_unfolding_all walk_at "side"))
  | (refine' Kf.w_rEq ?sth ?_; (case sth => with_unfolding_all rfl))
  | (refine' Kf.w_rNe ?sth ?_; (case sth => with_unfolding_all rfl))
  | (refine Kf.w_tTest ?_)
  | (refine Kf.w_tB ?_)
  | (refine Kf.w_exbl ?_)
  | (refine Kf.w_exint ?_)
  | (refine Kf.w_ifS ?_)
  | (refine Kf.w_ret ?_)
  | (refine Kf.w_retN ?_)
  | (refine Kf.w_drop ?_)
  | (refine Kf.w_and ?_)
  | (refine Kf.w_or ?_)
  | (refine Kf.w_not ?_)
  | (refine Kf.w_andV ?_)
  | (refine Kf.w_orV ?_)
  | (refine Kf.w_notV ?_)
  | (refine Kf.w_if ?_)
  | (refine Kf.w_lc ?_)
  | (refine Kf.w_for ?_)
  | (refine Kf.w_rng1 ?_)
  | (refine' Kf.w_rng1x ?sth ?stg ?_; (case sth => with_unfolding_all walk_at "om"); (case stg => with_unfolding_all walk_at "om"))
  | (refine Kf.w_ilist ?_)
  | (refine Kf.w_iseq ?_)
  | (refine Kf.w_itup ?_)
  | (refine' Kf.w_ilistx ?sth ?_; (case sth => with_unfolding_all walk_at "sq"))
  | (refine' Kf.w_itupx ?sth ?_; (case sth => with_unfolding_all walk_at "sq"))
  | (refine' Kf.w_wipe ?sth ?_; (case sth => with_unfolding_all rfl))
  | (refine Kf.w_yes ?_)
  | (refine' Kf.w_isi ?sth ?stg ?_; (case sth => with_unfolding_all walk_at "ty"); (case stg => walk_at "kit"))
  | (refine Kf.w_isN ?_)
  | (refine Kf.w_notN ?_)
  | (refine Kf.w_cb ?_)
  | (refine Kf.w_nil ?_)
  | (refine Kf.w_cons ?_)
  | (refine Kf.w_tup ?_)
  | (refine Kf.w_lst ?_)
  | (refine' Kf.w_lines ?sth ?_; (case sth => with_unfolding_all rfl))
  | (refine Kf.w_call ?_)
  | (refine Kf.w_next ?_)
  | (refine Kf.w_break ?_)
  | (refine Kf.w_cont ?_)
  | (refine Kf.w_dnewK ?_)
  | (refine Kf.w_dget ?_)
  | (refine Kf.w_sl ?_)
  | (refine Kf.w_nopart ?_)
  | (refine Kf.w_part ?_)
  | (refine Kf.w_bm ?_)
  | (refine Kf.w_bm0 ?_)
  | (refine' Kf.w_bmL ?sth ?_; (case sth => with_unfolding_all walk_at "lk"))
  | (refine' Kf.w_cat ?sth ?stg ?stf ?_; (case sth => with_unfolding_all walk_at "lk"); (case stg => with_unfolding_all walk_at "lk"); (case stf => with_unfolding_all walk_at "om"))
  | (refine' Kf.w_slL ?sth ?_; (case sth => with_unfolding_all walk_at "sq"))
  | (refine' Kf.w_inL ?sth ?_; (case sth => with_unfolding_all walk_at "sq"))
  | (refine' Kf.w_inT ?sth ?_; (case sth => with_unfolding_all walk_at "sq"))
  | (refine' Kf.w_ninL ?sth ?_; (case sth => with_unfolding_all walk_at "sq"))
  | (refine' Kf.w_ninT ?sth ?_; (case sth => with_unfolding_all walk_at "sq"))
  | (refine' Kf.w_listof ?sth ?_; (case sth => with_unfolding_all walk_at "sq"))
  | (refine' Kf.w_tupof ?sth ?_; (case sth => with_unfolding_all walk_at "sq"))
  | (refine Kf.w_listRev ?_)
  | (refine Kf.w_gsub ?_)
  | (refine' Kf.w_ixL ?sth ?stg ?_; (case sth => with_unfolding_all walk_at "sq"); (case stg => with_unfolding_all walk_at "at"))
  | (refine' Kf.w_ixT ?sth ?stg ?_; (case sth => with_unfolding_all walk_at "sq"); (case stg => with_unfolding_all walk_at "at"))
  | (refine' Kf.w_setL ?sth ?stg ?_; (case sth => with_unfolding_all walk_at "lk"); (case stg => with_unfolding_all walk_at "ixn"))
  | (refine' Kf.w_len ?sth ?_; (case sth => with_unfolding_all walk_at "sq"))
  | (refine' Kf.w_lenT ?sth ?_; (case sth => with_unfolding_all walk_at "sq"))
  | (refine Kf.w_int1 ?_)
  | (refine Kf.w_intb ?_)
  | (refine Kf.w_abs ?_)
  | (refine Kf.w_aug rfl ?_)
  | (refine Kf.w_ipI ?_)
  | (refine L2.iteT ?_)
  | (refine L2.iteF ?_)
  | (refine Kf.iteNT ?_)
  | (refine Kf.iteNF ?_)
  | (refine' Kf.ite_decT ?sth ?_; (case sth => exact rfl))
  | (refine' Kf.ite_decF ?sth ?_; (case sth => with_unfolding_all (intro e; cases e; done)))
  | (refine' Kf.ite_ndecF ?sth ?_; (case sth => exact rfl))
  | (refine' Kf.ite_ndecT ?sth ?_; (case sth => with_unfolding_all (intro e; cases e; done)))
  | (refine' Kf.ite_viT ?sth ?_; (case sth => (with_unfolding_all walk_at "om2")))
  | (refine' Kf.ite_viF ?sth ?_; (case sth => (with_unfolding_all walk_at "om2")))
  | (refine' Kf.ite_nviT ?sth ?_; (case sth => (with_unfolding_all walk_at "om2")))
  | (refine' Kf.ite_nviF ?sth ?_; (case sth => (with_unfolding_all walk_at "om2")))
  | (refine' Kf.ite_decT ?sth ?_; (case sth => (with_unfolding_all walk_at "om2")))
  | (refine' Kf.ite_decF ?sth ?_; (case sth => (with_unfolding_all walk_at "om2")))
  | with_unfolding_all walk_at "calls")
local macro_rules | `(tactic| walk_at "go") => `(tactic| repeat walk_at "st")

namespace Kf
open PySem PySem.Spec PyProof.Rows L2
open R6 (cl Over Nodes)
/-! ### data read -/
theorem DqAll.ints_eq {H : Hp} : ∀ {vs : List V} {ns : List Int}, DqAll H vs (ns.map PyData.int) → vs = ns.map V.int
  | _, [], .nil => rfl
  | _, n :: r, .cons h t => by
    cases h
    rw [List.map_cons, DqAll.ints_eq t]
theorem Dq.li {H : Hp} {v : V} {ns : List Int} (h : Dq H v (.list (ns.map .int))) : ∃ a, v = .ref a ∧ H a = some (.lst (ns.map V.int)) := by
  cases h with
  | lst h n r => exact ⟨_, rfl, by rw [← r.ints_eq]; exact h⟩
theorem Dq.ti {H : Hp} {v : V} {ns : List Int} (h : Dq H v (.tuple (ns.map .int))) : ∃ a, v = .ref a ∧ H a = some (.tup (ns.map V.int)) := by
  cases h with
  | tup h r => exact ⟨_, rfl, by rw [← r.ints_eq]; exact h⟩
theorem Dq.of_li {H : Hp} {a : Addr} {ns : List Int} (h : H a = some (.lst (ns.map V.int))) : Dq H (.ref a) (.list (ns.map .int)) := .lst h (npl_ints ns) (DqAll.ints ns)
theorem Dq.of_ti {H : Hp} {a : Addr} {ns : List Int} (h : H a = some (.tup (ns.map V.int))) : Dq H (.ref a) (.tuple (ns.map .int)) := .tup h (DqAll.ints ns)
def optD : Option (List Int) → PyData
  | none => .none
  | some c => .tuple (c.map .int)
/-- a list's part behind i items -/
theorem cl_drop {ns ls : List Int} {i : Nat} {n : Int} (h : ns[i]? = some n) : cl (ns.drop i) ls = if n ∈ ls ∧ -n ∈ ls then none else (cl (ns.drop (i + 1)) ls).map fun c => if n ∈ ls then n :: c else if -n ∈ ls then -n :: c else c := by
  obtain ⟨hl, e⟩ := List.getElem?_eq_some_iff.mp h
  rw [List.drop_eq_getElem_cons hl, e]
  rfl
section
variable {P : Program} {w : World} {K : PySem.W.Frag} {mg : Str → Option Value} {base : Heap} {H : Hp} {Q : VK} {E : XK}
def spClause (K : PySem.W.Frag) : Sp := fun vs H Q _ => ∃ (a b : Addr) (ns ls : List Int), vs = [.ref a, .ref b] ∧ SqL K H a (ns.map V.int) ∧ SqL K H b (ls.map V.int) ∧ ns.length ≤ 100 ∧ ∀ r H', Ext H H' → Dq H' r (optD (cl ns ls)) → Q r H'
theorem call_clause {a b : Addr} {ns ls : List Int} (h1 : SqL K H a (ns.map V.int)) (h2 : SqL K H b (ls.map V.int)) (hn : ns.length ≤ 100) (q : ∀ r H', Ext H H' → Dq H' r (optD (cl ns ls)) → Q r H') : spClause K ([.ref a, .ref b] ++ []) H Q E := ⟨a, b, ns, ls, rfl, h1, h2, hn, q⟩
end
theorem int_at {ns : List Int} {i : Nat} {x : V} (h : (ns.map V.int)[i]? = some x) : ∃ n, x = .int n ∧ ns[i]? = some n := by
  rw [List.getElem?_map] at h
  cases e : ns[i]? with
  | none => rw [e] at h; cases h
  | some n => rw [e] at h; exact ⟨n, (Option.some.inj h).symm, rfl⟩
abbrev s__law_clause : Stmt := topS 16
abbrev N__law_clause : List Str := ["nodes", "literals", "clause", "node"]
abbrev P__law_clause : List Str := ["nodes", "literals"]
theorem sc__law_clause : FnScope N__law_clause P__law_clause (defScope s__law_clause) := ⟨rfl, rfl, rfl, by decide +kernel, rfl, by decide +kernel, by decide +kernel⟩
section
variable {P : Program} {w : World} {K : PySem.W.Frag} {mg : Str → Option Value} {base : Heap} {H : Hp} {Q : VK} {E : XK}
theorem ok_clause (D : Df K mg "_law_clause" s__law_clause P__law_clause) (b_tuple : mg "tuple" = none) : Pr P w K mg base "_law_clause" 1 P__law_clause (spClause K) := by
  refine D.ok sc__law_clause (fun vs H Q E h => ?_) (fun f cdv A outer s H vs Q E hr h => ?_)
  · obtain ⟨a, b, ns, ls, rfl, _⟩ := h; rfl
  obtain ⟨a, b, ns, ls, rfl, hN, hL, hl, q⟩ := h
  have nd := sc__law_clause.nd
  refine ⟨_, (pss_cons (ps_set (i := 2) nd rfl (Or.inl rfl) (pe_lst pa_nil))
      (pss_cons (ps_for PassesOwn.never rfl (pi_listK (K := K) rfl (pv 0)) (pg_name (i := 3) nd rfl (Or.inl rfl)) (pss_cons (ps_if (PW.pt (pw_and (pt_cmpR (op_in_seqK (K := K) rfl) (pv 3) (pv 1) (by rfl)) (pw_and1 (pt_cmpR (op_in_seqK (K := K) rfl) (pe_un un_neg (pv 3)) (pv 1) (by rfl))))) (pss_one (ps_ret pe_non)) pss_nil)
      (C8.pss_cut (ps_if (pt_cmpR (op_in_seqK (K := K) rfl) (pv 3) (pv 1) (by rfl)) (pss_one (ps_expr (pe_bmK (K := K) rfl PySem.F.plainAttrs_list PySem.F.slot_list_append PySem.F.type_list_append mt_append (pv 2) (pa_cons (pv 3) pa_nil)))) pss_nil)
      (pss_one (ps_if (pt_cmpR (op_in_seqK (K := K) rfl) (pe_un un_neg (pv 3)) (pv 1) (by rfl)) (pss_one (ps_expr (pe_bmK (K := K) rfl PySem.F.plainAttrs_list PySem.F.slot_list_append PySem.F.type_list_append mt_append (pv 2) (pa_cons (pe_un un_neg (pv 3)) pa_nil)))) pss_nil)))))
      (pss_one (ps_ret (pe_callTy (call_tuple_ofK (K := K) rfl) (by rfl) b_tuple (by decide +kernel) (pa_cons (pv 2) pa_nil)))))), ?_⟩
  refine w_start (σ := [some _, some _, none, none]) rfl ?_
  walk_at "go"
  intro o ho
  walk_at "go"
  refine for_list (K := K) (a := a) (xs := ns.map V.int) (fun i σ H' => ∃ (acc : List Int) (y : Option V), σ = [some (.ref a), some (.ref b), some (.ref o), y] ∧ Ext H H' ∧ H' o = some (.lst (acc.map V.int)) ∧ acc.length ≤ i ∧ cl ns ls = (cl (ns.drop i) ls).map (acc ++ ·))
    ⟨[], none, rfl, Ext.new ho, L2.upd_same, Nat.le_refl _, by simp⟩ (fun i σ H' _ ⟨_, _, _, e, _⟩ => e.seqL hN (npl_ints ns)) ?_ ?_
  · rintro i x σ H1 hx ⟨acc, y, rfl, hE, hacc, hal, hcl⟩
    obtain ⟨n, rfl, hn⟩ := int_at hx
    have hil : i < ns.length := (List.getElem?_eq_some_iff.mp hn).1
    rw [cl_drop hn] at hcl
    have hL1 := hE.seqL hL (npl_ints ls)
    have hs : (acc.map V.int).length < sizeLine := small1000 (by rw [List.length_map]; omega)
    walk_at "go"
    refine ite_d (fun c1 => ?_) (fun c1 => ?_)
    · walk_at "go"
      refine ite_d (fun c2 => ?_) (fun c2 => ?_)
      · walk_at "go"
        rw [if_pos ⟨c1, c2⟩] at hcl
        refine q _ _ hE ?_
        rw [hcl]
        exact .non
      · rw [if_neg (fun z => c2 z.2)] at hcl
        walk_at "go"
        refine w_cut (fun σ' H' => σ' = [some (.ref a), some (.ref b), some (.ref o), some (.int n)] ∧ Ext H H' ∧ H' o = some (.lst ((acc ++ [n]).map V.int))) ?_ ?_
        · walk_at "go"
          refine w_append hacc hs ?_
          exact ⟨rfl, hE.own ho, by rw [L2.upd_same, List.map_append]; rfl⟩
        · rintro σ' H' ⟨rfl, hE', hacc'⟩
          have hL2 := hE'.seqL hL (npl_ints ls)
          walk_at "go"
          refine ⟨acc ++ [n], some (.int n), rfl, hE', hacc', by rw [List.length_append, List.length_singleton]; omega, ?_⟩
          rw [hcl, Option.map_map]
          congr 1
          funext c
          simp [c1]
    · rw [if_neg (fun z => c1 z.1)] at hcl
      walk_at "go"
      refine w_cut (fun σ' H' => σ' = [some (.ref a), some (.ref b), some (.ref o), some (.int n)] ∧ H' = H1) ?_ ?_
      · walk_at "go"
        exact ⟨rfl, rfl⟩
      · rintro σ' H' ⟨rfl, rfl⟩
        walk_at "go"
        refine ite_d (fun c2 => ?_) (fun c2 => ?_)
        · walk_at "go"
          refine w_append hacc hs ?_
          refine ⟨acc ++ [-n], some (.int n), rfl, hE.own ho, by rw [L2.upd_same, List.map_append]; rfl, by rw [List.length_append, List.length_singleton]; omega, ?_⟩
          rw [hcl, Option.map_map]
          congr 1
          funext c
          simp [c1, c2]
        · walk_at "go"
          refine ⟨acc, some (.int n), rfl, hE, hacc, by omega, ?_⟩
          rw [hcl, Option.map_map]
          congr 1
          funext c
          simp [c1, c2]
  · rintro σ H1 ⟨acc, y, rfl, hE, hacc, hal, hcl⟩
    rw [List.length_map, List.drop_length] at hcl
    walk_at "go"
    intro p hp
    refine q _ _ (hE.newer hp) ?_
    rw [hcl]
    show Dq _ (.ref p) (.tuple ((acc ++ []).map .int))
    rw [List.append_nil]
    exact Dq.of_ti L2.upd_same
end
end Kf

end
section
set_option Elab.async false
set_option linter.all false
set_option maxRecDepth 100000
set_option maxHeartbeats 4000000
local macro_rules | `(tactic| walk_at "npl") => `(tactic| first | exact Kf.npl rfl | exact Kf.npl_ints _ | exact Kf.npl_one _ _ | exact Kf.npl_refs _ | assumption)
local macro_rules | `(tactic| walk_at "nn") => `(tactic| first
  | assumption
  | (refine' Kf.Ext.non ?nne ?nnh; (case nne => assumption); (case nnh => walk_at "nn")))
local macro_rules | `(tactic| walk_at "ext") => `(tactic| first
  | assumption
  | exact Kf.Ext.refl
  | (refine' Kf.Ext.newer ?exa ?exn; (case exn => assumption); (case exa => walk_at "ext"))
  | (refine' Kf.Ext.own ?exa ?exn; (case exn => walk_at "nn"); (case exa => walk_at "ext"))
  | (refine' Kf.Ext.trans ?exa ?exb; (case exb => assumption); (case exa => walk_at "ext")))
local macro_rules | `(tactic| walk_at "pool") => `(tactic| first
  | assumption
  | (refine' Kf.PoolAt.ext ?plh ?ple; (case plh => assumption); (case ple => walk_at "ext"))
  | (refine' Kf.PoolAt.upd ?plh ?plo ?pln; (case plo => assumption); (case pln => walk_at "npl"); (case plh => walk_at "pool")))
local macro_rules | `(tactic| walk_at "lk") => `(tactic| first
  | assumption
  | exact L2.upd_same
  | (refine' Kf.upd_old ?lkn ?lkh; (case lkn => assumption); (case lkh => walk_at "lk"))
  | (refine' Kf.upd_oth ?lkn ?lkh; (case lkn => (first | assumption | (apply Ne.symm; assumption))); (case lkh => walk_at "lk"))
  | (refine' Kf.Ext.get ?lke ?lkh ?lkn; (case lke => assumption); (case lkh => walk_at "lk"); (case lkn => walk_at "npl"))
  | (refine' L2.Same.at ?lke ?lkh; (case lke => assumption); (case lkh => walk_at "lk")))
local macro_rules | `(tactic| walk_at "sq") => `(tactic| first
  | assumption
  | (refine' L2.SqL.of ?sqh; (case sqh => walk_at "lk"))
  | (refine' L2.SqT.of ?sqh; (case sqh => walk_at "lk"))
  | (refine' Kf.Ext.seqL ?sqe ?sqh ?sqn; (case sqh => assumption); (case sqe => walk_at "ext"); (case sqn => walk_at "npl"))
  | (refine' Kf.Ext.seqT ?sqe ?sqh; (case sqh => assumption); (case sqe => walk_at "ext")))
local macro_rules | `(tactic| walk_at "at") => `(tactic| first | exact L2.atI_nat (j := 0) rfl | exact L2.atI_nat (j := 1) rfl | exact L2.atI_nat (j := 2) rfl | exact L2.atI_nat (j := 3) rfl | exact L2.atI_nat (j := 4) rfl | assumption)
local macro_rules | `(tactic| walk_at "ixn") => `(tactic| first | exact Kf.ixN_nat (j := 0) rfl | exact Kf.ixN_nat (j := 1) rfl | exact Kf.ixN_nat (j := 2) rfl | exact Kf.ixN_nat (j := 3) rfl | assumption)
local macro_rules | `(tactic| walk_at "set") => `(tactic| (first | (simp only [List.set_cons_succ, List.set_cons_zero]; rfl) | rfl))
local macro_rules | `(tactic| walk_at "om") => `(tactic| first | decide | omega | (simp only [List.length_map, List.length_cons, List.length_nil] at *; omega))
local macro_rules | `(tactic| walk_at "calls") => `(tactic| first
  | (with_reducible refine' Kf.call_take ?clp ?cla ?clb ?clq; (case clp => walk_at "pool"); (case cla => walk_at "om"); (case clb => walk_at "om"); intro r H' hE h0 h1)
  | (with_reducible refine' Kf.call_pool ?cls ?cla ?clq; (case cls => walk_at "sq"); (case cla => walk_at "om"); intro p H' hE hN hP)
  | (with_reducible refine' Kf.call_turn ?cls ?clp ?cla ?clq; (case cls => walk_at "sq"); (case clp => walk_at "pool"); (case cla => walk_at "om"); intro u H' hE hP))
local macro_rules | `(tactic| walk_at "side") => `(tactic| first
  | exact Kf.cmul_fmod (by decide) (by decide)
  | exact rfl
  | decide
  | omega
  | assumption
  | (refine ⟨?_, ?_⟩ <;> decide)
  | (refine ⟨?_, ?_, ?_⟩ <;> decide)
  | (refine ⟨?_, ?_⟩ <;> omega)
  | (refine Or.inl ⟨?_, ?_⟩ <;> decide)
  | (refine Or.inr ⟨?_, ?_⟩ <;> decide)
  | (refine Or.inl ⟨?_, ?_⟩ <;> omega)
  | (refine Or.inr ⟨?_, ?_⟩ <;> omega))
local macro_rules | `(tactic| walk_at "kit") => `(tactic| first | exact Kf.isi_int_int | exact Kf.isi_int_bool | exact Kf.isi_int_str | exact Kf.isi_int_list | exact Kf.isi_int_tuple | exact Kf.isi_bool_int | exact Kf.isi_bool_bool | exact Kf.isi_bool_str | exact Kf.isi_bool_list | exact Kf.isi_bool_tuple | exact Kf.isi_str_int | exact Kf.isi_str_bool | exact Kf.isi_str_str | exact Kf.isi_str_list | exact Kf.isi_str_tuple | exact Kf.isi_non_list | exact Kf.isi_non_tuple | exact Kf.isi_list_list | exact Kf.isi_list_tuple | exact Kf.isi_tuple_list | exact Kf.isi_tuple_tuple | exact Kf.isi_dict_dict)
local macro_rules | `(tactic| walk_at "ty") => `(tactic| first
  | exact L2.TyX.base (L2.TyOf.int _)
  | exact L2.TyX.base (L2.TyOf.bl _)
  | exact L2.TyX.base (L2.TyOf.str _)
  | exact L2.TyX.base L2.TyOf.non
  | (refine' L2.TyX.base (L2.TyOf.lst ?tyh); (case tyh => walk_at "lk"))
  | (refine' L2.TyX.base (L2.TyOf.tup ?tyh); (case tyh => walk_at "lk"))
  | (refine' L2.TyX.base (L2.TyOf.dK ?tyh); (case tyh => walk_at "lk")))
local macro_rules | `(tactic| walk_at "om2") => `(tactic| first | assumption | decide | omega)
local macro_rules | `(tactic| walk_at "st") => `(tactic| with_reducible first
  | (refine Kf.w_var rfl ?_)
  | (refine Kf.w_c ?_)
  | (refine Kf.w_seq ?_)
  | (refine Kf.w_asg ?_)
  | (refine' Kf.w_gname ?sth ?_; (case sth => with_unfolding_all walk_at "set"))
  | (refine Kf.w_op ?_)
  | (refine Kf.w_un ?_)
  | (refine Kf.w_rU ?_)
  | (refine Kf.w_rI0 ?_)
  | (refine' Kf.w_rI ?sth ?_; (case sth => with_unfolding_all walk_at "side"))
  | (refine' Kf.w_rEq ?sth ?_; (case sth => with_unfolding_all rfl))
  | (refine' Kf.w_rNe ?sth ?_; (case sth => with_unfolding_all rfl))
  | (refine Kf.w_tTest ?_)
  | (refine Kf.w_tB ?_)
  | (refine Kf.w_exbl ?_)
  | (refine Kf.w_exint ?_)
  | (refine Kf.w_ifS ?_)
  | (refine Kf.w_ret ?_)
  | (refine Kf.w_retN ?_)
  | (refine Kf.w_drop ?_)
  | (refine Kf.w_and ?_)
  | (refine Kf.w_or ?_)
  | (refine Kf.w_not ?_)
  | (refine Kf.w_andV ?_)
  | (refine Kf.w_orV ?_)
  | (refine Kf.w_notV ?_)
  | (refine Kf.w_if ?_)
  | (refine Kf.w_lc ?_)
  | (refine Kf.w_for ?_)
  | (refine Kf.w_rng1 ?_)
  | (refine' Kf.w_rng1x ?sth ?stg ?_; (case sth => with_unfolding_all walk_at "om"); (case stg => with_unfolding_all walk_at "om"))
  | (refine Kf.w_ilist ?_)
  | (refine Kf.w_iseq ?_)
  | (refine Kf.w_itup ?_)
  | (refine' Kf.w_ilistx ?sth ?_; (case sth => with_unfolding_all walk_at "sq"))
  | (refine' Kf.w_itupx ?sth ?_; (case sth => with_unfolding_all walk_at "sq"))
  | (refine' Kf.w_wipe ?sth ?_; (case sth => with_unfolding_all rfl))
  | (refine Kf.w_yes ?_)
  | (refine' Kf.w_isi ?sth ?stg ?_; (case sth => with_unfolding_all walk_at "ty"); (case stg => walk_at "kit"))
  | (refine Kf.w_isN ?_)
  | (refine Kf.w_notN ?_)
  | (refine Kf.w_cb ?_)
  | (refine Kf.w_nil ?_)
  | (refine Kf.w_cons ?_)
  | (refine Kf.w_tup ?_)
  | (refine Kf.w_lst ?_)
  | (refine' Kf.w_lines ?sth ?_; (case sth => with_unfolding_all rfl))
  | (refine Kf.w_call ?_)
  | (refine Kf.w_next ?_)
  | (refine Kf.w_break ?_)
  | (refine Kf.w_cont ?_)
  | (refine Kf.w_dnewK ?_)
  | (refine Kf.w_dget ?_)
  | (refine Kf.w_sl ?_)
  | (refine Kf.w_nopart ?_)
  | (refine Kf.w_part ?_)
  | (refine Kf.w_bm ?_)
  | (refine Kf.w_bm0 ?_)
  | (refine' Kf.w_bmL ?sth ?_; (case sth => with_unfolding_all walk_at "lk"))
  | (refine' Kf.w_cat ?sth ?stg ?stf ?_; (case sth => with_unfolding_all walk_at "lk"); (case stg => with_unfolding_all walk_at "lk"); (case stf => with_unfolding_all walk_at "om"))
  | (refine' Kf.w_slL ?sth ?_; (case sth => with_unfolding_all walk_at "sq"))
  | (refine' Kf.w_inL ?sth ?_; (case sth => with_unfolding_all walk_at "sq"))
  | (refine' Kf.w_inT ?sth ?_; (case sth => with_unfolding_all walk_at "sq"))
  | (refine' Kf.w_ninL ?sth ?_; (case sth => with_unfolding_all walk_at "sq"))
  | (refine' Kf.w_ninT ?sth ?_; (case sth => with_unfolding_all walk_at "sq"))
  | (refine' Kf.w_listof ?sth ?_; (case sth => with_unfolding_all walk_at "sq"))
  | (refine' Kf.w_tupof ?sth ?_; (case sth => with_unfolding_all walk_at "sq"))
  | (refine Kf.w_listRev ?_)
  | (refine Kf.w_gsub ?_)
  | (refine' Kf.w_ixL ?sth ?stg ?_; (case sth => with_unfolding_all walk_at "sq"); (case stg => with_unfolding_all walk_at "at"))
  | (refine' Kf.w_ixT ?sth ?stg ?_; (case sth => with_unfolding_all walk_at "sq"); (case stg => with_unfolding_all walk_at "at"))
  | (refine' Kf.w_setL ?sth ?stg ?_; (case sth => with_unfolding_all walk_at "lk"); (case stg => with_unfolding_all walk_at "ixn"))
  | (refine' Kf.w_len ?sth ?_; (case sth => with_unfolding_all walk_at "sq"))
  | (refine' Kf.w_lenT ?sth ?_; (case sth => with_unfolding_all walk_at "sq"))
  | (refine Kf.w_int1 ?_)
  | (refine Kf.w_intb ?_)
  | (refine Kf.w_abs ?_)
  | (refine Kf.w_aug rfl ?_)
  | (refine Kf.w_ipI ?_)
  | (refine L2.iteT ?_)
  | (refine L2.iteF ?_)
  | (refine Kf.iteNT ?_)
  | (refine Kf.iteNF ?_)
  | (refine' Kf.ite_decT ?sth ?_; (case sth => exact rfl))
  | (refine' Kf.ite_decF ?sth ?_; (case sth => with_unfolding_all (intro e; cases e; done)))
  | (refine' Kf.ite_ndecF ?sth ?_; (case sth => exact rfl))
  | (refine' Kf.ite_ndecT ?sth ?_; (case sth => with_unfolding_all (intro e; cases e; done)))
  | (refine' Kf.ite_viT ?sth ?_; (case sth => (with_unfolding_all walk_at "om2")))
  | (refine' Kf.ite_viF ?sth ?_; (case sth => (with_unfolding_all walk_at "om2")))
  | (refine' Kf.ite_nviT ?sth ?_; (case sth => (with_unfolding_all walk_at "om2")))
  | (refine' Kf.ite_nviF ?sth ?_; (case sth => (with_unfolding_all walk_at "om2")))
  | (refine' Kf.ite_decT ?sth ?_; (case sth => (with_unfolding_all walk_at "om2")))
  | (refine' Kf.ite_decF ?sth ?_; (case sth => (with_unfolding_all walk_at "om2")))
  | with_unfolding_all walk_at "calls")
local macro_rules | `(tactic| walk_at "go") => `(tactic| repeat walk_at "st")

namespace Kf
open PySem PySem.Spec PyProof.Rows L2
open R6 (cl Over Nodes)
/-! ### the canonical clause by sorting -/
theorem cl_sorted {ls : List Int} (hno : ∀ n, ¬ (n ∈ ls ∧ -n ∈ ls)) : ∀ {ns ys : List Int}, Nodes ns → ys.Pairwise (· ≤ ·) → ys.Nodup → (∀ k, k ∈ ys ↔ k ∈ ns ∧ (k ∈ ls ∨ -k ∈ ls)) → cl ns ls = some (ys.map fun k => if k ∈ ls then k else -k)
  | [], ys, _, _, _, h => by
    have e : ys = [] := by
      cases ys with
      | nil => rfl
      | cons y r => exact absurd ((h y).mp List.mem_cons_self).1 (by simp)
    subst e
    rfl
  | n :: r, ys, hn, hp, hd, h => by
    have hlt : ∀ m ∈ r, n < m := (List.pairwise_cons.mp hn.up).1
    unfold cl
    rw [if_neg (hno n)]
    by_cases hin : n ∈ ls ∨ -n ∈ ls
    · have hy : n ∈ ys := (h n).mpr ⟨List.mem_cons_self, hin⟩
      cases ys with
      | nil => cases hy
      | cons y ys' =>
        have hp' := List.pairwise_cons.mp hp
        have hd' := List.nodup_cons.mp hd
        have hyn : y ∈ n :: r := ((h y).mp List.mem_cons_self).1
        have e : y = n := by
          have h1 : y ≤ n := by
            rcases List.mem_cons.mp hy with z | z
            · omega
            · exact hp'.1 n z
          rcases List.mem_cons.mp hyn with z | z
          · exact z
          · have := hlt y z; omega
        subst e
        have ih := cl_sorted hno (ns := r) (ys := ys') hn.tail hp'.2 hd'.2 fun k => by
          constructor
          · intro hk
            have hk2 := (h k).mp (List.mem_cons_of_mem _ hk)
            rcases List.mem_cons.mp hk2.1 with z | z
            · subst z; exact absurd hk hd'.1
            · exact ⟨z, hk2.2⟩
          · rintro ⟨a, b⟩
            rcases List.mem_cons.mp ((h k).mpr ⟨List.mem_cons_of_mem _ a, b⟩) with z | z
            · subst z; exact absurd (hlt k a) (by omega)
            · exact z
        rw [ih]
        show some _ = some _
        rw [List.map_cons]
        dsimp only
        by_cases h1 : y ∈ ls
        · rw [if_pos h1, if_pos h1]
        · rw [if_neg h1, if_neg h1, if_pos (hin.resolve_left h1)]
    · have ih := cl_sorted hno (ns := r) (ys := ys) hn.tail hp hd fun k => by
        constructor
        · intro hk
          have hk2 := (h k).mp hk
          rcases List.mem_cons.mp hk2.1 with z | z
          · subst z; exact absurd hk2.2 hin
          · exact ⟨z, hk2.2⟩
        · rintro ⟨a, b⟩
          exact (h k).mpr ⟨List.mem_cons_of_mem _ a, b⟩
      rw [ih]
      show some _ = some _
      dsimp only
      rw [if_neg (fun z => hin (.inl z)), if_neg (fun z => hin (.inr z))]
/-! ### the dict of the literals so far -/
def absI (l : Int) : Int := if l < 0 then -l else l
theorem absI_or (l : Int) : absI l = l ∨ absI l = -l := by unfold absI; split <;> simp
theorem absI_eq {a b : Int} (h : absI a = absI b) : a = b ∨ a = -b := by
  rcases absI_or a with x | x <;> rcases absI_or b with y | y <;> omega
structure Sgn (kvs : List (Key × V)) (taken : List Int) : Prop where
  val : ∀ l ∈ taken, valV kvs (Sum.inl (absI l)) = some (.int l)
  keys : ∃ ks : List Int, kvs.map (·.1) = ks.map Sum.inl ∧ ks.Nodup ∧ (∀ k ∈ ks, ∃ l ∈ taken, absI l = k)
  len : kvs.length ≤ taken.length
theorem Sgn.nil : Sgn [] [] := ⟨(fun _ h => nomatch h), ⟨[], rfl, List.nodup_nil, (fun _ h => nomatch h)⟩, Nat.le_refl _⟩
theorem Sgn.old {kvs : List (Key × V)} {taken : List Int} {l : Int} {v : V} (S : Sgn kvs taken) (h : valV kvs (Sum.inl (absI l)) = some v) : ∃ l' ∈ taken, absI l' = absI l ∧ v = .int l' := by
  obtain ⟨ks, e, _, hk⟩ := S.keys
  have hin := valV_in h
  rw [e] at hin
  obtain ⟨k, hk1, hk2⟩ := List.mem_map.mp hin
  obtain ⟨l', hl, e2⟩ := hk k hk1
  have e3 : absI l' = absI l := by rw [e2]; exact Sum.inl.inj hk2
  have := S.val l' hl
  rw [e3, h] at this
  exact ⟨l', hl, e3, Option.some.inj this⟩
theorem Sgn.put {kvs : List (Key × V)} {taken : List Int} {l : Int} (S : Sgn kvs taken) (h : valV kvs (Sum.inl (absI l)) = none ∨ valV kvs (Sum.inl (absI l)) = some (.int l)) : Sgn (putK kvs (Sum.inl (absI l)) (.int l)) (taken ++ [l]) := by
  refine ⟨fun l' hl' => ?_, ?_, ?_⟩
  · rw [valV_put]
    by_cases e : (Sum.inl (absI l') : Key) = Sum.inl (absI l)
    · rw [if_pos e]
      rcases List.mem_append.mp hl' with z | z
      · have hv := S.val l' z
        rw [e] at hv
        rcases h with h | h
        · rw [h] at hv; cases hv
        · rw [h] at hv; exact hv
      · rw [List.mem_singleton] at z
        rw [z]
    · rw [if_neg e]
      rcases List.mem_append.mp hl' with z | z
      · exact S.val l' z
      · rw [List.mem_singleton] at z
        subst z
        exact absurd rfl e
  · obtain ⟨ks, e, hn, hk⟩ := S.keys
    rcases h with h | h
    · refine ⟨ks ++ [absI l], ?_, ?_, ?_⟩
      · rw [putK_new _ h, List.map_append, List.map_append, e]
        rfl
      · refine List.nodup_append.mpr ⟨hn, by simp, fun a ha b hb q => ?_⟩
        rw [List.mem_singleton] at hb
        subst hb q
        exact valV_not h (by rw [e]; exact List.mem_map.mpr ⟨_, ha, rfl⟩)
      · intro k hk'
        rcases List.mem_append.mp hk' with z | z
        · obtain ⟨l', a, b⟩ := hk k z
          exact ⟨l', List.mem_append_left _ a, b⟩
        · rw [List.mem_singleton] at z
          exact ⟨l, by simp, z.symm⟩
    · refine ⟨ks, ?_, hn, fun k hk' => ?_⟩
      · rw [← e]
        unfold putK
        rw [if_pos (by rw [valV_any, h]; rfl), List.map_map]
        apply List.map_congr_left
        intro a _
        show (if a.1 = Sum.inl (absI l) then (a.1, V.int l) else a).1 = a.1
        split <;> rfl
      · obtain ⟨l', a, b⟩ := hk k hk'
        exact ⟨l', List.mem_append_left _ a, b⟩
  · rw [List.length_append, List.length_singleton]
    unfold putK
    split
    · rw [List.length_map]; have := S.len; omega
    · rw [List.length_append, List.length_singleton]; have := S.len; omega
abbrev s_clause_of : Stmt := topS 1
abbrev N_clause_of : List Str := ["literals", "signed", "literal", "node"]
abbrev P_clause_of : List Str := ["literals"]
theorem sc_clause_of : FnScope N_clause_of P_clause_of (defScope s_clause_of) := ⟨rfl, rfl, rfl, by decide +kernel, rfl, by decide +kernel, by decide +kernel⟩
section
variable {P : Program} {w : World} {K : PySem.W.Frag} {mg : Str → Option Value} {base : Heap} {H : Hp} {Q : VK} {E : XK}
def spClauseOf (K : PySem.W.Frag) : Sp := fun vs H Q _ => ∃ (a : Addr) (ns ls : List Int), vs = [.ref a] ∧ (SqL K H a (ls.map V.int) ∨ SqT K H a (ls.map V.int)) ∧ Nodes ns ∧ ns.length ≤ 60 ∧ Over ns ls ∧ ls.length ≤ 1000 ∧ ∀ r H', Ext H H' → Dq H' r (optD (cl ns ls)) → Q r H'
theorem call_clause_of {a : Addr} {ns ls : List Int} (h : SqL K H a (ls.map V.int) ∨ SqT K H a (ls.map V.int)) (hn : Nodes ns) (h60 : ns.length ≤ 60) (ho : Over ns ls) (hl : ls.length ≤ 1000) (q : ∀ r H', Ext H H' → Dq H' r (optD (cl ns ls)) → Q r H') : spClauseOf K ([.ref a] ++ []) H Q E := ⟨a, ns, ls, rfl, h, hn, h60, ho, hl, q⟩
theorem pos_of {ns ls : List Int} (hn : Nodes ns) (ho : Over ns ls) {l : Int} (hl : l ∈ ls) : absI l ∈ ns ∧ 0 < absI l := by
  unfold absI
  rcases ho l hl with z | z
  · have := hn.pos _ z
    rw [if_neg (by omega)]
    exact ⟨z, this⟩
  · have := hn.pos _ z
    rw [if_pos (by omega)]
    exact ⟨z, this⟩
theorem ok_clause_of (D : Df K mg "clause_of" s_clause_of P_clause_of) (b_tuple : mg "tuple" = none) (b_abs : mg "abs" = none) (b_sorted : mg "sorted" = none) : Pr P w K mg base "clause_of" 1 P_clause_of (spClauseOf K) := by
  refine D.ok sc_clause_of (fun vs H Q E h => ?_) (fun f cdv A outer s H vs Q E hr h => ?_)
  · obtain ⟨a, ns, ls, rfl, _⟩ := h; rfl
  obtain ⟨a, ns, ls, rfl, hL, hn, h60, ho, hl, q⟩ := h
  have nd := sc_clause_of.nd
  have hu := hu_of hr
  refine ⟨_, (pss_cons (ps_set (i := 1) nd rfl (Or.inr rfl) pe_dnewK)
      (pss_cons (ps_for PassesOwn.never rfl (pi_seqK (K := K) rfl (pv 0)) (pg_name (i := 2) nd rfl (Or.inl rfl)) (pss_cons (ps_if (pt_cmpR op_ne (pe_dget2 hu (pv 1) (pe_callB call_abs (by rfl) b_abs (by decide +kernel) (pa_cons (pv 2) pa_nil)) (pv 2) ⟨rfl, rfl, rfl, rfl⟩) (pv 2) (nomark _)) (pss_one (ps_ret pe_non)) pss_nil)
      (pss_one (ps_dput hu (pv 1) (pe_callB call_abs (by rfl) b_abs (by decide +kernel) (pa_cons (pv 2) pa_nil)) (pv 2) rfl))))
      (pss_one (ps_ret (pe_callTy (call_tuple_ofK (K := K) rfl) (by rfl) b_tuple (by decide +kernel) (pa_cons (pe_lc (own := [("node", 3)]) rfl nd (pi_listK (K := K) rfl (pe_callB (call_sortedDI rfl) (by rfl) b_sorted (by decide +kernel) (pa_cons (pv 1) pa_nil))) (blkOk_by (N := N_clause_of) (sc := defScope s_clause_of) (by decide +kernel)) (fun _ _ _ _ _ => pg_name (i := 3) nd rfl (Or.inl rfl)) (fun _ _ _ _ _ => pts_nil) (fun _ _ _ _ _ => (pe_dget hu (pv 1) (pv 3) (fun _ _ => rfl)))) pa_nil)))))), ?_⟩
  refine w_start (σ := [some _, none, none, none]) rfl ?_
  walk_at "go"
  intro d hd
  walk_at "go"
  -- behind the loop
  have fin : ∀ (σ : L2.St) (H1 : Hp) (y : Option V) (kvs : List (Key × V)), σ = [some (.ref a), some (.ref d), y, none] → Ext H H1 → H1 d = some (.dK kvs) → Sgn kvs ls →
      tRet (tCB (fun xs H Q => ∃ p ys, xs = [.ref p] ∧ ((SqL K H p ys ∧ ∀ l, H l = none → Q (.ref l) (upd H l (.tup ys))) ∨ (SqT K H p ys ∧ Q (.ref p) H)))
        (tCons (tLc (iList K (tCB (fun xs H Q => ∃ (a : Addr) (kvs : List (Key × V)) (ks : List Int), xs = [.ref a] ∧ Rd H a (.dK kvs) ∧ kvs.map (·.1) = ks.map Sum.inl ∧ ks.length < 64 ∧
          ∀ (ys : List Int) (p : Addr), ys.Perm ks → ys.Pairwise (· ≤ ·) → H p = none → Q (.ref p) (upd H p (.lst (ys.map V.int)))) (tCons (tVar 1) tNil))) (gName 3) tYes (tDGet (tVar 1) (tVar 3)) [3]) tNil)) { nx := fun _ H' => Q .non H', rt := Q } σ H1 := by
    rintro σ H1 y kvs rfl hE hk S
    obtain ⟨ks, ek, knd, kin⟩ := S.keys
    have hks : ∀ k, k ∈ ks ↔ k ∈ ns ∧ (k ∈ ls ∨ -k ∈ ls) := fun k => by
      constructor
      · intro h
        obtain ⟨l, hl1, e⟩ := kin k h
        have := pos_of hn ho hl1
        rw [e] at this
        refine ⟨this.1, ?_⟩
        rcases absI_or l with z | z
        · exact .inl (by rw [← e, z]; exact hl1)
        · exact .inr (by rw [← e, z, Int.neg_neg]; exact hl1)
      · rintro ⟨h1, h2⟩
        have hp := hn.pos k h1
        have e : ∃ l ∈ ls, absI l = k := by
          rcases h2 with z | z
          · exact ⟨k, z, by unfold absI; rw [if_neg (by omega)]⟩
          · exact ⟨-k, z, by unfold absI; rw [if_pos (by omega)]; omega⟩
        obtain ⟨l, hl1, e⟩ := e
        have := valV_in (S.val l hl1)
        rw [ek, e] at this
        obtain ⟨k', hk', e'⟩ := List.mem_map.mp this
        rw [← Sum.inl.inj e']
        exact hk'
    have hkl : ks.length < 64 := by
      have := R6.nodup_le knd fun x hx => ((hks x).mp hx).1
      omega
    have hno : ∀ n, ¬ (n ∈ ls ∧ -n ∈ ls) := fun n ⟨h1, h2⟩ => by
      have e1 := S.val n h1
      have e2 := S.val (-n) h2
      have e : absI n = absI (-n) := by unfold absI; split <;> split <;> omega
      rw [e, e2] at e1
      have := V.int.inj (Option.some.inj e1)
      have := (pos_of hn ho h1).2
      unfold absI at this
      split at this <;> omega
    walk_at "go"
    refine ⟨d, kvs, ks, rfl, .inl hk, ek, hkl, fun ys p hperm hup hp => ?_⟩
    have hcl := cl_sorted hno hn hup (hperm.nodup_iff.mpr knd) fun k => (hperm.mem_iff).trans (hks k)
    have hyl : ys.length ≤ 100 := by rw [hperm.length_eq]; omega
    walk_at "go"
    refine lc_l (R := fun i acc Hd => acc = ((ys.take i).map fun k => if k ∈ ls then k else -k).map V.int) (SqL.of L2.upd_same) (npl_ints ys) rfl (fun i acc Ha Hb e h => h) ?_ ?_
    · intro i x acc D2 H3 hx hD2 hacc hE3 hR
      obtain ⟨k, rfl, hk2⟩ := int_at hx
      have hkin : k ∈ ys := List.mem_of_getElem? hk2
      have hk3 := (hks k).mp (hperm.mem_iff.mp hkin)
      have hp0 := hn.pos k hk3.1
      have hv : valV kvs (Sum.inl k) = some (.int (if k ∈ ls then k else -k)) := by
        by_cases c : k ∈ ls
        · have := S.val k c
          rw [if_pos c]
          unfold absI at this
          rw [if_neg (by omega)] at this
          exact this
        · have := S.val (-k) (hk3.2.resolve_left c)
          rw [if_neg c]
          unfold absI at this
          rw [if_pos (by omega), Int.neg_neg] at this
          exact this
      have hk4 : H3 d = some (.dK kvs) := hE3.get (upd_old hp hk) (npl rfl)
      walk_at "go"
      refine ⟨d, _, rfl, hv ▸ DGet.k (k := Sum.inl k) hk4, ?_⟩
      refine LcP.put hD2 hacc (by rw [hR]; exact npl_ints _) hE3 Ext.refl (by rw [hR, List.length_map, List.length_map, List.length_take]; omega) ?_
      rw [hR, List.take_add_one, hk2, List.map_append, List.map_append]
      rfl
    · intro D2 acc H3 hD2 hacc hE3 hR
      rw [List.length_map, List.take_length] at hR
      subst hR
      walk_at "go"
      intro t ht
      refine q _ _ (((hE.newer hp).trans hE3).newer ht) ?_
      rw [hcl]
      exact Dq.of_ti L2.upd_same
  have turn : ∀ (i : Nat) (x : V) (σ : L2.St) (H1 : Hp) (DD : Ends) (Pv : Nat → L2.St → Hp → Prop), (ls.map V.int)[i]? = some x → (∃ (kvs : List (Key × V)) (y : Option V), σ = [some (.ref a), some (.ref d), y, none] ∧ Ext H H1 ∧ H1 d = some (.dK kvs) ∧ Sgn kvs (ls.take i)) → DD.rt = Q →
      (∀ (kvs : List (Key × V)) (y : Option V) (H' : Hp), Ext H H' → H' d = some (.dK kvs) → Sgn kvs (ls.take (i + 1)) → DD.nx [some (.ref a), some (.ref d), y, none] H') →
      gName 2 x σ H1 fun σ2 H2 => tSeq (tIfS (tTest (tOp rNe (tDGet2 (tVar 1) (tCB (fun xs H Q => ∃ i, xs = [.int i] ∧ Q (.int (if i < 0 then -i else i)) H) (tCons (tVar 2) tNil)) (tVar 2)) (tVar 2))) (tRet (tC .non)) tNext)
        (sDPut (tVar 1) (tCB (fun xs H Q => ∃ i, xs = [.int i] ∧ Q (.int (if i < 0 then -i else i)) H) (tCons (tVar 2) tNil)) (tVar 2)) DD σ2 H2 := by
    rintro i x σ H1 DD Pv hx ⟨kvs, y, rfl, hE, hk, S⟩ hrt hnx
    obtain ⟨l, rfl, hl2⟩ := int_at hx
    have hlin : l ∈ ls := List.mem_of_getElem? hl2
    have etk : ls.take (i + 1) = ls.take i ++ [l] := by rw [List.take_add_one, hl2]; rfl
    have put : (valV kvs (Sum.inl (absI l)) = none ∨ valV kvs (Sum.inl (absI l)) = some (.int l)) → sDPut (tVar 1) (tCB (fun xs H Q => ∃ i, xs = [.int i] ∧ Q (.int (if i < 0 then -i else i)) H) (tCons (tVar 2) tNil)) (tVar 2) DD [some (.ref a), some (.ref d), some (.int l), none] H1 := fun hv => by
      refine ⟨_, rfl, _, rfl, _, rfl, _, rfl, d, _, rfl, DPut.k (k := Sum.inl (absI l)) hk (small1000 (by have := S.len; rw [List.length_take] at this; omega)), ?_⟩
      refine hnx _ _ _ (hE.own hd) L2.upd_same ?_
      rw [etk]
      exact S.put hv
    refine w_gname rfl ?_
    refine w_seq (w_ifS (w_tTest (w_op ?_)))
    refine ⟨_, rfl, d, rfl, .inl ⟨_, .inl hk⟩, _, rfl, _, rfl, _, rfl, _, DGet.k (k := Sum.inl (absI l)) hk, ?_⟩
    cases e : valV kvs (Sum.inl (absI l)) with
    | none =>
      walk_at "go"
      exact ite_nviF (i := l) (j := l) rfl (put (.inl e))
    | some v =>
      obtain ⟨l', hl', ea, rfl⟩ := S.old e
      walk_at "go"
      refine ite_nvi (fun c => ?_) (fun c => ?_)
      · walk_at "go"
        rw [hrt]
        refine q _ _ hE ?_
        have e2 : l' = -l := (absI_eq ea).resolve_left c
        have hl3 : -l ∈ ls := by rw [← e2]; exact List.mem_of_mem_take hl'
        have hp := pos_of hn ho hlin
        have : cl ns ls = none := R6.cl_none.mpr ⟨absI l, hp.1, by
          rcases absI_or l with z | z
          · rw [z]; exact ⟨hlin, hl3⟩
          · rw [z, Int.neg_neg]; exact ⟨hl3, hlin⟩⟩
        rw [this]
        exact .non
      · walk_at "go"
        subst c
        exact put (.inr e)
  refine ⟨a, rfl, ?_⟩
  rcases hL with hL | hL
  · refine .inl ⟨⟨_, (Ext.new hd).seqL hL (npl_ints ls)⟩, ?_⟩
    refine for_list (K := K) (a := a) (xs := ls.map V.int) (fun i σ H' => ∃ (kvs : List (Key × V)) (y : Option V), σ = [some (.ref a), some (.ref d), y, none] ∧ Ext H H' ∧ H' d = some (.dK kvs) ∧ Sgn kvs (ls.take i))
      ⟨[], none, rfl, Ext.new hd, L2.upd_same, Sgn.nil⟩ (fun i σ H' _ ⟨_, _, _, e, _⟩ => e.seqL hL (npl_ints ls)) ?_ ?_
    · intro i x σ H1 hx hp
      exact turn i x σ H1 _ (fun _ _ _ => True) hx hp rfl fun kvs y H' e1 e2 e3 => ⟨kvs, y, rfl, e1, e2, e3⟩
    · rintro σ H1 ⟨kvs, y, rfl, hE, hk, S⟩
      rw [List.length_map, List.take_length] at S
      exact fin _ H1 y kvs rfl hE hk S
  · refine .inr ⟨⟨_, (Ext.new hd).seqT hL⟩, ?_⟩
    refine for_tup (K := K) (a := a) (xs := ls.map V.int) (fun i σ H' => ∃ (kvs : List (Key × V)) (y : Option V), σ = [some (.ref a), some (.ref d), y, none] ∧ Ext H H' ∧ H' d = some (.dK kvs) ∧ Sgn kvs (ls.take i))
      ⟨[], none, rfl, Ext.new hd, L2.upd_same, Sgn.nil⟩ (fun i σ H' _ ⟨_, _, _, e, _⟩ => e.seqT hL) ?_ ?_
    · intro i x σ H1 hx hp
      exact turn i x σ H1 _ (fun _ _ _ => True) hx hp rfl fun kvs y H' e1 e2 e3 => ⟨kvs, y, rfl, e1, e2, e3⟩
    · rintro σ H1 ⟨kvs, y, rfl, hE, hk, S⟩
      rw [List.length_map, List.take_length] at S
      exact fin _ H1 y kvs rfl hE hk S
end
end Kf

end
section
set_option Elab.async false
set_option linter.all false
set_option maxRecDepth 100000
set_option maxHeartbeats 4000000
local macro_rules | `(tactic| walk_at "npl") => `(tactic| first | exact Kf.npl rfl | exact Kf.npl_ints _ | exact Kf.npl_one _ _ | exact Kf.npl_refs _ | assumption)
local macro_rules | `(tactic| walk_at "nn") => `(tactic| first
  | assumption
  | (refine' Kf.Ext.non ?nne ?nnh; (case nne => assumption); (case nnh => walk_at "nn")))
local macro_rules | `(tactic| walk_at "ext") => `(tactic| first
  | assumption
  | exact Kf.Ext.refl
  | (refine' Kf.Ext.newer ?exa ?exn; (case exn => assumption); (case exa => walk_at "ext"))
  | (refine' Kf.Ext.own ?exa ?exn; (case exn => walk_at "nn"); (case exa => walk_at "ext"))
  | (refine' Kf.Ext.trans ?exa ?exb; (case exb => assumption); (case exa => walk_at "ext")))
local macro_rules | `(tactic| walk_at "pool") => `(tactic| first
  | assumption
  | (refine' Kf.PoolAt.ext ?plh ?ple; (case plh => assumption); (case ple => walk_at "ext"))
  | (refine' Kf.PoolAt.upd ?plh ?plo ?pln; (case plo => assumption); (case pln => walk_at "npl"); (case plh => walk_at "pool")))
local macro_rules | `(tactic| walk_at "lk") => `(tactic| first
  | assumption
  | exact L2.upd_same
  | (refine' Kf.upd_old ?lkn ?lkh; (case lkn => assumption); (case lkh => walk_at "lk"))
  | (refine' Kf.upd_oth ?lkn ?lkh; (case lkn => (first | assumption | (apply Ne.symm; assumption))); (case lkh => walk_at "lk"))
  | (refine' Kf.Ext.get ?lke ?lkh ?lkn; (case lke => assumption); (case lkh => walk_at "lk"); (case lkn => walk_at "npl"))
  | (refine' L2.Same.at ?lke ?lkh; (case lke => assumption); (case lkh => walk_at "lk")))
local macro_rules | `(tactic| walk_at "sq") => `(tactic| first
  | assumption
  | (refine' L2.SqL.of ?sqh; (case sqh => walk_at "lk"))
  | (refine' L2.SqT.of ?sqh; (case sqh => walk_at "lk"))
  | (refine' Kf.Ext.seqL ?sqe ?sqh ?sqn; (case sqh => assumption); (case sqe => walk_at "ext"); (case sqn => walk_at "npl"))
  | (refine' Kf.Ext.seqT ?sqe ?sqh; (case sqh => assumption); (case sqe => walk_at "ext")))
local macro_rules | `(tactic| walk_at "at") => `(tactic| first | exact L2.atI_nat (j := 0) rfl | exact L2.atI_nat (j := 1) rfl | exact L2.atI_nat (j := 2) rfl | exact L2.atI_nat (j := 3) rfl | exact L2.atI_nat (j := 4) rfl | assumption)
local macro_rules | `(tactic| walk_at "ixn") => `(tactic| first | exact Kf.ixN_nat (j := 0) rfl | exact Kf.ixN_nat (j := 1) rfl | exact Kf.ixN_nat (j := 2) rfl | exact Kf.ixN_nat (j := 3) rfl | assumption)
local macro_rules | `(tactic| walk_at "set") => `(tactic| (first | (simp only [List.set_cons_succ, List.set_cons_zero]; rfl) | rfl))
local macro_rules | `(tactic| walk_at "om") => `(tactic| first | decide | omega | (simp only [List.length_map, List.length_cons, List.length_nil] at *; omega))
local macro_rules | `(tactic| walk_at "calls") => `(tactic| first
  | (with_reducible refine' Kf.call_take ?clp ?cla ?clb ?clq; (case clp => walk_at "pool"); (case cla => walk_at "om"); (case clb => walk_at "om"); intro r H' hE h0 h1)
  | (with_reducible refine' Kf.call_pool ?cls ?cla ?clq; (case cls => walk_at "sq"); (case cla => walk_at "om"); intro p H' hE hN hP)
  | (with_reducible refine' Kf.call_turn ?cls ?clp ?cla ?clq; (case cls => walk_at "sq"); (case clp => walk_at "pool"); (case cla => walk_at "om"); intro u H' hE hP))
local macro_rules | `(tactic| walk_at "side") => `(tactic| first
  | exact Kf.cmul_fmod (by decide) (by decide)
  | exact rfl
  | decide
  | omega
  | assumption
  | (refine ⟨?_, ?_⟩ <;> decide)
  | (refine ⟨?_, ?_, ?_⟩ <;> decide)
  | (refine ⟨?_, ?_⟩ <;> omega)
  | (refine Or.inl ⟨?_, ?_⟩ <;> decide)
  | (refine Or.inr ⟨?_, ?_⟩ <;> decide)
  | (refine Or.inl ⟨?_, ?_⟩ <;> omega)
  | (refine Or.inr ⟨?_, ?_⟩ <;> omega))
local macro_rules | `(tactic| walk_at "kit") => `(tactic| first | exact Kf.isi_int_int | exact Kf.isi_int_bool | exact Kf.isi_int_str | exact Kf.isi_int_list | exact Kf.isi_int_tuple | exact Kf.isi_bool_int | exact Kf.isi_bool_bool | exact Kf.isi_bool_str | exact Kf.isi_bool_list | exact Kf.isi_bool_tuple | exact Kf.isi_str_int | exact Kf.isi_str_bool | exact Kf.isi_str_str | exact Kf.isi_str_list | exact Kf.isi_str_tuple | exact Kf.isi_non_list | exact Kf.isi_non_tuple | exact Kf.isi_list_list | exact Kf.isi_list_tuple | exact Kf.isi_tuple_list | exact Kf.isi_tuple_tuple | exact Kf.isi_dict_dict)
local macro_rules | `(tactic| walk_at "ty") => `(tactic| first
  | exact L2.TyX.base (L2.TyOf.int _)
  | exact L2.TyX.base (L2.TyOf.bl _)
  | exact L2.TyX.base (L2.TyOf.str _)
  | exact L2.TyX.base L2.TyOf.non
  | (refine' L2.TyX.base (L2.TyOf.lst ?tyh); (case tyh => walk_at "lk"))
  | (refine' L2.TyX.base (L2.TyOf.tup ?tyh); (case tyh => walk_at "lk"))
  | (refine' L2.TyX.base (L2.TyOf.dK ?tyh); (case tyh => walk_at "lk")))
local macro_rules | `(tactic| walk_at "om2") => `(tactic| first | assumption | decide | omega)
local macro_rules | `(tactic| walk_at "st") => `(tactic| with_reducible first
  | (refine Kf.w_var rfl ?_)
  | (refine Kf.w_c ?_)
  | (refine Kf.w_seq ?_)
  | (refine Kf.w_asg ?_)
  | (refine' Kf.w_gname ?sth ?_; (case sth => with_unfolding_all walk_at "set"))
  | (refine Kf.w_op ?_)
  | (refine Kf.w_un ?_)
  | (refine Kf.w_rU ?_)
  | (refine Kf.w_rI0 ?_)
  | (refine' Kf.w_rI ?sth ?_; (case sth => with_unfolding_all walk_at "side"))
  | (refine' Kf.w_rEq ?sth ?_; (case sth => with_unfolding_all rfl))
  | (refine' Kf.w_rNe ?sth ?_; (case sth => with_unfolding_all rfl))
  | (refine Kf.w_tTest ?_)
  | (refine Kf.w_tB ?_)
  | (refine Kf.w_exbl ?_)
  | (refine Kf.w_exint ?_)
  | (refine Kf.w_ifS ?_)
  | (refine Kf.w_ret ?_)
  | (refine Kf.w_retN ?_)
  | (refine Kf.w_drop ?_)
  | (refine Kf.w_and ?_)
  | (refine Kf.w_or ?_)
  | (refine Kf.w_not ?_)
  | (refine Kf.w_andV ?_)
  | (refine Kf.w_orV ?_)
  | (refine Kf.w_notV ?_)
  | (refine Kf.w_if ?_)
  | (refine Kf.w_lc ?_)
  | (refine Kf.w_for ?_)
  | (refine Kf.w_rng1 ?_)
  | (refine' Kf.w_rng1x ?sth ?stg ?_; (case sth => with_unfolding_all walk_at "om"); (case stg => with_unfolding_all walk_at "om"))
  | (refine Kf.w_ilist ?_)
  | (refine Kf.w_iseq ?_)
  | (refine Kf.w_itup ?_)
  | (refine' Kf.w_ilistx ?sth ?_; (case sth => with_unfolding_all walk_at "sq"))
  | (refine' Kf.w_itupx ?sth ?_; (case sth => with_unfolding_all walk_at "sq"))
  | (refine' Kf.w_wipe ?sth ?_; (case sth => with_unfolding_all rfl))
  | (refine Kf.w_yes ?_)
  | (refine' Kf.w_isi ?sth ?stg ?_; (case sth => with_unfolding_all walk_at "ty"); (case stg => walk_at "kit"))
  | (refine Kf.w_isN ?_)
  | (refine Kf.w_notN ?_)
  | (refine Kf.w_cb ?_)
  | (refine Kf.w_nil ?_)
  | (refine Kf.w_cons ?_)
  | (refine Kf.w_tup ?_)
  | (refine Kf.w_lst ?_)
  | (refine' Kf.w_lines ?sth ?_; (case sth => with_unfolding_all rfl))
  | (refine Kf.w_call ?_)
  | (refine Kf.w_next ?_)
  | (refine Kf.w_break ?_)
  | (refine Kf.w_cont ?_)
  | (refine Kf.w_dnewK ?_)
  | (refine Kf.w_dget ?_)
  | (refine Kf.w_sl ?_)
  | (refine Kf.w_nopart ?_)
  | (refine Kf.w_part ?_)
  | (refine Kf.w_bm ?_)
  | (refine Kf.w_bm0 ?_)
  | (refine' Kf.w_bmL ?sth ?_; (case sth => with_unfolding_all walk_at "lk"))
  | (refine' Kf.w_cat ?sth ?stg ?stf ?_; (case sth => with_unfolding_all walk_at "lk"); (case stg => with_unfolding_all walk_at "lk"); (case stf => with_unfolding_all walk_at "om"))
  | (refine' Kf.w_slL ?sth ?_; (case sth => with_unfolding_all walk_at "sq"))
  | (refine' Kf.w_inL ?sth ?_; (case sth => with_unfolding_all walk_at "sq"))
  | (refine' Kf.w_inT ?sth ?_; (case sth => with_unfolding_all walk_at "sq"))
  | (refine' Kf.w_ninL ?sth ?_; (case sth => with_unfolding_all walk_at "sq"))
  | (refine' Kf.w_ninT ?sth ?_; (case sth => with_unfolding_all walk_at "sq"))
  | (refine' Kf.w_listof ?sth ?_; (case sth => with_unfolding_all walk_at "sq"))
  | (refine' Kf.w_tupof ?sth ?_; (case sth => with_unfolding_all walk_at "sq"))
  | (refine Kf.w_listRev ?_)
  | (refine Kf.w_gsub ?_)
  | (refine' Kf.w_ixL ?sth ?stg ?_; (case sth => with_unfolding_all walk_at "sq"); (case stg => with_unfolding_all walk_at "at"))
  | (refine' Kf.w_ixT ?sth ?stg ?_; (case sth => with_unfolding_all walk_at "sq"); (case stg => with_unfolding_all walk_at "at"))
  | (refine' Kf.w_setL ?sth ?stg ?_; (case sth => with_unfolding_all walk_at "lk"); (case stg => with_unfolding_all walk_at "ixn"))
  | (refine' Kf.w_len ?sth ?_; (case sth => with_unfolding_all walk_at "sq"))
  | (refine' Kf.w_lenT ?sth ?_; (case sth => with_unfolding_all walk_at "sq"))
  | (refine Kf.w_int1 ?_)
  | (refine Kf.w_intb ?_)
  | (refine Kf.w_abs ?_)
  | (refine Kf.w_aug rfl ?_)
  | (refine Kf.w_ipI ?_)
  | (refine L2.iteT ?_)
  | (refine L2.iteF ?_)
  | (refine Kf.iteNT ?_)
  | (refine Kf.iteNF ?_)
  | (refine' Kf.ite_decT ?sth ?_; (case sth => exact rfl))
  | (refine' Kf.ite_decF ?sth ?_; (case sth => with_unfolding_all (intro e; cases e; done)))
  | (refine' Kf.ite_ndecF ?sth ?_; (case sth => exact rfl))
  | (refine' Kf.ite_ndecT ?sth ?_; (case sth => with_unfolding_all (intro e; cases e; done)))
  | (refine' Kf.ite_viT ?sth ?_; (case sth => (with_unfolding_all walk_at "om2")))
  | (refine' Kf.ite_viF ?sth ?_; (case sth => (with_unfolding_all walk_at "om2")))
  | (refine' Kf.ite_nviT ?sth ?_; (case sth => (with_unfolding_all walk_at "om2")))
  | (refine' Kf.ite_nviF ?sth ?_; (case sth => (with_unfolding_all walk_at "om2")))
  | (refine' Kf.ite_decT ?sth ?_; (case sth => (with_unfolding_all walk_at "om2")))
  | (refine' Kf.ite_decF ?sth ?_; (case sth => (with_unfolding_all walk_at "om2")))
  | with_unfolding_all walk_at "calls")
local macro_rules | `(tactic| walk_at "go") => `(tactic| repeat walk_at "st")

namespace Kf
open PySem PySem.Spec PyProof.Rows L2
open R6 (cl Over Nodes)
abbrev s_resolve : Stmt := topS 2
abbrev N_resolve : List Str := ["clause", "literal", "other", "one"]
abbrev P_resolve : List Str := ["clause", "literal", "other"]
theorem sc_resolve : FnScope N_resolve P_resolve (defScope s_resolve) := ⟨rfl, rfl, rfl, by decide +kernel, rfl, by decide +kernel, by decide +kernel⟩
abbrev s__law_struck : Stmt := topS 17
abbrev N__law_struck : List Str := ["nodes", "clause", "literal", "other", "rest", "one"]
abbrev P__law_struck : List Str := ["nodes", "clause", "literal", "other"]
theorem sc__law_struck : FnScope N__law_struck P__law_struck (defScope s__law_struck) := ⟨rfl, rfl, rfl, by decide +kernel, rfl, by decide +kernel, by decide +kernel⟩
abbrev s__law_rows : Stmt := topS 18
abbrev N__law_rows : List Str := ["nodes", "rows", "node", "row"]
abbrev P__law_rows : List Str := ["nodes"]
theorem sc__law_rows : FnScope N__law_rows P__law_rows (defScope s__law_rows) := ⟨rfl, rfl, rfl, by decide +kernel, rfl, by decide +kernel, by decide +kernel⟩
abbrev s__law_holds : Stmt := topS 19
abbrev N__law_holds : List Str := ["clause", "row", "literal"]
abbrev P__law_holds : List Str := ["clause", "row"]
theorem sc__law_holds : FnScope N__law_holds P__law_holds (defScope s__law_holds) := ⟨rfl, rfl, rfl, by decide +kernel, rfl, by decide +kernel, by decide +kernel⟩
section
variable {P : Program} {w : World} {K : PySem.W.Frag} {mg : Str → Option Value} {base : Heap} {H : Hp} {Q : VK} {E : XK}
/-- resolve(c, l, o), _law_struck(nodes, c, l, o) -/
def spResolve (K : PySem.W.Frag) : Sp := fun vs H Q _ => ∃ (u v : V) (ns c o : List Int) (l : Int), vs = [u, .int l, v] ∧ Dq H u (.tuple (c.map .int)) ∧ Dq H v (.tuple (o.map .int)) ∧ Nodes ns ∧ ns.length ≤ 60 ∧ Over ns c ∧ Over ns o ∧ c.length ≤ 400 ∧ o.length ≤ 400 ∧
  ∀ r H', Ext H H' → Dq H' r (optD (R6.st ns c l o)) → Q r H'
def spStruck (K : PySem.W.Frag) : Sp := fun vs H Q _ => ∃ (n u v : V) (ns c o : List Int) (l : Int), vs = [n, u, .int l, v] ∧ Dq H n (.list (ns.map .int)) ∧ Dq H u (.tuple (c.map .int)) ∧ Dq H v (.tuple (o.map .int)) ∧ ns.length ≤ 60 ∧ c.length ≤ 400 ∧ o.length ≤ 400 ∧
  ∀ r H', Ext H H' → Dq H' r (optD (R6.st ns c l o)) → Q r H'
theorem st_of {ns c o : List Int} {l : Int} (h1 : l ∈ c) (h2 : -l ∈ o) : R6.st ns c l o = cl ns (c.filter (fun x => decide (x ≠ l)) ++ o.filter (fun x => decide (x ≠ -l))) := by unfold R6.st; rw [if_pos ⟨h1, h2⟩]
theorem st_no {ns c o : List Int} {l : Int} (h : ¬ (l ∈ c ∧ -l ∈ o)) : R6.st ns c l o = none := by unfold R6.st; rw [if_neg h]
theorem over_rest {ns c o : List Int} {l : Int} (h1 : Over ns c) (h2 : Over ns o) : Over ns (c.filter (fun x => decide (x ≠ l)) ++ o.filter (fun x => decide (x ≠ -l))) := fun x hx => by
  rcases List.mem_append.mp hx with z | z
  · exact h1 x (List.mem_filter.mp z).1
  · exact h2 x (List.mem_filter.mp z).1
theorem rest_len {c o : List Int} {p q : Int → Bool} : (c.filter p ++ o.filter q).length ≤ c.length + o.length := by
  rw [List.length_append]
  have := List.length_filter_le p c
  have := List.length_filter_le q o
  omega
theorem filter_take {c : List Int} {p : Int → Bool} {i : Nat} {n : Int} (h : c[i]? = some n) : (c.take (i + 1)).filter p = (c.take i).filter p ++ (if p n then [n] else []) := by
  rw [List.take_add_one, h, List.filter_append]
  show _ ++ List.filter p [n] = _
  rw [List.filter_cons]
  rfl
theorem ok_resolve (D : Df K mg "resolve" s_resolve P_resolve) (p_clause_of : Pr P w K mg base "clause_of" 1 P_clause_of (spClauseOf K)) : Pr P w K mg base "resolve" 2 P_resolve (spResolve K) := by
  refine D.ok sc_resolve (fun vs H Q E h => ?_) (fun f cdv A outer s H vs Q E hr h => ?_)
  · obtain ⟨u, v, ns, c, o, l, rfl, _⟩ := h; rfl
  obtain ⟨u, v, ns, c, o, l, rfl, hu', hv', hn, h60, hc, ho, hcl, hol, q⟩ := h
  obtain ⟨a, rfl, ha⟩ := hu'.ti
  obtain ⟨b, rfl, hb⟩ := hv'.ti
  have nd := sc_resolve.nd
  refine ⟨_, (pss_cons (ps_if (PW.pt (pw_or (pt_cmpR (op_notIn_seqK (K := K) rfl) (pv 1) (pv 0) (by rfl)) (pw_or1 (pt_cmpR (op_notIn_seqK (K := K) rfl) (pe_un un_neg (pv 1)) (pv 2) (by rfl))))) (pss_one (ps_ret pe_non)) pss_nil)
      (pss_one (ps_ret (pe_callP p_clause_of hr (pa_cons (pe_op op_cat (pe_lc (own := [("one", 3)]) rfl nd (pi_tupK (K := K) rfl (pv 0)) (blkOk_by (N := N_resolve) (sc := defScope s_resolve) (by decide +kernel)) (fun _ _ _ _ _ => pg_name (i := 3) nd rfl (Or.inl rfl)) (fun _ _ _ _ _ => pts_one (pt_cmpR op_ne (pv 3) (pv 1) (nomark _))) (fun _ _ _ _ _ => (pv 3))) (pe_lc (own := [("one", 3)]) rfl nd (pi_tupK (K := K) rfl (pv 2)) (blkOk_by (N := N_resolve) (sc := defScope s_resolve) (by decide +kernel)) (fun _ _ _ _ _ => pg_name (i := 3) nd rfl (Or.inl rfl)) (fun _ _ _ _ _ => pts_one (pt_cmpR op_ne (pv 3) (pe_un un_neg (pv 1)) (nomark _))) (fun _ _ _ _ _ => (pv 3)))) pa_nil))))), ?_⟩
  refine w_start (σ := [some _, some _, some _, none]) rfl ?_
  walk_at "go"
  refine ite_nd (fun c1 => ?_) (fun c1 => ?_)
  · walk_at "go"
    refine q _ _ Ext.refl ?_
    rw [st_no (fun z => c1 z.1)]
    exact .non
  · walk_at "go"
    refine ite_nd (fun c2 => ?_) (fun c2 => ?_)
    · walk_at "go"
      refine q _ _ Ext.refl ?_
      rw [st_no (fun z => c2 z.2)]
      exact .non
    · rw [st_of c1 c2] at q
      walk_at "go"
      refine lc_t (R := fun i acc Hd => acc = ((c.take i).filter fun x => decide (x ≠ l)).map V.int) (SqT.of ha) rfl (fun i acc Ha Hb e h => h) ?_ ?_
      · rintro i x acc D2 H3 hx hD2 hacc hE3 rfl
        obtain ⟨n, rfl, hn2⟩ := int_at hx
        have hil : i < c.length := (List.getElem?_eq_some_iff.mp hn2).1
        have hfl : ((c.take i).filter fun x => decide (x ≠ l)).length ≤ i := by have := List.length_filter_le (fun x => decide (x ≠ l)) (c.take i); rw [List.length_take] at this; omega
        walk_at "go"
        refine ite_nvi (fun c3 => ?_) (fun c3 => ?_)
        · walk_at "go"
          refine LcP.put hD2 hacc (npl_ints _) hE3 Ext.refl (by rw [List.length_map]; omega) ?_
          rw [filter_take hn2, if_pos (decide_eq_true c3), List.map_append]
          rfl
        · refine LcP.skip hacc (npl_ints _) hE3 Ext.refl ?_
          rw [filter_take hn2, if_neg (by simp [c3]), List.append_nil]
      · rintro D2 acc H3 hD2 hacc hE3 rfl
        rw [List.length_map, List.take_length] at hacc
        walk_at "go"
        refine lc_t (R := fun i acc Hd => acc = ((o.take i).filter fun x => decide (x ≠ -l)).map V.int) (SqT.of (hE3.get hb (npl rfl))) rfl (fun i acc Ha Hb e h => h) ?_ ?_
        · rintro i x acc D4 H4 hx hD4 hacc4 hE4 rfl
          obtain ⟨n, rfl, hn2⟩ := int_at hx
          have hil : i < o.length := (List.getElem?_eq_some_iff.mp hn2).1
          have hfl : ((o.take i).filter fun x => decide (x ≠ -l)).length ≤ i := by have := List.length_filter_le (fun x => decide (x ≠ -l)) (o.take i); rw [List.length_take] at this; omega
          walk_at "go"
          refine ite_nvi (fun c3 => ?_) (fun c3 => ?_)
          · walk_at "go"
            refine LcP.put hD4 hacc4 (npl_ints _) hE4 Ext.refl (by rw [List.length_map]; omega) ?_
            rw [filter_take hn2, if_pos (decide_eq_true c3), List.map_append]
            rfl
          · refine LcP.skip hacc4 (npl_ints _) hE4 Ext.refl ?_
            rw [filter_take hn2, if_neg (by simp [c3]), List.append_nil]
        · rintro D4 acc H4 hD4 hacc4 hE4 rfl
          rw [List.length_map, List.take_length] at hacc4
          have hrl := rest_len (c := c) (o := o) (p := fun x => decide (x ≠ l)) (q := fun x => decide (x ≠ -l))
          rw [List.length_append] at hrl
          have hacc5 := hE4.get hacc (npl_ints _)
          refine w_cat hacc5 hacc4 (by rw [List.length_map, List.length_map]; omega) ?_
          intro p hp
          walk_at "go"
          refine call_clause_of (ls := c.filter (fun x => decide (x ≠ l)) ++ o.filter (fun x => decide (x ≠ -l))) (.inl (SqL.of (by rw [L2.upd_same, List.map_append]))) hn h60 (over_rest hc ho) (by rw [List.length_append]; omega) fun r H5 hE5 hr5 => ?_
          exact q _ _ (((hE3.trans hE4).newer hp).trans hE5) hr5
theorem ok_struck (D : Df K mg "_law_struck" s__law_struck P__law_struck) (p__law_clause : Pr P w K mg base "_law_clause" 1 P__law_clause (spClause K)) : Pr P w K mg base "_law_struck" 2 P__law_struck (spStruck K) := by
  refine D.ok sc__law_struck (fun vs H Q E h => ?_) (fun f cdv A outer s H vs Q E hr h => ?_)
  · obtain ⟨n, u, v, ns, c, o, l, rfl, _⟩ := h; rfl
  obtain ⟨n, u, v, ns, c, o, l, rfl, hn', hu', hv', h60, hcl, hol, q⟩ := h
  obtain ⟨z, rfl, hz⟩ := hn'.li
  obtain ⟨a, rfl, ha⟩ := hu'.ti
  obtain ⟨b, rfl, hb⟩ := hv'.ti
  have nd := sc__law_struck.nd
  refine ⟨_, (pss_cons (ps_if (PW.pt (pw_or (pt_cmpR (op_notIn_seqK (K := K) rfl) (pv 2) (pv 1) (by rfl)) (pw_or1 (pt_cmpR (op_notIn_seqK (K := K) rfl) (pe_un un_neg (pv 2)) (pv 3) (by rfl))))) (pss_one (ps_ret pe_non)) pss_nil)
      (pss_cons (ps_setLc (i := 4) (own := [("one", 5)]) rfl nd rfl rfl (sw_true rfl rfl rfl (by decide +kernel)) (pi_tupK (K := K) rfl (pv 1)) (blkOk_by (N := N__law_struck) (sc := defScope s__law_struck) (by decide +kernel)) (fun _ _ _ _ _ => pg_name (i := 5) nd rfl (Or.inl rfl)) (fun _ _ _ _ _ => pts_one (pt_cmpR op_ne (pv 5) (pv 2) (nomark _))) (fun _ _ _ _ _ => (pv 5)))
      (pss_one (ps_ret (pe_callP p__law_clause hr (pa_cons (pv 0) (pa_cons (pe_op op_cat (pv 4) (pe_lc (own := [("one", 5)]) rfl nd (pi_tupK (K := K) rfl (pv 3)) (blkOk_by (N := N__law_struck) (sc := defScope s__law_struck) (by decide +kernel)) (fun _ _ _ _ _ => pg_name (i := 5) nd rfl (Or.inl rfl)) (fun _ _ _ _ _ => pts_one (pt_cmpR op_ne (pv 5) (pe_un un_neg (pv 2)) (nomark _))) (fun _ _ _ _ _ => (pv 5)))) pa_nil))))))), ?_⟩
  refine w_start (σ := [some _, some _, some _, some _, none, none]) rfl ?_
  walk_at "go"
  refine ite_nd (fun c1 => ?_) (fun c1 => ?_)
  · walk_at "go"
    refine q _ _ Ext.refl ?_
    rw [st_no (fun z => c1 z.1)]
    exact .non
  · walk_at "go"
    refine ite_nd (fun c2 => ?_) (fun c2 => ?_)
    · walk_at "go"
      refine q _ _ Ext.refl ?_
      rw [st_no (fun z => c2 z.2)]
      exact .non
    · rw [st_of c1 c2] at q
      walk_at "go"
      refine lc_t (R := fun i acc Hd => acc = ((c.take i).filter fun x => decide (x ≠ l)).map V.int) (SqT.of ha) rfl (fun i acc Ha Hb e h => h) ?_ ?_
      · rintro i x acc D2 H3 hx hD2 hacc hE3 rfl
        obtain ⟨n, rfl, hn2⟩ := int_at hx
        have hil : i < c.length := (List.getElem?_eq_some_iff.mp hn2).1
        have hfl : ((c.take i).filter fun x => decide (x ≠ l)).length ≤ i := by have := List.length_filter_le (fun x => decide (x ≠ l)) (c.take i); rw [List.length_take] at this; omega
        walk_at "go"
        refine ite_nvi (fun c3 => ?_) (fun c3 => ?_)
        · walk_at "go"
          refine LcP.put hD2 hacc (npl_ints _) hE3 Ext.refl (by rw [List.length_map]; omega) ?_
          rw [filter_take hn2, if_pos (decide_eq_true c3), List.map_append]
          rfl
        · refine LcP.skip hacc (npl_ints _) hE3 Ext.refl ?_
          rw [filter_take hn2, if_neg (by simp [c3]), List.append_nil]
      · rintro D2 acc H3 hD2 hacc hE3 rfl
        rw [List.length_map, List.take_length] at hacc
        walk_at "go"
        refine lc_t (R := fun i acc Hd => acc = ((o.take i).filter fun x => decide (x ≠ -l)).map V.int) (SqT.of (hE3.get hb (npl rfl))) rfl (fun i acc Ha Hb e h => h) ?_ ?_
        · rintro i x acc D4 H4 hx hD4 hacc4 hE4 rfl
          obtain ⟨n, rfl, hn2⟩ := int_at hx
          have hil : i < o.length := (List.getElem?_eq_some_iff.mp hn2).1
          have hfl : ((o.take i).filter fun x => decide (x ≠ -l)).length ≤ i := by have := List.length_filter_le (fun x => decide (x ≠ -l)) (o.take i); rw [List.length_take] at this; omega
          walk_at "go"
          refine ite_nvi (fun c3 => ?_) (fun c3 => ?_)
          · walk_at "go"
            refine LcP.put hD4 hacc4 (npl_ints _) hE4 Ext.refl (by rw [List.length_map]; omega) ?_
            rw [filter_take hn2, if_pos (decide_eq_true c3), List.map_append]
            rfl
          · refine LcP.skip hacc4 (npl_ints _) hE4 Ext.refl ?_
            rw [filter_take hn2, if_neg (by simp [c3]), List.append_nil]
        · rintro D4 acc H4 hD4 hacc4 hE4 rfl
          rw [List.length_map, List.take_length] at hacc4
          have hrl := rest_len (c := c) (o := o) (p := fun x => decide (x ≠ l)) (q := fun x => decide (x ≠ -l))
          rw [List.length_append] at hrl
          have hacc5 := hE4.get hacc (npl_ints _)
          refine w_cat hacc5 hacc4 (by rw [List.length_map, List.length_map]; omega) ?_
          intro p hp
          have hz5 : upd H4 p (.lst ((c.filter fun x => decide (x ≠ l)).map V.int ++ (o.filter fun x => decide (x ≠ -l)).map V.int)) z = some (.lst (ns.map V.int)) := upd_old hp ((hE3.trans hE4).get hz (npl_ints ns))
          walk_at "go"
          refine call_clause (ls := c.filter (fun x => decide (x ≠ l)) ++ o.filter (fun x => decide (x ≠ -l))) (SqL.of hz5) (SqL.of (by rw [L2.upd_same, List.map_append])) (by omega) fun r H5 hE5 hr5 => ?_
          exact q _ _ (((hE3.trans hE4).newer hp).trans hE5) hr5
end
end Kf

end
section
set_option Elab.async false
set_option linter.all false
set_option maxRecDepth 100000
set_option maxHeartbeats 4000000
local macro_rules | `(tactic| walk_at "npl") => `(tactic| first | exact Kf.npl rfl | exact Kf.npl_ints _ | exact Kf.npl_one _ _ | exact Kf.npl_refs _ | assumption)
local macro_rules | `(tactic| walk_at "nn") => `(tactic| first
  | assumption
  | (refine' Kf.Ext.non ?nne ?nnh; (case nne => assumption); (case nnh => walk_at "nn")))
local macro_rules | `(tactic| walk_at "ext") => `(tactic| first
  | assumption
  | exact Kf.Ext.refl
  | (refine' Kf.Ext.newer ?exa ?exn; (case exn => assumption); (case exa => walk_at "ext"))
  | (refine' Kf.Ext.own ?exa ?exn; (case exn => walk_at "nn"); (case exa => walk_at "ext"))
  | (refine' Kf.Ext.trans ?exa ?exb; (case exb => assumption); (case exa => walk_at "ext")))
local macro_rules | `(tactic| walk_at "pool") => `(tactic| first
  | assumption
  | (refine' Kf.PoolAt.ext ?plh ?ple; (case plh => assumption); (case ple => walk_at "ext"))
  | (refine' Kf.PoolAt.upd ?plh ?plo ?pln; (case plo => assumption); (case pln => walk_at "npl"); (case plh => walk_at "pool")))
local macro_rules | `(tactic| walk_at "lk") => `(tactic| first
  | assumption
  | exact L2.upd_same
  | (refine' Kf.upd_old ?lkn ?lkh; (case lkn => assumption); (case lkh => walk_at "lk"))
  | (refine' Kf.upd_oth ?lkn ?lkh; (case lkn => (first | assumption | (apply Ne.symm; assumption))); (case lkh => walk_at "lk"))
  | (refine' Kf.Ext.get ?lke ?lkh ?lkn; (case lke => assumption); (case lkh => walk_at "lk"); (case lkn => walk_at "npl"))
  | (refine' L2.Same.at ?lke ?lkh; (case lke => assumption); (case lkh => walk_at "lk")))
local macro_rules | `(tactic| walk_at "sq") => `(tactic| first
  | assumption
  | (refine' L2.SqL.of ?sqh; (case sqh => walk_at "lk"))
  | (refine' L2.SqT.of ?sqh; (case sqh => walk_at "lk"))
  | (refine' Kf.Ext.seqL ?sqe ?sqh ?sqn; (case sqh => assumption); (case sqe => walk_at "ext"); (case sqn => walk_at "npl"))
  | (refine' Kf.Ext.seqT ?sqe ?sqh; (case sqh => assumption); (case sqe => walk_at "ext")))
local macro_rules | `(tactic| walk_at "at") => `(tactic| first | exact L2.atI_nat (j := 0) rfl | exact L2.atI_nat (j := 1) rfl | exact L2.atI_nat (j := 2) rfl | exact L2.atI_nat (j := 3) rfl | exact L2.atI_nat (j := 4) rfl | assumption)
local macro_rules | `(tactic| walk_at "ixn") => `(tactic| first | exact Kf.ixN_nat (j := 0) rfl | exact Kf.ixN_nat (j := 1) rfl | exact Kf.ixN_nat (j := 2) rfl | exact Kf.ixN_nat (j := 3) rfl | assumption)
local macro_rules | `(tactic| walk_at "set") => `(tactic| (first | (simp only [List.set_cons_succ, List.set_cons_zero]; rfl) | rfl))
local macro_rules | `(tactic| walk_at "om") => `(tactic| first | decide | omega | (simp only [List.length_map, List.length_cons, List.length_nil] at *; omega))
local macro_rules | `(tactic| walk_at "calls") => `(tactic| first
  | (with_reducible refine' Kf.call_take ?clp ?cla ?clb ?clq; (case clp => walk_at "pool"); (case cla => walk_at "om"); (case clb => walk_at "om"); intro r H' hE h0 h1)
  | (with_reducible refine' Kf.call_pool ?cls ?cla ?clq; (case cls => walk_at "sq"); (case cla => walk_at "om"); intro p H' hE hN hP)
  | (with_reducible refine' Kf.call_turn ?cls ?clp ?cla ?clq; (case cls => walk_at "sq"); (case clp => walk_at "pool"); (case cla => walk_at "om"); intro u H' hE hP))
local macro_rules | `(tactic| walk_at "side") => `(tactic| first
  | exact Kf.cmul_fmod (by decide) (by decide)
  | exact rfl
  | decide
  | omega
  | assumption
  | (refine ⟨?_, ?_⟩ <;> decide)
  | (refine ⟨?_, ?_, ?_⟩ <;> decide)
  | (refine ⟨?_, ?_⟩ <;> omega)
  | (refine Or.inl ⟨?_, ?_⟩ <;> decide)
  | (refine Or.inr ⟨?_, ?_⟩ <;> decide)
  | (refine Or.inl ⟨?_, ?_⟩ <;> omega)
  | (refine Or.inr ⟨?_, ?_⟩ <;> omega))
local macro_rules | `(tactic| walk_at "kit") => `(tactic| first | exact Kf.isi_int_int | exact Kf.isi_int_bool | exact Kf.isi_int_str | exact Kf.isi_int_list | exact Kf.isi_int_tuple | exact Kf.isi_bool_int | exact Kf.isi_bool_bool | exact Kf.isi_bool_str | exact Kf.isi_bool_list | exact Kf.isi_bool_tuple | exact Kf.isi_str_int | exact Kf.isi_str_bool | exact Kf.isi_str_str | exact Kf.isi_str_list | exact Kf.isi_str_tuple | exact Kf.isi_non_list | exact Kf.isi_non_tuple | exact Kf.isi_list_list | exact Kf.isi_list_tuple | exact Kf.isi_tuple_list | exact Kf.isi_tuple_tuple | exact Kf.isi_dict_dict)
local macro_rules | `(tactic| walk_at "ty") => `(tactic| first
  | exact L2.TyX.base (L2.TyOf.int _)
  | exact L2.TyX.base (L2.TyOf.bl _)
  | exact L2.TyX.base (L2.TyOf.str _)
  | exact L2.TyX.base L2.TyOf.non
  | (refine' L2.TyX.base (L2.TyOf.lst ?tyh); (case tyh => walk_at "lk"))
  | (refine' L2.TyX.base (L2.TyOf.tup ?tyh); (case tyh => walk_at "lk"))
  | (refine' L2.TyX.base (L2.TyOf.dK ?tyh); (case tyh => walk_at "lk")))
local macro_rules | `(tactic| walk_at "om2") => `(tactic| first | assumption | decide | omega)
local macro_rules | `(tactic| walk_at "st") => `(tactic| with_reducible first
  | (refine Kf.w_var rfl ?_)
  | (refine Kf.w_c ?_)
  | (refine Kf.w_seq ?_)
  | (refine Kf.w_asg ?_)
  | (refine' Kf.w_gname ?sth ?_; (case sth => with_unfolding_all walk_at "set"))
  | (refine Kf.w_op ?_)
  | (refine Kf.w_un ?_)
  | (refine Kf.w_rU ?_)
  | (refine Kf.w_rI0 ?_)
  | (refine' Kf.w_rI ?sth ?_; (case sth => with_unfolding_all walk_at "side"))
  | (refine' Kf.w_rEq ?sth ?_; (case sth => with_unfolding_all rfl))
  | (refine' Kf.w_rNe ?sth ?_; (case sth => with_unfolding_all rfl))
  | (refine Kf.w_tTest ?_)
  | (refine Kf.w_tB ?_)
  | (refine Kf.w_exbl ?_)
  | (refine Kf.w_exint ?_)
  | (refine Kf.w_ifS ?_)
  | (refine Kf.w_ret ?_)
  | (refine Kf.w_retN ?_)
  | (refine Kf.w_drop ?_)
  | (refine Kf.w_and ?_)
  | (refine Kf.w_or ?_)
  | (refine Kf.w_not ?_)
  | (refine Kf.w_andV ?_)
  | (refine Kf.w_orV ?_)
  | (refine Kf.w_notV ?_)
  | (refine Kf.w_if ?_)
  | (refine Kf.w_lc ?_)
  | (refine Kf.w_for ?_)
  | (refine Kf.w_rng1 ?_)
  | (refine' Kf.w_rng1x ?sth ?stg ?_; (case sth => with_unfolding_all walk_at "om"); (case stg => with_unfolding_all walk_at "om"))
  | (refine Kf.w_ilist ?_)
  | (refine Kf.w_iseq ?_)
  | (refine Kf.w_itup ?_)
  | (refine' Kf.w_ilistx ?sth ?_; (case sth => with_unfolding_all walk_at "sq"))
  | (refine' Kf.w_itupx ?sth ?_; (case sth => with_unfolding_all walk_at "sq"))
  | (refine' Kf.w_wipe ?sth ?_; (case sth => with_unfolding_all rfl))
  | (refine Kf.w_yes ?_)
  | (refine' Kf.w_isi ?sth ?stg ?_; (case sth => with_unfolding_all walk_at "ty"); (case stg => walk_at "kit"))
  | (refine Kf.w_isN ?_)
  | (refine Kf.w_notN ?_)
  | (refine Kf.w_cb ?_)
  | (refine Kf.w_nil ?_)
  | (refine Kf.w_cons ?_)
  | (refine Kf.w_tup ?_)
  | (refine Kf.w_lst ?_)
  | (refine' Kf.w_lines ?sth ?_; (case sth => with_unfolding_all rfl))
  | (refine Kf.w_call ?_)
  | (refine Kf.w_next ?_)
  | (refine Kf.w_break ?_)
  | (refine Kf.w_cont ?_)
  | (refine Kf.w_dnewK ?_)
  | (refine Kf.w_dget ?_)
  | (refine Kf.w_sl ?_)
  | (refine Kf.w_nopart ?_)
  | (refine Kf.w_part ?_)
  | (refine Kf.w_bm ?_)
  | (refine Kf.w_bm0 ?_)
  | (refine' Kf.w_bmL ?sth ?_; (case sth => with_unfolding_all walk_at "lk"))
  | (refine' Kf.w_cat ?sth ?stg ?stf ?_; (case sth => with_unfolding_all walk_at "lk"); (case stg => with_unfolding_all walk_at "lk"); (case stf => with_unfolding_all walk_at "om"))
  | (refine' Kf.w_slL ?sth ?_; (case sth => with_unfolding_all walk_at "sq"))
  | (refine' Kf.w_inL ?sth ?_; (case sth => with_unfolding_all walk_at "sq"))
  | (refine' Kf.w_inT ?sth ?_; (case sth => with_unfolding_all walk_at "sq"))
  | (refine' Kf.w_ninL ?sth ?_; (case sth => with_unfolding_all walk_at "sq"))
  | (refine' Kf.w_ninT ?sth ?_; (case sth => with_unfolding_all walk_at "sq"))
  | (refine' Kf.w_listof ?sth ?_; (case sth => with_unfolding_all walk_at "sq"))
  | (refine' Kf.w_tupof ?sth ?_; (case sth => with_unfolding_all walk_at "sq"))
  | (refine Kf.w_listRev ?_)
  | (refine Kf.w_gsub ?_)
  | (refine' Kf.w_ixL ?sth ?stg ?_; (case sth => with_unfolding_all walk_at "sq"); (case stg => with_unfolding_all walk_at "at"))
  | (refine' Kf.w_ixT ?sth ?stg ?_; (case sth => with_unfolding_all walk_at "sq"); (case stg => with_unfolding_all walk_at "at"))
  | (refine' Kf.w_setL ?sth ?stg ?_; (case sth => with_unfolding_all walk_at "lk"); (case stg => with_unfolding_all walk_at "ixn"))
  | (refine' Kf.w_len ?sth ?_; (case sth => with_unfolding_all walk_at "sq"))
  | (refine' Kf.w_lenT ?sth ?_; (case sth => with_unfolding_all walk_at "sq"))
  | (refine Kf.w_int1 ?_)
  | (refine Kf.w_intb ?_)
  | (refine Kf.w_abs ?_)
  | (refine Kf.w_aug rfl ?_)
  | (refine Kf.w_ipI ?_)
  | (refine L2.iteT ?_)
  | (refine L2.iteF ?_)
  | (refine Kf.iteNT ?_)
  | (refine Kf.iteNF ?_)
  | (refine' Kf.ite_decT ?sth ?_; (case sth => exact rfl))
  | (refine' Kf.ite_decF ?sth ?_; (case sth => with_unfolding_all (intro e; cases e; done)))
  | (refine' Kf.ite_ndecF ?sth ?_; (case sth => exact rfl))
  | (refine' Kf.ite_ndecT ?sth ?_; (case sth => with_unfolding_all (intro e; cases e; done)))
  | (refine' Kf.ite_viT ?sth ?_; (case sth => (with_unfolding_all walk_at "om2")))
  | (refine' Kf.ite_viF ?sth ?_; (case sth => (with_unfolding_all walk_at "om2")))
  | (refine' Kf.ite_nviT ?sth ?_; (case sth => (with_unfolding_all walk_at "om2")))
  | (refine' Kf.ite_nviF ?sth ?_; (case sth => (with_unfolding_all walk_at "om2")))
  | (refine' Kf.ite_decT ?sth ?_; (case sth => (with_unfolding_all walk_at "om2")))
  | (refine' Kf.ite_decF ?sth ?_; (case sth => (with_unfolding_all walk_at "om2")))
  | with_unfolding_all walk_at "calls")
local macro_rules | `(tactic| walk_at "go") => `(tactic| repeat walk_at "st")

namespace Kf
open PySem PySem.Spec PyProof.Rows L2
open R6 (cl Over Nodes)
/-! ### lists of data -/
def isSq : PyData → Prop
  | .list _ => True
  | .tuple _ => True
  | _ => False
theorem DqAll.nobl {H : Hp} : ∀ {vs : List V} {ds : List PyData}, DqAll H vs ds → (∀ d ∈ ds, isSq d) → ∀ x ∈ vs, ∀ b, x ≠ .bl b
  | _, _, .nil, _, x, hx, b, e => by cases hx
  | _, _, .cons h t, hd, x, hx, b, e => by
    rcases List.mem_cons.mp hx with z | z
    · subst z e
      cases h
      exact hd _ List.mem_cons_self
    · exact DqAll.nobl t (fun d hd' => hd d (List.mem_cons_of_mem _ hd')) x z b e
theorem DqAll.npl {H : Hp} {vs : List V} {ds : List PyData} (h : DqAll H vs ds) (hd : ∀ d ∈ ds, isSq d) : ¬ Pl (.lst vs) := npl_nobl (h.nobl hd)
theorem DqAll.snoc {H : Hp} {v : V} {d : PyData} (q : Dq H v d) : ∀ {vs : List V} {ds : List PyData}, DqAll H vs ds → DqAll H (vs ++ [v]) (ds ++ [d])
  | _, _, .nil => .cons q .nil
  | _, _, .cons h t => .cons h (DqAll.snoc q t)
theorem DqAll.append {H : Hp} {ws : List V} {es : List PyData} (q : DqAll H ws es) : ∀ {vs : List V} {ds : List PyData}, DqAll H vs ds → DqAll H (vs ++ ws) (ds ++ es)
  | _, _, .nil => q
  | _, _, .cons h t => .cons h (DqAll.append q t)
theorem DqAll.drop {H : Hp} : ∀ {vs : List V} {ds : List PyData} (n : Nat), DqAll H vs ds → DqAll H (vs.drop n) (ds.drop n)
  | _, _, 0, h => h
  | _, _, _ + 1, .nil => .nil
  | _, _, n + 1, .cons _ t => DqAll.drop n t
theorem DqAll.take {H : Hp} : ∀ {vs : List V} {ds : List PyData} (n : Nat), DqAll H vs ds → DqAll H (vs.take n) (ds.take n)
  | _, _, 0, _ => .nil
  | _, _, _ + 1, .nil => .nil
  | _, _, n + 1, .cons h t => .cons h (DqAll.take n t)
theorem Dq.ls {H : Hp} {v : V} {ds : List PyData} (h : Dq H v (.list ds)) : ∃ a vs, v = .ref a ∧ H a = some (.lst vs) ∧ ¬ Pl (.lst vs) ∧ DqAll H vs ds := by
  cases h with
  | lst h n r => exact ⟨_, _, rfl, h, n, r⟩
abbrev lsD (r : List Int) : PyData := .list (r.map .int)
abbrev tpD (c : List Int) : PyData := .tuple (c.map .int)
theorem sq_ls (rs : List (List Int)) : ∀ d ∈ rs.map lsD, isSq d := fun d hd => by
  obtain ⟨r, _, e⟩ := List.mem_map.mp hd
  subst e; trivial
theorem sq_tp (rs : List (List Int)) : ∀ d ∈ rs.map tpD, isSq d := fun d hd => by
  obtain ⟨r, _, e⟩ := List.mem_map.mp hd
  subst e; trivial
theorem map_at {α : Type} {f : α → PyData} {l : List α} {i : Nat} {d : PyData} (h : (l.map f)[i]? = some d) : ∃ a, l[i]? = some a ∧ d = f a := by
  rw [List.getElem?_map] at h
  cases e : l[i]? with
  | none => rw [e] at h; cases h
  | some a => rw [e] at h; exact ⟨a, rfl, (Option.some.inj h).symm⟩
section
variable {P : Program} {w : World} {K : PySem.W.Frag} {mg : Str → Option Value} {base : Heap} {H : Hp} {Q : VK} {E : XK}
def spHolds (K : PySem.W.Frag) : Sp := fun vs H Q _ => ∃ (u v : V) (c r : List Int), vs = [u, v] ∧ Dq H u (tpD c) ∧ Dq H v (lsD r) ∧ Q (.bl (R6.holds c r)) H
theorem call_holds {u v : V} {c r : List Int} (h1 : Dq H u (tpD c)) (h2 : Dq H v (lsD r)) (q : Q (.bl (R6.holds c r)) H) : spHolds K ([u, v] ++ []) H Q E := ⟨u, v, c, r, rfl, h1, h2, q⟩
theorem ok_holds (D : Df K mg "_law_holds" s__law_holds P__law_holds) : Pr P w K mg base "_law_holds" 1 P__law_holds (spHolds K) := by
  refine D.ok sc__law_holds (fun vs H Q E h => ?_) (fun f cdv A outer s H vs Q E hr h => ?_)
  · obtain ⟨u, v, c, r, rfl, _⟩ := h; rfl
  obtain ⟨u, v, c, r, rfl, h1, h2, q⟩ := h
  obtain ⟨a, rfl, ha⟩ := h1.ti
  obtain ⟨b, rfl, hb⟩ := h2.li
  have nd := sc__law_holds.nd
  refine ⟨_, (pss_cons (ps_for PassesOwn.never rfl (pi_tupK (K := K) rfl (pv 0)) (pg_name (i := 2) nd rfl (Or.inl rfl)) (pss_one (ps_if (pt_cmpR (op_in_seqK (K := K) rfl) (pv 2) (pv 1) (by rfl)) (pss_one (ps_ret pe_bl)) pss_nil)))
      (pss_one (ps_ret pe_bl))), ?_⟩
  refine w_start (σ := [some _, some _, none]) rfl ?_
  walk_at "go"
  refine for_tup (K := K) (a := a) (xs := c.map V.int) (fun i σ H' => ∃ y, σ = [some (.ref a), some (.ref b), y] ∧ H' = H ∧ R6.holds c r = R6.holds (c.drop i) r) ⟨none, rfl, rfl, rfl⟩ (fun i σ H' _ ⟨_, _, e, _⟩ => by subst e; exact SqT.of ha) ?_ ?_
  · rintro i x σ H1 hx ⟨y, rfl, rfl, e⟩
    obtain ⟨n, rfl, hn⟩ := int_at hx
    obtain ⟨hl, en⟩ := List.getElem?_eq_some_iff.mp hn
    rw [List.drop_eq_getElem_cons hl, en] at e
    walk_at "go"
    refine ite_d (fun c1 => ?_) (fun c1 => ?_)
    · walk_at "go"
      have : R6.holds c r = true := by rw [e]; unfold R6.holds; rw [List.any_cons, decide_eq_true c1]; rfl
      rw [this] at q
      exact q
    · walk_at "go"
      refine ⟨_, rfl, rfl, ?_⟩
      rw [e]; unfold R6.holds; rw [List.any_cons, decide_eq_false c1]; rfl
  · rintro σ H1 ⟨y, rfl, rfl, e⟩
    rw [List.length_map, List.drop_length] at e
    walk_at "go"
    rw [e] at q
    exact q
def rowStep (rows : List (List Int)) (n : Int) : List (List Int) := rows.map (· ++ [n]) ++ rows.map (· ++ [-n])
theorem rowStep_len (rows : List (List Int)) (n : Int) : (rowStep rows n).length = 2 * rows.length := by unfold rowStep; rw [List.length_append, List.length_map, List.length_map]; omega
def spRows (K : PySem.W.Frag) : Sp := fun vs H Q _ => ∃ (v : V) (ns : List Int), vs = [v] ∧ Dq H v (lsD ns) ∧ ns.length ≤ 4 ∧ ∀ r H', Ext H H' → Dq H' r (.list ((R6.rowsOf ns).map lsD)) → (R6.rowsOf ns).length ≤ 16 → Q r H'
theorem call_rows {v : V} {ns : List Int} (h1 : Dq H v (lsD ns)) (h2 : ns.length ≤ 4) (q : ∀ r H', Ext H H' → Dq H' r (.list ((R6.rowsOf ns).map lsD)) → (R6.rowsOf ns).length ≤ 16 → Q r H') : spRows K ([v] ++ []) H Q E := ⟨v, ns, rfl, h1, h2, q⟩
theorem ok_rows (D : Df K mg "_law_rows" s__law_rows P__law_rows) : Pr P w K mg base "_law_rows" 1 P__law_rows (spRows K) := by
  refine D.ok sc__law_rows (fun vs H Q E h => ?_) (fun f cdv A outer s H vs Q E hr h => ?_)
  · obtain ⟨v, ns, rfl, _⟩ := h; rfl
  obtain ⟨v, ns, rfl, h1, h4, q⟩ := h
  obtain ⟨a, rfl, ha⟩ := h1.li
  have nd := sc__law_rows.nd
  refine ⟨_, (pss_cons (ps_set (i := 1) nd rfl (Or.inl rfl) (pe_lst (pa_cons (pe_lst pa_nil) pa_nil)))
      (pss_cons (ps_for PassesOwn.never rfl (pi_listK (K := K) rfl (pv 0)) (pg_name (i := 2) nd rfl (Or.inr rfl)) (pss_one (ps_set (i := 1) nd rfl (Or.inl rfl) (pe_op op_cat (pe_lc (own := [("row", 3)]) rfl nd (pi_listK (K := K) rfl (pv 1)) (blkOk_by (N := N__law_rows) (sc := defScope s__law_rows) (by decide +kernel)) (fun _ _ _ _ _ => pg_name (i := 3) nd rfl (Or.inl rfl)) (fun _ _ _ _ _ => pts_nil) (fun _ _ _ _ _ => (pe_op op_cat (pv 3) (pe_lst (pa_cons (pv 2) pa_nil))))) (pe_lc (own := [("row", 3)]) rfl nd (pi_listK (K := K) rfl (pv 1)) (blkOk_by (N := N__law_rows) (sc := defScope s__law_rows) (by decide +kernel)) (fun _ _ _ _ _ => pg_name (i := 3) nd rfl (Or.inl rfl)) (fun _ _ _ _ _ => pts_nil) (fun _ _ _ _ _ => (pe_op op_cat (pv 3) (pe_lst (pa_cons (pe_un un_neg (pv 2)) pa_nil)))))))))
      (pss_one (ps_ret (pv 1))))), ?_⟩
  refine w_start (σ := [some _, none, none, none]) rfl ?_
  walk_at "go"
  intro p hp
  walk_at "go"
  intro p2 hp2
  walk_at "go"
  refine for_list (K := K) (a := a) (xs := ns.map V.int) (fun i σ H' => ∃ (rv : V) (y : Option V) (rows : List (List Int)), σ = [some (.ref a), some rv, y, none] ∧ Ext H H' ∧ Dq H' rv (.list (rows.map lsD)) ∧ rows.length = 2 ^ i ∧ rows = (ns.take i).foldl rowStep [[]])
    ⟨.ref p2, none, [[]], rfl, (Ext.new hp).newer hp2, .lst L2.upd_same (npl rfl) (.cons (.lst (upd_old hp2 L2.upd_same) npl_nil .nil) .nil), rfl, rfl⟩ (fun i σ H' _ ⟨_, _, _, _, e, _⟩ => e.seqL (SqL.of ha) (npl_ints ns)) ?_ ?_
  · rintro i x σ H1 hx ⟨rv, y, rows, rfl, hE, hd, hlen, hrows⟩
    obtain ⟨n, rfl, hn⟩ := int_at hx
    obtain ⟨b, vs, rfl, hb, nb, hall⟩ := hd.ls
    have hil : i < ns.length := (List.getElem?_eq_some_iff.mp hn).1
    have hl8 : rows.length ≤ 8 := by
      rw [hlen]
      exact Nat.pow_le_pow_right (n := 2) (by decide) (show i ≤ 3 by omega)
    have evl : vs.length = rows.length := by rw [hall.len, List.length_map]
    have etk : ns.take (i + 1) = ns.take i ++ [n] := by rw [List.take_add_one, hn]; rfl
    have step : ∀ (s : Int) (H1 : Hp) (D2 : Addr) (H3 : Hp) (i : Nat) (x : V) (acc : List V), vs[i]? = some x → DqAll H1 vs (rows.map lsD) → H1 D2 = none → H3 D2 = some (.lst acc) → Ext H1 H3 → DqAll (del H3 D2) acc ((rows.take i).map fun r => lsD (r ++ [s])) → ∃ (b : Addr) (r : List Int), x = .ref b ∧ H3 b = some (.lst (r.map V.int)) ∧ r.length + 1 ≤ 1000 ∨ True := fun _ _ _ _ _ _ _ _ _ _ _ _ _ => ⟨0, [], .inr trivial⟩
    have rlen : ∀ r ∈ rows, r.length ≤ 4 := by
      have : ∀ (l : List Int) (rs : List (List Int)) (k : Nat), (∀ r ∈ rs, r.length ≤ k) → ∀ r ∈ l.foldl rowStep rs, r.length ≤ k + l.length := by
        intro l
        induction l with
        | nil => intro rs k h r hr; exact h r hr
        | cons z l ih =>
          intro rs k h r hr
          have := ih (rowStep rs z) (k + 1) (fun r' hr' => by
            unfold rowStep at hr'
            rcases List.mem_append.mp hr' with m | m <;>
            · obtain ⟨r0, h0, e⟩ := List.mem_map.mp m
              have := h r0 h0
              rw [← e, List.length_append, List.length_singleton]
              omega) r hr
          rw [List.length_cons]; omega
      intro r hr
      rw [hrows] at hr
      have := this _ _ 0 (by simp) r hr
      rw [List.length_take] at this
      omega
    walk_at "go"
    refine lc_l (R := fun i acc Hd => DqAll Hd acc ((rows.take i).map fun r => lsD (r ++ [n]))) (SqL.of hb) nb .nil (fun i acc Ha Hb e h => h.ext e) ?_ ?_
    · intro j x acc D2 H3 hx2 hD2 hacc hE3 hR
      obtain ⟨d, hd2, hq⟩ := hall.get hx2
      obtain ⟨r, hr2, rfl⟩ := map_at hd2
      obtain ⟨c, rfl, hc⟩ := (hq.ext hE3).li
      have hrl := rlen r (List.mem_of_getElem? hr2)
      have hjl : j < rows.length := (List.getElem?_eq_some_iff.mp hr2).1
      have hal : acc.length ≤ 1000 := by rw [hR.len, List.length_map, List.length_take]; omega
      have hnp : ¬ Pl (.lst acc) := hR.npl fun d hd => by
        obtain ⟨_, _, e⟩ := List.mem_map.mp hd
        subst e; trivial
      walk_at "go"
      intro t ht
      refine w_cat (upd_old ht hc) L2.upd_same (by rw [List.length_map, List.length_singleton]; omega) ?_
      intro t2 ht2
      have hEn : Ext H3 (upd (upd H3 t (.lst [.int n])) t2 (.lst (r.map V.int ++ [.int n]))) := (Ext.new ht).newer ht2
      refine LcP.put hD2 hacc hnp hE3 hEn hal ?_
      rw [List.take_add_one, hr2, List.map_append]
      refine (hR.ext (Ext.del hEn)).snoc ?_
      refine Dq.of_li (del_at (by rw [L2.upd_same, List.map_append]; rfl) fun e => ?_)
      subst e
      rw [upd_old ht hacc] at ht2
      cases ht2
    · rintro D2 acc H3 hD2 hacc hE3 hR
      rw [evl, List.take_length] at hR
      walk_at "go"
      refine lc_l (R := fun i acc Hd => DqAll Hd acc ((rows.take i).map fun r => lsD (r ++ [-n]))) (SqL.of (hE3.get hb nb)) nb .nil (fun i acc Ha Hb e h => h.ext e) ?_ ?_
      · intro j x acc2 D4 H4 hx2 hD4 hacc4 hE4 hR4
        obtain ⟨d, hd2, hq⟩ := hall.get hx2
        obtain ⟨r, hr2, rfl⟩ := map_at hd2
        obtain ⟨c, rfl, hc⟩ := (hq.ext (hE3.trans hE4)).li
        have hrl := rlen r (List.mem_of_getElem? hr2)
        have hjl : j < rows.length := (List.getElem?_eq_some_iff.mp hr2).1
        have hal : acc2.length ≤ 1000 := by rw [hR4.len, List.length_map, List.length_take]; omega
        have hnp : ¬ Pl (.lst acc2) := hR4.npl fun d hd => by
          obtain ⟨_, _, e⟩ := List.mem_map.mp hd
          subst e; trivial
        walk_at "go"
        intro t ht
        refine w_cat (upd_old ht hc) L2.upd_same (by rw [List.length_map, List.length_singleton]; omega) ?_
        intro t2 ht2
        have hEn : Ext H4 (upd (upd H4 t (.lst [.int (-n)])) t2 (.lst (r.map V.int ++ [.int (-n)]))) := (Ext.new ht).newer ht2
        refine LcP.put hD4 hacc4 hnp hE4 hEn hal ?_
        rw [List.take_add_one, hr2, List.map_append]
        refine (hR4.ext (Ext.del hEn)).snoc ?_
        refine Dq.of_li (del_at (by rw [L2.upd_same, List.map_append]; rfl) fun e => ?_)
        subst e
        rw [upd_old ht hacc4] at ht2
        cases ht2
      · rintro D4 acc2 H4 hD4 hacc4 hE4 hR4
        rw [evl, List.take_length] at hR4
        have n1 : ¬ Pl (.lst acc) := hR.npl fun d hd => by
          obtain ⟨_, _, e⟩ := List.mem_map.mp hd
          subst e; trivial
        have l1 := hR.len
        have l2 := hR4.len
        rw [List.length_map] at l1 l2
        refine w_cat (hE4.get hacc n1) hacc4 (by omega) ?_
        intro t ht
        walk_at "go"
        have hall2 := DqAll.append hR4 (hR.ext hE4)
        refine ⟨.ref t, some (.int n), rowStep rows n, rfl, ((hE.trans hE3).trans hE4).newer ht, ?_, by rw [rowStep_len, hlen, Nat.pow_succ]; omega, by rw [etk, List.foldl_append, ← hrows]; rfl⟩
        have e : (rowStep rows n).map lsD = (rows.map fun r => lsD (r ++ [n])) ++ (rows.map fun r => lsD (r ++ [-n])) := by
          unfold rowStep
          rw [List.map_append, List.map_map, List.map_map]
          rfl
        rw [e]
        refine .lst L2.upd_same (hall2.npl fun d hd => ?_) (hall2.ext (Ext.new ht))
        rcases List.mem_append.mp hd with z | z <;>
        · obtain ⟨_, _, e⟩ := List.mem_map.mp z
          subst e; trivial
  · rintro σ H1 ⟨rv, y, rows, rfl, hE, hd, hlen, hrows⟩
    rw [List.length_map] at hlen hrows
    rw [List.take_length] at hrows
    walk_at "go"
    have e : rows = R6.rowsOf ns := hrows
    subst e
    refine q _ _ hE hd ?_
    rw [hlen]
    exact Nat.pow_le_pow_right (n := 2) (by decide) h4
end
end Kf

end
section
set_option Elab.async false
set_option linter.all false
set_option maxRecDepth 100000
set_option maxHeartbeats 4000000
local macro_rules | `(tactic| walk_at "npl") => `(tactic| first | exact Kf.npl rfl | exact Kf.npl_ints _ | exact Kf.npl_one _ _ | exact Kf.npl_refs _ | assumption)
local macro_rules | `(tactic| walk_at "nn") => `(tactic| first
  | assumption
  | (refine' Kf.Ext.non ?nne ?nnh; (case nne => assumption); (case nnh => walk_at "nn")))
local macro_rules | `(tactic| walk_at "ext") => `(tactic| first
  | assumption
  | exact Kf.Ext.refl
  | (refine' Kf.Ext.newer ?exa ?exn; (case exn => assumption); (case exa => walk_at "ext"))
  | (refine' Kf.Ext.own ?exa ?exn; (case exn => walk_at "nn"); (case exa => walk_at "ext"))
  | (refine' Kf.Ext.trans ?exa ?exb; (case exb => assumption); (case exa => walk_at "ext")))
local macro_rules | `(tactic| walk_at "pool") => `(tactic| first
  | assumption
  | (refine' Kf.PoolAt.ext ?plh ?ple; (case plh => assumption); (case ple => walk_at "ext"))
  | (refine' Kf.PoolAt.upd ?plh ?plo ?pln; (case plo => assumption); (case pln => walk_at "npl"); (case plh => walk_at "pool")))
local macro_rules | `(tactic| walk_at "lk") => `(tactic| first
  | assumption
  | exact L2.upd_same
  | (refine' Kf.upd_old ?lkn ?lkh; (case lkn => assumption); (case lkh => walk_at "lk"))
  | (refine' Kf.upd_oth ?lkn ?lkh; (case lkn => (first | assumption | (apply Ne.symm; assumption))); (case lkh => walk_at "lk"))
  | (refine' Kf.Ext.get ?lke ?lkh ?lkn; (case lke => assumption); (case lkh => walk_at "lk"); (case lkn => walk_at "npl"))
  | (refine' L2.Same.at ?lke ?lkh; (case lke => assumption); (case lkh => walk_at "lk")))
local macro_rules | `(tactic| walk_at "sq") => `(tactic| first
  | assumption
  | (refine' L2.SqL.of ?sqh; (case sqh => walk_at "lk"))
  | (refine' L2.SqT.of ?sqh; (case sqh => walk_at "lk"))
  | (refine' Kf.Ext.seqL ?sqe ?sqh ?sqn; (case sqh => assumption); (case sqe => walk_at "ext"); (case sqn => walk_at "npl"))
  | (refine' Kf.Ext.seqT ?sqe ?sqh; (case sqh => assumption); (case sqe => walk_at "ext")))
local macro_rules | `(tactic| walk_at "at") => `(tactic| first | exact L2.atI_nat (j := 0) rfl | exact L2.atI_nat (j := 1) rfl | exact L2.atI_nat (j := 2) rfl | exact L2.atI_nat (j := 3) rfl | exact L2.atI_nat (j := 4) rfl | assumption)
local macro_rules | `(tactic| walk_at "ixn") => `(tactic| first | exact Kf.ixN_nat (j := 0) rfl | exact Kf.ixN_nat (j := 1) rfl | exact Kf.ixN_nat (j := 2) rfl | exact Kf.ixN_nat (j := 3) rfl | assumption)
local macro_rules | `(tactic| walk_at "set") => `(tactic| (first | (simp only [List.set_cons_succ, List.set_cons_zero]; rfl) | rfl))
local macro_rules | `(tactic| walk_at "om") => `(tactic| first | decide | omega | (simp only [List.length_map, List.length_cons, List.length_nil] at *; omega))
local macro_rules | `(tactic| walk_at "calls") => `(tactic| first
  | (with_reducible refine' Kf.call_take ?clp ?cla ?clb ?clq; (case clp => walk_at "pool"); (case cla => walk_at "om"); (case clb => walk_at "om"); intro r H' hE h0 h1)
  | (with_reducible refine' Kf.call_pool ?cls ?cla ?clq; (case cls => walk_at "sq"); (case cla => walk_at "om"); intro p H' hE hN hP)
  | (with_reducible refine' Kf.call_turn ?cls ?clp ?cla ?clq; (case cls => walk_at "sq"); (case clp => walk_at "pool"); (case cla => walk_at "om"); intro u H' hE hP))
local macro_rules | `(tactic| walk_at "side") => `(tactic| first
  | exact Kf.cmul_fmod (by decide) (by decide)
  | exact rfl
  | decide
  | omega
  | assumption
  | (refine ⟨?_, ?_⟩ <;> decide)
  | (refine ⟨?_, ?_, ?_⟩ <;> decide)
  | (refine ⟨?_, ?_⟩ <;> omega)
  | (refine Or.inl ⟨?_, ?_⟩ <;> decide)
  | (refine Or.inr ⟨?_, ?_⟩ <;> decide)
  | (refine Or.inl ⟨?_, ?_⟩ <;> omega)
  | (refine Or.inr ⟨?_, ?_⟩ <;> omega))
local macro_rules | `(tactic| walk_at "kit") => `(tactic| first | exact Kf.isi_int_int | exact Kf.isi_int_bool | exact Kf.isi_int_str | exact Kf.isi_int_list | exact Kf.isi_int_tuple | exact Kf.isi_bool_int | exact Kf.isi_bool_bool | exact Kf.isi_bool_str | exact Kf.isi_bool_list | exact Kf.isi_bool_tuple | exact Kf.isi_str_int | exact Kf.isi_str_bool | exact Kf.isi_str_str | exact Kf.isi_str_list | exact Kf.isi_str_tuple | exact Kf.isi_non_list | exact Kf.isi_non_tuple | exact Kf.isi_list_list | exact Kf.isi_list_tuple | exact Kf.isi_tuple_list | exact Kf.isi_tuple_tuple | exact Kf.isi_dict_dict)
local macro_rules | `(tactic| walk_at "ty") => `(tactic| first
  | exact L2.TyX.base (L2.TyOf.int _)
  | exact L2.TyX.base (L2.TyOf.bl _)
  | exact L2.TyX.base (L2.TyOf.str _)
  | exact L2.TyX.base L2.TyOf.non
  | (refine' L2.TyX.base (L2.TyOf.lst ?tyh); (case tyh => walk_at "lk"))
  | (refine' L2.TyX.base (L2.TyOf.tup ?tyh); (case tyh => walk_at "lk"))
  | (refine' L2.TyX.base (L2.TyOf.dK ?tyh); (case tyh => walk_at "lk")))
local macro_rules | `(tactic| walk_at "om2") => `(tactic| first | assumption | decide | omega)
local macro_rules | `(tactic| walk_at "st") => `(tactic| with_reducible first
  | (refine Kf.w_var rfl ?_)
  | (refine Kf.w_c ?_)
  | (refine Kf.w_seq ?_)
  | (refine Kf.w_asg ?_)
  | (refine' Kf.w_gname ?sth ?_; (case sth => with_unfolding_all walk_at "set"))
  | (refine Kf.w_op ?_)
  | (refine Kf.w_un ?_)
  | (refine Kf.w_rU ?_)
  | (refine Kf.w_rI0 ?_)
  | (refine' Kf.w_rI ?sth ?_; (case sth => with_unfolding_all walk_at "side"))
  | (refine' Kf.w_rEq ?sth ?_; (case sth => with_unfolding_all rfl))
  | (refine' Kf.w_rNe ?sth ?_; (case sth => with_unfolding_all rfl))
  | (refine Kf.w_tTest ?_)
  | (refine Kf.w_tB ?_)
  | (refine Kf.w_exbl ?_)
  | (refine Kf.w_exint ?_)
  | (refine Kf.w_ifS ?_)
  | (refine Kf.w_ret ?_)
  | (refine Kf.w_retN ?_)
  | (refine Kf.w_drop ?_)
  | (refine Kf.w_and ?_)
  | (refine Kf.w_or ?_)
  | (refine Kf.w_not ?_)
  | (refine Kf.w_andV ?_)
  | (refine Kf.w_orV ?_)
  | (refine Kf.w_notV ?_)
  | (refine Kf.w_if ?_)
  | (refine Kf.w_lc ?_)
  | (refine Kf.w_for ?_)
  | (refine Kf.w_rng1 ?_)
  | (refine' Kf.w_rng1x ?sth ?stg ?_; (case sth => with_unfolding_all walk_at "om"); (case stg => with_unfolding_all walk_at "om"))
  | (refine Kf.w_ilist ?_)
  | (refine Kf.w_iseq ?_)
  | (refine Kf.w_itup ?_)
  | (refine' Kf.w_ilistx ?sth ?_; (case sth => with_unfolding_all walk_at "sq"))
  | (refine' Kf.w_itupx ?sth ?_; (case sth => with_unfolding_all walk_at "sq"))
  | (refine' Kf.w_wipe ?sth ?_; (case sth => with_unfolding_all rfl))
  | (refine Kf.w_yes ?_)
  | (refine' Kf.w_isi ?sth ?stg ?_; (case sth => with_unfolding_all walk_at "ty"); (case stg => walk_at "kit"))
  | (refine Kf.w_isN ?_)
  | (refine Kf.w_notN ?_)
  | (refine Kf.w_cb ?_)
  | (refine Kf.w_nil ?_)
  | (refine Kf.w_cons ?_)
  | (refine Kf.w_tup ?_)
  | (refine Kf.w_lst ?_)
  | (refine' Kf.w_lines ?sth ?_; (case sth => with_unfolding_all rfl))
  | (refine Kf.w_call ?_)
  | (refine Kf.w_next ?_)
  | (refine Kf.w_break ?_)
  | (refine Kf.w_cont ?_)
  | (refine Kf.w_dnewK ?_)
  | (refine Kf.w_dget ?_)
  | (refine Kf.w_sl ?_)
  | (refine Kf.w_nopart ?_)
  | (refine Kf.w_part ?_)
  | (refine Kf.w_bm ?_)
  | (refine Kf.w_bm0 ?_)
  | (refine' Kf.w_bmL ?sth ?_; (case sth => with_unfolding_all walk_at "lk"))
  | (refine' Kf.w_cat ?sth ?stg ?stf ?_; (case sth => with_unfolding_all walk_at "lk"); (case stg => with_unfolding_all walk_at "lk"); (case stf => with_unfolding_all walk_at "om"))
  | (refine' Kf.w_slL ?sth ?_; (case sth => with_unfolding_all walk_at "sq"))
  | (refine' Kf.w_inL ?sth ?_; (case sth => with_unfolding_all walk_at "sq"))
  | (refine' Kf.w_inT ?sth ?_; (case sth => with_unfolding_all walk_at "sq"))
  | (refine' Kf.w_ninL ?sth ?_; (case sth => with_unfolding_all walk_at "sq"))
  | (refine' Kf.w_ninT ?sth ?_; (case sth => with_unfolding_all walk_at "sq"))
  | (refine' Kf.w_listof ?sth ?_; (case sth => with_unfolding_all walk_at "sq"))
  | (refine' Kf.w_tupof ?sth ?_; (case sth => with_unfolding_all walk_at "sq"))
  | (refine Kf.w_listRev ?_)
  | (refine Kf.w_gsub ?_)
  | (refine' Kf.w_ixL ?sth ?stg ?_; (case sth => with_unfolding_all walk_at "sq"); (case stg => with_unfolding_all walk_at "at"))
  | (refine' Kf.w_ixT ?sth ?stg ?_; (case sth => with_unfolding_all walk_at "sq"); (case stg => with_unfolding_all walk_at "at"))
  | (refine' Kf.w_setL ?sth ?stg ?_; (case sth => with_unfolding_all walk_at "lk"); (case stg => with_unfolding_all walk_at "ixn"))
  | (refine' Kf.w_len ?sth ?_; (case sth => with_unfolding_all walk_at "sq"))
  | (refine' Kf.w_lenT ?sth ?_; (case sth => with_unfolding_all walk_at "sq"))
  | (refine Kf.w_int1 ?_)
  | (refine Kf.w_intb ?_)
  | (refine Kf.w_abs ?_)
  | (refine Kf.w_aug rfl ?_)
  | (refine Kf.w_ipI ?_)
  | (refine L2.iteT ?_)
  | (refine L2.iteF ?_)
  | (refine Kf.iteNT ?_)
  | (refine Kf.iteNF ?_)
  | (refine' Kf.ite_decT ?sth ?_; (case sth => exact rfl))
  | (refine' Kf.ite_decF ?sth ?_; (case sth => with_unfolding_all (intro e; cases e; done)))
  | (refine' Kf.ite_ndecF ?sth ?_; (case sth => exact rfl))
  | (refine' Kf.ite_ndecT ?sth ?_; (case sth => with_unfolding_all (intro e; cases e; done)))
  | (refine' Kf.ite_viT ?sth ?_; (case sth => (with_unfolding_all walk_at "om2")))
  | (refine' Kf.ite_viF ?sth ?_; (case sth => (with_unfolding_all walk_at "om2")))
  | (refine' Kf.ite_nviT ?sth ?_; (case sth => (with_unfolding_all walk_at "om2")))
  | (refine' Kf.ite_nviF ?sth ?_; (case sth => (with_unfolding_all walk_at "om2")))
  | (refine' Kf.ite_decT ?sth ?_; (case sth => (with_unfolding_all walk_at "om2")))
  | (refine' Kf.ite_decF ?sth ?_; (case sth => (with_unfolding_all walk_at "om2")))
  | with_unfolding_all walk_at "calls")
local macro_rules | `(tactic| walk_at "go") => `(tactic| repeat walk_at "st")

namespace Kf
open PySem PySem.Spec PyProof.Rows L2
open R6 (cl Over Nodes Cs)
/-! ### clauses among clauses -/
theorem lay_ints : ∀ ns : List Int, PyData.canLayAll0 (ns.map PyData.int) = true
  | [] => by simp [PyData.canLayAll0]
  | n :: r => by simp [PyData.canLayAll0, PyData.canLay0, lay_ints r]
theorem dep_ints : ∀ ns : List Int, PyData.depthAll (ns.map PyData.int) = 0
  | [] => by simp [PyData.depthAll]
  | n :: r => by simp [PyData.depthAll, PyData.depth, dep_ints r]
theorem shaped_tp (c : List Int) : SeqAt.shaped (tpD c) = true := by
  unfold SeqAt.shaped
  simp [PyData.canLay0, PyData.depth, lay_ints, dep_ints]
theorem lay_tps : ∀ cs : List (List Int), PyData.canLayAll0 (cs.map tpD) = true
  | [] => by simp [PyData.canLayAll0]
  | n :: r => by simp [PyData.canLayAll0, PyData.canLay0, lay_tps r, lay_ints]
theorem dep_tps : ∀ cs : List (List Int), PyData.depthAll (cs.map tpD) ≤ 1
  | [] => by simp [PyData.depthAll]
  | n :: r => by
    have := dep_tps r
    simp only [List.map_cons, PyData.depthAll, PyData.depth, dep_ints]
    omega
theorem shaped_tps (cs : List (List Int)) : SeqAt.shaped (.list (cs.map tpD)) = true := by
  unfold SeqAt.shaped
  rw [Bool.and_eq_true]
  refine ⟨by simp [PyData.canLay0, lay_tps], decide_eq_true ?_⟩
  have := dep_tps cs
  simp only [PyData.depth]
  omega
theorem any_tp (d : List Int) : ∀ cs : List (List Int), ((cs.map tpD).any fun z => PyData.eqv z (tpD d)) = decide (d ∈ cs)
  | [] => by simp
  | c :: r => by
    rw [List.map_cons, List.any_cons, any_tp d r]
    have e : PyData.eqv (tpD c) (tpD d) = decide (c = d) := by
      simp only [PyData.eqv]
      exact PySem.W.ked_eqvAll c d
    rw [e, ← Bool.decide_or]
    simp only [List.mem_cons, eq_comm]
section
variable {K : PySem.W.Frag} {H : Hp} {Q : VK}
theorem w_ninD {x : V} {c : Addr} {vs : List V} {d : List Int} {cs : List (List Int)} (h1 : Dq H x (tpD d)) (h2 : H c = some (.lst vs)) (h3 : DqAll H vs (cs.map tpD)) (q : Q (.bl (!decide (d ∈ cs))) H) : rNotInD K x (.ref c) H Q :=
  ⟨_, _, h1.dp, .lst (SqL.of h2) h3.dp, shaped_tp d, shaped_tps cs, by rw [any_tp]; exact q⟩
theorem w_inD {x : V} {c : Addr} {vs : List V} {d : List Int} {cs : List (List Int)} (h1 : Dq H x (tpD d)) (h2 : H c = some (.lst vs)) (h3 : DqAll H vs (cs.map tpD)) (q : Q (.bl (decide (d ∈ cs))) H) : rInD K x (.ref c) H Q :=
  ⟨_, _, h1.dp, .lst (SqL.of h2) h3.dp, shaped_tp d, shaped_tps cs, by rw [any_tp]; exact q⟩
end
/-- an own list of clauses stands at a -/
def Own (H : Hp) (a : Addr) (cs : List (List Int)) : Prop := ∃ vs, H a = some (.lst vs) ∧ DqAll (del H a) vs (cs.map tpD)
theorem Own.ext {H H' : Hp} {a : Addr} {cs : List (List Int)} (o : Own H a cs) (e : Ext H H') : Own H' a cs := by
  obtain ⟨vs, h, r⟩ := o
  exact ⟨vs, e.get h (r.npl (sq_tp cs)), r.ext (Ext.del e)⟩
theorem Dq.del_tp {H : Hp} {v : V} {c : List Int} {a : Addr} {vs : List V} (h : Dq H v (tpD c)) (ha : H a = some (.lst vs)) : Dq (del H a) v (tpD c) := by
  obtain ⟨p, rfl, hp⟩ := h.ti
  exact Dq.of_ti (del_at hp (ne_of hp ha (by intro z; cases z)))
/-- all but the list at a stands -/
def ExtB (a : Addr) (H H' : Hp) : Prop := Ext (del H a) (del H' a)
theorem ExtB.trans {a : Addr} {H H1 H2 : Hp} (x : ExtB a H H1) (y : ExtB a H1 H2) : ExtB a H H2 := Ext.trans x y
theorem ExtB.of {a : Addr} {H H' : Hp} (e : Ext H H') : ExtB a H H' := Ext.del e
theorem ExtB.put {a : Addr} {H : Hp} {o : HO} : ExtB a H (upd H a o) := by unfold ExtB; rw [del_upd]; exact Ext.refl
section
variable {P : Program} {w : World} {K : PySem.W.Frag} {mg : Str → Option Value} {base : Heap} {H : Hp} {Q : VK} {E : XK}
def spPair (K : PySem.W.Frag) : Sp := fun vs H Q _ => ∃ (n u v : V) (cA : Addr) (ns c o : List Int) (cs : List (List Int)), vs = [n, .ref cA, u, v] ∧ Own H cA cs ∧ Cs ns cs ∧ Nodes ns ∧ ns.length ≤ 4 ∧ Dq (del H cA) n (lsD ns) ∧ Dq H u (tpD c) ∧ Dq H v (tpD o) ∧ Over ns c ∧ Over ns o ∧ c.length ≤ 400 ∧ o.length ≤ 400 ∧
  ∀ H', ExtB cA H H' → Own H' cA (R6.pairGo ns c o cs c) → Q (.bl true) H'
theorem call_pair {n u v : V} {cA : Addr} {ns c o : List Int} {cs : List (List Int)} (h1 : Own H cA cs) (h2 : Cs ns cs) (h3 : Nodes ns) (h4 : ns.length ≤ 4) (h5 : Dq (del H cA) n (lsD ns)) (h6 : Dq H u (tpD c)) (h7 : Dq H v (tpD o)) (h8 : Over ns c) (h9 : Over ns o) (h10 : c.length ≤ 400) (h11 : o.length ≤ 400)
    (q : ∀ H', ExtB cA H H' → Own H' cA (R6.pairGo ns c o cs c) → Q (.bl true) H') : spPair K ([n, .ref cA, u, v] ++ []) H Q E := ⟨n, u, v, cA, ns, c, o, cs, rfl, h1, h2, h3, h4, h5, h6, h7, h8, h9, h10, h11, q⟩
end
abbrev s__law_pair : Stmt := topS 20
abbrev N__law_pair : List Str := ["nodes", "clauses", "one", "two", "literal", "due"]
abbrev P__law_pair : List Str := ["nodes", "clauses", "one", "two"]
theorem sc__law_pair : FnScope N__law_pair P__law_pair (defScope s__law_pair) := ⟨rfl, rfl, rfl, by decide +kernel, rfl, by decide +kernel, by decide +kernel⟩
section
variable {P : Program} {w : World} {K : PySem.W.Frag} {mg : Str → Option Value} {base : Heap} {H : Hp} {Q : VK} {E : XK}
theorem sm_tp {c : List Int} (h : c.length ≤ 1000) : Sm 1 (tpD c) := ⟨by rw [List.length_map]; exact h, fun d hd => by
  obtain ⟨_, _, e⟩ := List.mem_map.mp hd
  subst e; trivial⟩
theorem sm_opt {o : Option (List Int)} (h : ∀ c, o = some c → c.length ≤ 1000) : Sm 1 (optD o) := by
  cases o with
  | none => trivial
  | some c => exact sm_tp (h c rfl)
theorem cl_len {ls : List Int} : ∀ {ns c : List Int}, cl ns ls = some c → c.length ≤ ns.length
  | [], c, h => by
    simp only [cl, Option.some.injEq] at h
    subst h; exact Nat.le_refl _
  | n :: r, c, h => by
    unfold cl at h
    split at h
    · cases h
    · obtain ⟨c', hc, e⟩ := Option.map_eq_some_iff.mp h
      have := cl_len hc
      subst e
      split
      · rw [List.length_cons, List.length_cons]; omega
      · split
        · rw [List.length_cons, List.length_cons]; omega
        · rw [List.length_cons]; omega
theorem st_len {ns c o d : List Int} {l : Int} (h : R6.st ns c l o = some d) : d.length ≤ ns.length := by
  unfold R6.st at h
  split at h
  · exact cl_len h
  · cases h
theorem call_resolve {u v : V} {ns c o : List Int} {l : Int} (h1 : Dq H u (tpD c)) (h2 : Dq H v (tpD o)) (h3 : Nodes ns) (h4 : ns.length ≤ 60) (h5 : Over ns c) (h6 : Over ns o) (h7 : c.length ≤ 400) (h8 : o.length ≤ 400) (q : ∀ r H', Ext H H' → Dq H' r (optD (R6.st ns c l o)) → Q r H') : spResolve K ([u, .int l, v] ++ []) H Q E := ⟨u, v, ns, c, o, l, rfl, h1, h2, h3, h4, h5, h6, h7, h8, q⟩
theorem call_struck {n u v : V} {ns c o : List Int} {l : Int} (h0 : Dq H n (lsD ns)) (h1 : Dq H u (tpD c)) (h2 : Dq H v (tpD o)) (h4 : ns.length ≤ 60) (h7 : c.length ≤ 400) (h8 : o.length ≤ 400) (q : ∀ r H', Ext H H' → Dq H' r (optD (R6.st ns c l o)) → Q r H') : spStruck K ([n, u, .int l, v] ++ []) H Q E := ⟨n, u, v, ns, c, o, l, rfl, h0, h1, h2, h4, h7, h8, q⟩
theorem ok_pair (D : Df K mg "_law_pair" s__law_pair P__law_pair) (p__law_struck : Pr P w K mg base "_law_struck" 2 P__law_struck (spStruck K)) (p_resolve : Pr P w K mg base "resolve" 2 P_resolve (spResolve K)) (p__law_alike : Pr P w K mg base "_law_alike" 3 P__law_alike (spAlike 1)) : Pr P w K mg base "_law_pair" 4 P__law_pair (spPair K) := by
  refine D.ok sc__law_pair (fun vs H Q E h => ?_) (fun f cdv A outer s H vs Q E hr h => ?_)
  · obtain ⟨n, u, v, cA, ns, c, o, cs, rfl, _⟩ := h; rfl
  obtain ⟨n, u, v, cA, ns, c, o, cs, rfl, hown, hcs, hn, h4, hN, hU, hV, oc, oo, lc, lo, q⟩ := h
  obtain ⟨a, rfl, ha⟩ := hU.ti
  have nd := sc__law_pair.nd
  obtain ⟨vs0, hv0, _⟩ := id hown
  have hU0 := hU.del_tp hv0
  have hV0 := hV.del_tp hv0
  refine ⟨_, (pss_cons (ps_for PassesOwn.never rfl (pi_tupK (K := K) rfl (pv 2)) (pg_name (i := 4) nd rfl (Or.inl rfl)) (pss_cons (ps_set (i := 5) nd rfl (Or.inl rfl) (pe_callP p__law_struck hr (pa_cons (pv 0) (pa_cons (pv 2) (pa_cons (pv 4) (pa_cons (pv 3) pa_nil))))))
      (pss_cons (ps_if (pt_not (pt_val (pe_callP p__law_alike hr (pa_cons (pe_callP p_resolve hr (pa_cons (pv 2) (pa_cons (pv 4) (pa_cons (pv 3) pa_nil)))) (pa_cons (pv 5) pa_nil))))) (pss_one (ps_ret pe_bl)) pss_nil)
      (pss_one (ps_if (PW.pt (pw_and (pt_cmp (pc_notN (pv 5))) (pw_and1 (pt_cmpR (op_notInDK (K := K) rfl (hD_of hr)) (pv 5) (pv 1) (by rfl))))) (pss_one (ps_expr (pe_bmK (K := K) rfl PySem.F.plainAttrs_list PySem.F.slot_list_append PySem.F.type_list_append mt_append (pv 1) (pa_cons (pv 5) pa_nil)))) pss_nil)))))
      (pss_one (ps_ret pe_bl))), ?_⟩
  refine w_start (σ := [some _, some _, some _, some _, none, none]) rfl ?_
  walk_at "go"
  refine for_tup (K := K) (a := a) (xs := c.map V.int) (fun i σ H' => ∃ y z, σ = [some n, some (.ref cA), some (.ref a), some v, y, z] ∧ ExtB cA H H' ∧ Own H' cA (R6.pairGo ns c o cs (c.take i)))
    ⟨none, none, rfl, Ext.refl, hown⟩ (fun i σ H' _ ⟨_, _, _, e, _⟩ => ((SqT.of (K := K) (del_at ha (ne_of ha hv0 (by intro z; cases z)))) |> Ext.seqT (Ext.trans e del_sub))) ?_ ?_
  · rintro i x σ H1 hx ⟨y, z, rfl, hE, hown1⟩
    obtain ⟨l, rfl, hl⟩ := int_at hx
    have hcs1 : Cs ns (R6.pairGo ns c o cs (c.take i)) := R6.pairGo_cs hcs
    have hlen := hcs1.len h4
    have etk : R6.pairGo ns c o cs (c.take (i + 1)) = R6.turn ns c o (R6.pairGo ns c o cs (c.take i)) l := by
      unfold R6.pairGo
      rw [List.take_add_one, hl, List.foldl_append]
      rfl
    have hN1 := (hN.ext hE).ext del_sub
    have hU1 := (hU0.ext hE).ext del_sub
    have hV1 := (hV0.ext hE).ext del_sub
    walk_at "go"
    refine call_struck hN1 hU1 hV1 (by omega) lc lo fun due H2 hE2 hdue => ?_
    walk_at "go"
    refine call_resolve (hU1.ext hE2) (hV1.ext hE2) hn (by omega) oc oo lc lo fun r H3 hE3 hr3 => ?_
    walk_at "go"
    refine call_alike hr3 (hdue.ext hE3) (sm_opt fun d hd => by have := st_len hd; omega) fun H4 hE4 => ?_
    walk_at "go"
    have hE14 : Ext H1 H4 := hE2.trans (hE3.trans hE4)
    have hown4 := hown1.ext hE14
    have hdue4 := hdue.ext (hE3.trans hE4)
    cases e : R6.st ns c l o with
    | none =>
      rw [e] at hdue4
      cases hdue4
      walk_at "go"
      refine ⟨_, _, rfl, hE.trans (ExtB.of hE14), ?_⟩
      rw [etk]
      unfold R6.turn
      rw [e]
      exact hown4
    | some d =>
      rw [e] at hdue4
      obtain ⟨vs4, hv4, hall4⟩ := id hown4
      obtain ⟨pd, rfl, hpd⟩ := hdue4.ti
      walk_at "go"
      refine w_ninD hdue4 hv4 (hall4.ext del_sub) ?_
      walk_at "go"
      refine ite_nd (fun c1 => ?_) (fun c1 => ?_)
      · walk_at "go"
        refine w_append hv4 (small1000 (by have := hall4.len; rw [List.length_map] at this; omega)) ?_
        refine ⟨_, _, rfl, (hE.trans (ExtB.of hE14)).trans ExtB.put, ?_⟩
        rw [etk]
        unfold R6.turn
        rw [e]
        show Own _ cA (R6.addC _ d)
        unfold R6.addC
        rw [if_neg c1]
        refine ⟨vs4 ++ [.ref pd], L2.upd_same, ?_⟩
        rw [del_upd, List.map_append]
        exact hall4.snoc (hdue4.del_tp hv4)
      · walk_at "go"
        refine ⟨_, _, rfl, hE.trans (ExtB.of hE14), ?_⟩
        rw [etk]
        unfold R6.turn
        rw [e]
        show Own _ cA (R6.addC _ d)
        unfold R6.addC
        rw [if_pos c1]
        exact hown4
  · rintro σ H1 ⟨y, z, rfl, hE, hown1⟩
    rw [List.length_map, List.take_length] at hown1
    walk_at "go"
    exact q _ hE hown1
end
end Kf

end
section
set_option Elab.async false
set_option linter.all false
set_option maxRecDepth 100000
set_option maxHeartbeats 4000000
local macro_rules | `(tactic| walk_at "npl") => `(tactic| first | exact Kf.npl rfl | exact Kf.npl_ints _ | exact Kf.npl_one _ _ | exact Kf.npl_refs _ | assumption)
local macro_rules | `(tactic| walk_at "nn") => `(tactic| first
  | assumption
  | (refine' Kf.Ext.non ?nne ?nnh; (case nne => assumption); (case nnh => walk_at "nn")))
local macro_rules | `(tactic| walk_at "ext") => `(tactic| first
  | assumption
  | exact Kf.Ext.refl
  | (refine' Kf.Ext.newer ?exa ?exn; (case exn => assumption); (case exa => walk_at "ext"))
  | (refine' Kf.Ext.own ?exa ?exn; (case exn => walk_at "nn"); (case exa => walk_at "ext"))
  | (refine' Kf.Ext.trans ?exa ?exb; (case exb => assumption); (case exa => walk_at "ext")))
local macro_rules | `(tactic| walk_at "pool") => `(tactic| first
  | assumption
  | (refine' Kf.PoolAt.ext ?plh ?ple; (case plh => assumption); (case ple => walk_at "ext"))
  | (refine' Kf.PoolAt.upd ?plh ?plo ?pln; (case plo => assumption); (case pln => walk_at "npl"); (case plh => walk_at "pool")))
local macro_rules | `(tactic| walk_at "lk") => `(tactic| first
  | assumption
  | exact L2.upd_same
  | (refine' Kf.upd_old ?lkn ?lkh; (case lkn => assumption); (case lkh => walk_at "lk"))
  | (refine' Kf.upd_oth ?lkn ?lkh; (case lkn => (first | assumption | (apply Ne.symm; assumption))); (case lkh => walk_at "lk"))
  | (refine' Kf.Ext.get ?lke ?lkh ?lkn; (case lke => assumption); (case lkh => walk_at "lk"); (case lkn => walk_at "npl"))
  | (refine' L2.Same.at ?lke ?lkh; (case lke => assumption); (case lkh => walk_at "lk")))
local macro_rules | `(tactic| walk_at "sq") => `(tactic| first
  | assumption
  | (refine' L2.SqL.of ?sqh; (case sqh => walk_at "lk"))
  | (refine' L2.SqT.of ?sqh; (case sqh => walk_at "lk"))
  | (refine' Kf.Ext.seqL ?sqe ?sqh ?sqn; (case sqh => assumption); (case sqe => walk_at "ext"); (case sqn => walk_at "npl"))
  | (refine' Kf.Ext.seqT ?sqe ?sqh; (case sqh => assumption); (case sqe => walk_at "ext")))
local macro_rules | `(tactic| walk_at "at") => `(tactic| first | exact L2.atI_nat (j := 0) rfl | exact L2.atI_nat (j := 1) rfl | exact L2.atI_nat (j := 2) rfl | exact L2.atI_nat (j := 3) rfl | exact L2.atI_nat (j := 4) rfl | assumption)
local macro_rules | `(tactic| walk_at "ixn") => `(tactic| first | exact Kf.ixN_nat (j := 0) rfl | exact Kf.ixN_nat (j := 1) rfl | exact Kf.ixN_nat (j := 2) rfl | exact Kf.ixN_nat (j := 3) rfl | assumption)
local macro_rules | `(tactic| walk_at "set") => `(tactic| (first | (simp only [List.set_cons_succ, List.set_cons_zero]; rfl) | rfl))
local macro_rules | `(tactic| walk_at "om") => `(tactic| first | decide | omega | (simp only [List.length_map, List.length_cons, List.length_nil] at *; omega))
local macro_rules | `(tactic| walk_at "calls") => `(tactic| first
  | (with_reducible refine' Kf.call_take ?clp ?cla ?clb ?clq; (case clp => walk_at "pool"); (case cla => walk_at "om"); (case clb => walk_at "om"); intro r H' hE h0 h1)
  | (with_reducible refine' Kf.call_pool ?cls ?cla ?clq; (case cls => walk_at "sq"); (case cla => walk_at "om"); intro p H' hE hN hP)
  | (with_reducible refine' Kf.call_turn ?cls ?clp ?cla ?clq; (case cls => walk_at "sq"); (case clp => walk_at "pool"); (case cla => walk_at "om"); intro u H' hE hP))
local macro_rules | `(tactic| walk_at "side") => `(tactic| first
  | exact Kf.cmul_fmod (by decide) (by decide)
  | exact rfl
  | decide
  | omega
  | assumption
  | (refine ⟨?_, ?_⟩ <;> decide)
  | (refine ⟨?_, ?_, ?_⟩ <;> decide)
  | (refine ⟨?_, ?_⟩ <;> omega)
  | (refine Or.inl ⟨?_, ?_⟩ <;> decide)
  | (refine Or.inr ⟨?_, ?_⟩ <;> decide)
  | (refine Or.inl ⟨?_, ?_⟩ <;> omega)
  | (refine Or.inr ⟨?_, ?_⟩ <;> omega))
local macro_rules | `(tactic| walk_at "kit") => `(tactic| first | exact Kf.isi_int_int | exact Kf.isi_int_bool | exact Kf.isi_int_str | exact Kf.isi_int_list | exact Kf.isi_int_tuple | exact Kf.isi_bool_int | exact Kf.isi_bool_bool | exact Kf.isi_bool_str | exact Kf.isi_bool_list | exact Kf.isi_bool_tuple | exact Kf.isi_str_int | exact Kf.isi_str_bool | exact Kf.isi_str_str | exact Kf.isi_str_list | exact Kf.isi_str_tuple | exact Kf.isi_non_list | exact Kf.isi_non_tuple | exact Kf.isi_list_list | exact Kf.isi_list_tuple | exact Kf.isi_tuple_list | exact Kf.isi_tuple_tuple | exact Kf.isi_dict_dict)
local macro_rules | `(tactic| walk_at "ty") => `(tactic| first
  | exact L2.TyX.base (L2.TyOf.int _)
  | exact L2.TyX.base (L2.TyOf.bl _)
  | exact L2.TyX.base (L2.TyOf.str _)
  | exact L2.TyX.base L2.TyOf.non
  | (refine' L2.TyX.base (L2.TyOf.lst ?tyh); (case tyh => walk_at "lk"))
  | (refine' L2.TyX.base (L2.TyOf.tup ?tyh); (case tyh => walk_at "lk"))
  | (refine' L2.TyX.base (L2.TyOf.dK ?tyh); (case tyh => walk_at "lk")))
local macro_rules | `(tactic| walk_at "om2") => `(tactic| first | assumption | decide | omega)
local macro_rules | `(tactic| walk_at "st") => `(tactic| with_reducible first
  | (refine Kf.w_var rfl ?_)
  | (refine Kf.w_c ?_)
  | (refine Kf.w_seq ?_)
  | (refine Kf.w_asg ?_)
  | (refine' Kf.w_gname ?sth ?_; (case sth => with_unfolding_all walk_at "set"))
  | (refine Kf.w_op ?_)
  | (refine Kf.w_un ?_)
  | (refine Kf.w_rU ?_)
  | (refine Kf.w_rI0 ?_)
  | (refine' Kf.w_rI ?sth ?_; (case sth => with_unfolding_all walk_at "side"))
  | (refine' Kf.w_rEq ?sth ?_; (case sth => with_unfolding_all rfl))
  | (refine' Kf.w_rNe ?sth ?_; (case sth => with_unfolding_all rfl))
  | (refine Kf.w_tTest ?_)
  | (refine Kf.w_tB ?_)
  | (refine Kf.w_exbl ?_)
  | (refine Kf.w_exint ?_)
  | (refine Kf.w_ifS ?_)
  | (refine Kf.w_ret ?_)
  | (refine Kf.w_retN ?_)
  | (refine Kf.w_drop ?_)
  | (refine Kf.w_and ?_)
  | (refine Kf.w_or ?_)
  | (refine Kf.w_not ?_)
  | (refine Kf.w_andV ?_)
  | (refine Kf.w_orV ?_)
  | (refine Kf.w_notV ?_)
  | (refine Kf.w_if ?_)
  | (refine Kf.w_lc ?_)
  | (refine Kf.w_for ?_)
  | (refine Kf.w_rng1 ?_)
  | (refine' Kf.w_rng1x ?sth ?stg ?_; (case sth => with_unfolding_all walk_at "om"); (case stg => with_unfolding_all walk_at "om"))
  | (refine Kf.w_ilist ?_)
  | (refine Kf.w_iseq ?_)
  | (refine Kf.w_itup ?_)
  | (refine' Kf.w_ilistx ?sth ?_; (case sth => with_unfolding_all walk_at "sq"))
  | (refine' Kf.w_itupx ?sth ?_; (case sth => with_unfolding_all walk_at "sq"))
  | (refine' Kf.w_wipe ?sth ?_; (case sth => with_unfolding_all rfl))
  | (refine Kf.w_yes ?_)
  | (refine' Kf.w_isi ?sth ?stg ?_; (case sth => with_unfolding_all walk_at "ty"); (case stg => walk_at "kit"))
  | (refine Kf.w_isN ?_)
  | (refine Kf.w_notN ?_)
  | (refine Kf.w_cb ?_)
  | (refine Kf.w_nil ?_)
  | (refine Kf.w_cons ?_)
  | (refine Kf.w_tup ?_)
  | (refine Kf.w_lst ?_)
  | (refine' Kf.w_lines ?sth ?_; (case sth => with_unfolding_all rfl))
  | (refine Kf.w_call ?_)
  | (refine Kf.w_next ?_)
  | (refine Kf.w_break ?_)
  | (refine Kf.w_cont ?_)
  | (refine Kf.w_dnewK ?_)
  | (refine Kf.w_dget ?_)
  | (refine Kf.w_sl ?_)
  | (refine Kf.w_nopart ?_)
  | (refine Kf.w_part ?_)
  | (refine Kf.w_bm ?_)
  | (refine Kf.w_bm0 ?_)
  | (refine' Kf.w_bmL ?sth ?_; (case sth => with_unfolding_all walk_at "lk"))
  | (refine' Kf.w_cat ?sth ?stg ?stf ?_; (case sth => with_unfolding_all walk_at "lk"); (case stg => with_unfolding_all walk_at "lk"); (case stf => with_unfolding_all walk_at "om"))
  | (refine' Kf.w_slL ?sth ?_; (case sth => with_unfolding_all walk_at "sq"))
  | (refine' Kf.w_inL ?sth ?_; (case sth => with_unfolding_all walk_at "sq"))
  | (refine' Kf.w_inT ?sth ?_; (case sth => with_unfolding_all walk_at "sq"))
  | (refine' Kf.w_ninL ?sth ?_; (case sth => with_unfolding_all walk_at "sq"))
  | (refine' Kf.w_ninT ?sth ?_; (case sth => with_unfolding_all walk_at "sq"))
  | (refine' Kf.w_listof ?sth ?_; (case sth => with_unfolding_all walk_at "sq"))
  | (refine' Kf.w_tupof ?sth ?_; (case sth => with_unfolding_all walk_at "sq"))
  | (refine Kf.w_listRev ?_)
  | (refine Kf.w_gsub ?_)
  | (refine' Kf.w_ixL ?sth ?stg ?_; (case sth => with_unfolding_all walk_at "sq"); (case stg => with_unfolding_all walk_at "at"))
  | (refine' Kf.w_ixT ?sth ?stg ?_; (case sth => with_unfolding_all walk_at "sq"); (case stg => with_unfolding_all walk_at "at"))
  | (refine' Kf.w_setL ?sth ?stg ?_; (case sth => with_unfolding_all walk_at "lk"); (case stg => with_unfolding_all walk_at "ixn"))
  | (refine' Kf.w_len ?sth ?_; (case sth => with_unfolding_all walk_at "sq"))
  | (refine' Kf.w_lenT ?sth ?_; (case sth => with_unfolding_all walk_at "sq"))
  | (refine Kf.w_int1 ?_)
  | (refine Kf.w_intb ?_)
  | (refine Kf.w_abs ?_)
  | (refine Kf.w_aug rfl ?_)
  | (refine Kf.w_ipI ?_)
  | (refine L2.iteT ?_)
  | (refine L2.iteF ?_)
  | (refine Kf.iteNT ?_)
  | (refine Kf.iteNF ?_)
  | (refine' Kf.ite_decT ?sth ?_; (case sth => exact rfl))
  | (refine' Kf.ite_decF ?sth ?_; (case sth => with_unfolding_all (intro e; cases e; done)))
  | (refine' Kf.ite_ndecF ?sth ?_; (case sth => exact rfl))
  | (refine' Kf.ite_ndecT ?sth ?_; (case sth => with_unfolding_all (intro e; cases e; done)))
  | (refine' Kf.ite_viT ?sth ?_; (case sth => (with_unfolding_all walk_at "om2")))
  | (refine' Kf.ite_viF ?sth ?_; (case sth => (with_unfolding_all walk_at "om2")))
  | (refine' Kf.ite_nviT ?sth ?_; (case sth => (with_unfolding_all walk_at "om2")))
  | (refine' Kf.ite_nviF ?sth ?_; (case sth => (with_unfolding_all walk_at "om2")))
  | (refine' Kf.ite_decT ?sth ?_; (case sth => (with_unfolding_all walk_at "om2")))
  | (refine' Kf.ite_decF ?sth ?_; (case sth => (with_unfolding_all walk_at "om2")))
  | with_unfolding_all walk_at "calls")
local macro_rules | `(tactic| walk_at "go") => `(tactic| repeat walk_at "st")

namespace Kf
open PySem PySem.Spec PyProof.Rows L2
open R6 (cl Over Nodes Cs)
/-! ### the closing: which pairs are done -/
def PC (ns : List Int) (cs : List (List Int)) (a b : Nat) : Prop := ∀ c o, cs[a]? = some c → cs[b]? = some o → ∀ l ∈ c, ∀ d, R6.st ns c l o = some d → d ∈ cs
theorem pre_at {cs cs' : List (List Int)} (h : cs <+: cs') {a : Nat} (ha : a < cs.length) : cs'[a]? = cs[a]? := by
  obtain ⟨t, rfl⟩ := h
  rw [List.getElem?_append_left ha]
theorem PC.mono {ns : List Int} {cs cs' : List (List Int)} {a b : Nat} (h : PC ns cs a b) (p : cs <+: cs') (ha : a < cs.length) (hb : b < cs.length) : PC ns cs' a b := fun c o h1 h2 l hl d hd => by
  rw [pre_at p ha] at h1
  rw [pre_at p hb] at h2
  exact p.subset (h c o h1 h2 l hl d hd)
theorem PC.pair {ns c o : List Int} {cs : List (List Int)} {a b : Nat} (ha : cs[a]? = some c) (hb : cs[b]? = some o) : PC ns (R6.pairGo ns c o cs c) a b := fun c' o' h1 h2 l hl d hd => by
  have la := (List.getElem?_eq_some_iff.mp ha).1
  have lb := (List.getElem?_eq_some_iff.mp hb).1
  have p : cs <+: R6.pairGo ns c o cs c := R6.pairGo_pre
  rw [pre_at p la, ha] at h1
  rw [pre_at p lb, hb] at h2
  cases h1; cases h2
  exact R6.pairGo_in hl hd
/-- what is kept: the clauses before, each true where these are -/
structure Kp (ns : List Int) (cs0 cs : List (List Int)) : Prop where
  ok : Cs ns cs
  pre : cs0 <+: cs
  over : ∀ c ∈ cs, Over ns c
  sound : ∀ row, R6.Row ns row → (∀ c ∈ cs0, R6.holds c row = true) → ∀ c ∈ cs, R6.holds c row = true
theorem st_over {ns c o d : List Int} {l : Int} (h : R6.st ns c l o = some d) : Over ns d := by
  unfold R6.st at h
  split at h
  · exact R6.cl_over h
  · cases h
theorem Kp.turn {ns c o : List Int} {cs0 cs : List (List Int)} (hn : Nodes ns) (h : Kp ns cs0 cs) (hc : c ∈ cs) (ho : o ∈ cs) : ∀ (ls : List Int) (ds : List (List Int)), Kp ns cs0 ds → c ∈ ds → o ∈ ds → Kp ns cs0 (R6.pairGo ns c o ds ls)
  | [], ds, k, _, _ => k
  | l :: ls, ds, k, k1, k2 => by
    have k' : Kp ns cs0 (R6.turn ns c o ds l) := by
      refine ⟨R6.turn_cs k.ok, k.pre.trans R6.turn_pre, fun d hd => ?_, fun row hr hall d hd => ?_⟩
      · rcases R6.turn_new hd with z | z
        · exact k.over d z
        · exact st_over z
      · rcases R6.turn_new hd with z | z
        · exact k.sound row hr hall d z
        · exact R6.st_sound hn hr (k.over c k1) (k.over o k2) z (k.sound row hr hall c k1) (k.sound row hr hall o k2)
    exact Kp.turn hn h hc ho ls _ k' (R6.turn_pre.subset k1) (R6.turn_pre.subset k2)
theorem allC_len2 : ∀ {ns c : List Int}, c ∈ R6.allC ns → c.length ≤ ns.length
  | [], c, h => by
    simp only [R6.allC, List.mem_singleton] at h
    subst h; exact Nat.le_refl _
  | n :: r, c, h => by
    unfold R6.allC at h
    rw [List.mem_append, List.mem_append, List.mem_map, List.mem_map] at h
    rw [List.length_cons]
    rcases h with ⟨d, hd, e⟩ | ⟨d, hd, e⟩ | h
    · have := allC_len2 hd; rw [← e, List.length_cons]; omega
    · have := allC_len2 hd; rw [← e, List.length_cons]; omega
    · have := allC_len2 h; omega
section
variable {P : Program} {w : World} {K : PySem.W.Frag} {mg : Str → Option Value} {base : Heap} {H : Hp} {Q : VK} {E : XK}
def spClosed (K : PySem.W.Frag) : Sp := fun vs H Q _ => ∃ (n : V) (cA : Addr) (ns : List Int) (cs : List (List Int)), vs = [n, .ref cA] ∧ Own H cA cs ∧ Cs ns cs ∧ (∀ c ∈ cs, Over ns c) ∧ Nodes ns ∧ ns.length ≤ 4 ∧ Dq (del H cA) n (lsD ns) ∧
  ∀ H' cs', ExtB cA H H' → Own H' cA cs' → Kp ns cs cs' → R6.Closed ns cs' → Q (.bl true) H'
theorem call_closed {n : V} {cA : Addr} {ns : List Int} {cs : List (List Int)} (h1 : Own H cA cs) (h2 : Cs ns cs) (h3 : ∀ c ∈ cs, Over ns c) (h4 : Nodes ns) (h5 : ns.length ≤ 4) (h6 : Dq (del H cA) n (lsD ns)) (q : ∀ H' cs', ExtB cA H H' → Own H' cA cs' → Kp ns cs cs' → R6.Closed ns cs' → Q (.bl true) H') : spClosed K ([n, .ref cA] ++ []) H Q E := ⟨n, cA, ns, cs, rfl, h1, h2, h3, h4, h5, h6, q⟩
end
theorem Own.item {H : Hp} {a : Addr} {cs : List (List Int)} {i : Nat} (o : Own H a cs) (h : i < cs.length) : ∃ vs x c, H a = some (.lst vs) ∧ vs[i]? = some x ∧ vs.length = cs.length ∧ cs[i]? = some c ∧ Dq H x (tpD c) := by
  obtain ⟨vs, hv, r⟩ := o
  have hl := r.len
  rw [List.length_map] at hl
  have hi : i < vs.length := by omega
  obtain ⟨d, hd, q⟩ := r.get (List.getElem?_eq_getElem hi)
  obtain ⟨c, hc, rfl⟩ := map_at hd
  exact ⟨vs, _, c, hv, List.getElem?_eq_getElem hi, hl, hc, q.ext del_sub⟩
theorem closed_of {ns : List Int} {cs : List (List Int)} {i : Nat} (h : ∀ a b, a < i → b < i → PC ns cs a b) (hi : cs.length ≤ i) : R6.Closed ns cs := fun c hc o ho l hl d hd => by
  obtain ⟨a, ha⟩ := List.mem_iff_getElem?.mp hc
  obtain ⟨b, hb⟩ := List.mem_iff_getElem?.mp ho
  have la := (List.getElem?_eq_some_iff.mp ha).1
  have lb := (List.getElem?_eq_some_iff.mp hb).1
  exact h a b (by omega) (by omega) c o ha hb l hl d hd
abbrev s__law_closed : Stmt := topS 21
abbrev N__law_closed : List Str := ["nodes", "clauses", "i", "j"]
abbrev P__law_closed : List Str := ["nodes", "clauses"]
theorem sc__law_closed : FnScope N__law_closed P__law_closed (defScope s__law_closed) := ⟨rfl, rfl, rfl, by decide +kernel, rfl, by decide +kernel, by decide +kernel⟩
section
variable {P : Program} {w : World} {K : PySem.W.Frag} {mg : Str → Option Value} {base : Heap} {H : Hp} {Q : VK} {E : XK}
theorem ok_closed (D : Df K mg "_law_closed" s__law_closed P__law_closed) (b_len : mg "len" = none) (b_range : mg "range" = none) (p__law_pair : Pr P w K mg base "_law_pair" 4 P__law_pair (spPair K)) : Pr P w K mg base "_law_closed" 5 P__law_closed (spClosed K) := by
  refine D.ok sc__law_closed (fun vs H Q E h => ?_) (fun f cdv A outer s H vs Q E hr h => ?_)
  · obtain ⟨n, cA, ns, cs, rfl, _⟩ := h; rfl
  obtain ⟨n, cA, ns, cs0, rfl, hown0, hcs0, hov0, hn, h4, hN, q⟩ := h
  have nd := sc__law_closed.nd
  have k0 : Kp ns cs0 cs0 := ⟨hcs0, List.prefix_refl _, hov0, fun _ _ h => h⟩
  -- one pair
  have pair : ∀ (H1 : Hp) (cs : List (List Int)) (a b : Nat) (x y : V) (c o : List Int) (Q1 : VK), ExtB cA H H1 → Own H1 cA cs → Kp ns cs0 cs → cs[a]? = some c → cs[b]? = some o → Dq H1 x (tpD c) → Dq H1 y (tpD o) →
      (∀ H2 cs2, ExtB cA H H2 → Own H2 cA cs2 → Kp ns cs0 cs2 → cs <+: cs2 → PC ns cs2 a b → Q1 (.bl true) H2) → spPair K ([n, .ref cA, x, y] ++ []) H1 Q1 E0 := fun H1 cs a b x y c o Q1 hE hown k ha hb hx hy hq => by
    have mc := List.mem_of_getElem? ha
    have mo := List.mem_of_getElem? hb
    refine call_pair hown k.ok hn h4 (hN.ext hE) hx hy (k.over c mc) (k.over o mo) (by have := allC_len2 (k.ok.all c mc); omega) (by have := allC_len2 (k.ok.all o mo); omega) fun H2 hE2 hown2 => ?_
    exact hq H2 _ (hE.trans hE2) hown2 (k.turn hn mc mo c cs k mc mo) R6.pairGo_pre (PC.pair ha hb)
  refine ⟨_, (pss_cons (ps_for PassesOwn.never rfl (pi_range1 (by rfl) b_range (pa_cons pe_int pa_nil)) (pg_name (i := 2) nd rfl (Or.inl rfl)) (pss_cons (ps_if (pt_cmpR op_ge (pv 2) (pe_callB (call_lenK (K := K) rfl) (by rfl) b_len PySem.boot_len (pa_cons (pv 1) pa_nil)) (nomark _)) (pss_one (ps_break)) pss_nil)
      (pss_cons (ps_for PassesOwn.never rfl (pi_range1 (by rfl) b_range (pa_cons (pv 2) pa_nil)) (pg_name (i := 3) nd rfl (Or.inl rfl)) (pss_cons (ps_if (pt_not (pt_val (pe_callP p__law_pair hr (pa_cons (pv 0) (pa_cons (pv 1) (pa_cons (pe_ix (ix_listK (K := K) rfl) (pv 1) (pv 2) (fun _ _ => rfl)) (pa_cons (pe_ix (ix_listK (K := K) rfl) (pv 1) (pv 3) (fun _ _ => rfl)) pa_nil))))))) (pss_one (ps_ret pe_bl)) pss_nil)
      (pss_one (ps_if (pt_not (pt_val (pe_callP p__law_pair hr (pa_cons (pv 0) (pa_cons (pv 1) (pa_cons (pe_ix (ix_listK (K := K) rfl) (pv 1) (pv 3) (fun _ _ => rfl)) (pa_cons (pe_ix (ix_listK (K := K) rfl) (pv 1) (pv 2) (fun _ _ => rfl)) pa_nil))))))) (pss_one (ps_ret pe_bl)) pss_nil))))
      (pss_one (ps_if (pt_not (pt_val (pe_callP p__law_pair hr (pa_cons (pv 0) (pa_cons (pv 1) (pa_cons (pe_ix (ix_listK (K := K) rfl) (pv 1) (pv 2) (fun _ _ => rfl)) (pa_cons (pe_ix (ix_listK (K := K) rfl) (pv 1) (pv 2) (fun _ _ => rfl)) pa_nil))))))) (pss_one (ps_ret pe_bl)) pss_nil)))))
      (pss_one (ps_ret pe_bl))), ?_⟩
  refine w_start (σ := [some _, some _, none, none]) rfl ?_
  walk_at "go"
  have fin : ∀ (σ : L2.St) (H1 : Hp) (cs : List (List Int)) (i : Nat) (u v : Option V), ExtB cA H H1 → Own H1 cA cs → Kp ns cs0 cs → (∀ a b, a < i → b < i → PC ns cs a b) → cs.length ≤ i → Q (.bl true) H1 := fun σ H1 cs i u v hE hown k hp hl => q H1 cs hE hown k (closed_of hp hl)
  refine for_range (lo := 0) (n := ((82 : Int)).toNat) (fun i σ H' => ∃ (u v : Option V) (cs : List (List Int)), σ = [some n, some (.ref cA), u, v] ∧ ExtB cA H H' ∧ Own H' cA cs ∧ Kp ns cs0 cs ∧ (∀ a b, a < i → b < i → PC ns cs a b))
    ⟨none, none, cs0, rfl, Ext.refl, hown0, k0, fun a b h => absurd h (Nat.not_lt_zero _)⟩ ?_ ?_
  · rintro i σ H1 hi ⟨u, v, cs, rfl, hE, hown, k, hp⟩
    have hlen := k.ok.len h4
    obtain ⟨vs, hv, hall⟩ := id hown
    have hvl := hall.len
    rw [List.length_map] at hvl
    walk_at "go"
    simp only [Int.zero_add]
    refine ite_d (fun c1 => ?_) (fun c1 => ?_)
    · walk_at "go"
      exact fin [] H1 cs i none none hE hown k hp (by omega)
    · have hil : i < cs.length := by omega
      obtain ⟨ci, hci⟩ : ∃ ci, cs[i]? = some ci := ⟨_, List.getElem?_eq_getElem hil⟩
      walk_at "go"
      refine for_range (lo := 0) (n := ((i : Int)).toNat) (fun j σ H' => ∃ (v : Option V) (cs2 : List (List Int)), σ = [some n, some (.ref cA), some (.int i), v] ∧ ExtB cA H H' ∧ Own H' cA cs2 ∧ Kp ns cs0 cs2 ∧ cs <+: cs2 ∧ (∀ a b, a < i → b < i → PC ns cs2 a b) ∧ ∀ b, b < j → PC ns cs2 i b ∧ PC ns cs2 b i)
        ⟨v, cs, rfl, hE, hown, k, List.prefix_refl _, hp, fun b h => absurd h (Nat.not_lt_zero _)⟩ ?_ ?_
      · rintro j σ H2 hj ⟨v2, cs2, rfl, hE2, hown2, k2, pre2, hp2, hb2⟩
        rw [Int.toNat_natCast] at hj
        have hl2 := pre2.length_le
        obtain ⟨vs2, x, c, hv2, hx, hvl2, hc, dx⟩ := hown2.item (show i < cs2.length by omega)
        obtain ⟨vs2', y, o, hv2', hy, _, ho, dy⟩ := hown2.item (show j < cs2.length by omega)
        rw [hv2] at hv2'
        cases hv2'
        walk_at "go"
        simp only [Int.zero_add]
        refine w_ixL (SqL.of hv2) (atI_nat hx) ?_
        walk_at "go"
        refine w_ixL (SqL.of hv2) (atI_nat hy) ?_
        walk_at "go"
        refine pair H2 cs2 i j x y c o _ hE2 hown2 k2 hc ho dx dy fun H3 cs3 hE3 hown3 k3 pre3 pc3 => ?_
        walk_at "go"
        have hl3 := pre3.length_le
        obtain ⟨vs3, y3, o3, hv3, hy3, hvl3, ho3, dy3⟩ := hown3.item (show j < cs3.length by omega)
        obtain ⟨vs3', x3, c3, hv3', hx3, _, hc3, dx3⟩ := hown3.item (show i < cs3.length by omega)
        rw [hv3] at hv3'
        cases hv3'
        refine w_ixL (SqL.of hv3) (atI_nat hy3) ?_
        walk_at "go"
        refine w_ixL (SqL.of hv3) (atI_nat hx3) ?_
        walk_at "go"
        refine pair H3 cs3 j i y3 x3 o3 c3 _ hE3 hown3 k3 ho3 hc3 dy3 dx3 fun H4 cs4 hE4 hown4 k4 pre4 pc4 => ?_
        walk_at "go"
        have hl4 := pre4.length_le
        have p24 := pre3.trans pre4
        refine ⟨_, cs4, rfl, hE4, hown4, k4, pre2.trans p24, fun a b ha hb => (hp2 a b ha hb).mono p24 (by omega) (by omega), fun b hb => ?_⟩
        by_cases e : b = j
        · subst e
          exact ⟨pc3.mono pre4 (by omega) (by omega), pc4⟩
        · have := hb2 b (by omega)
          exact ⟨this.1.mono p24 (by omega) (by omega), this.2.mono p24 (by omega) (by omega)⟩
      · rintro σ H2 ⟨v2, cs2, rfl, hE2, hown2, k2, pre2, hp2, hb2⟩
        rw [Int.toNat_natCast] at hb2
        have hl2 := pre2.length_le
        obtain ⟨vs2, x, c, hv2, hx, hvl2, hc, dx⟩ := hown2.item (show i < cs2.length by omega)
        walk_at "go"
        refine w_ixL (SqL.of hv2) (atI_nat hx) ?_
        walk_at "go"
        refine w_ixL (SqL.of hv2) (atI_nat hx) ?_
        walk_at "go"
        refine pair H2 cs2 i i x x c c _ hE2 hown2 k2 hc hc dx dx fun H3 cs3 hE3 hown3 k3 pre3 pc3 => ?_
        walk_at "go"
        refine ⟨_, _, cs3, rfl, hE3, hown3, k3, fun a b ha hb => ?_⟩
        by_cases ea : a = i
        · by_cases eb : b = i
          · subst ea eb; exact pc3
          · subst ea
            exact (hb2 b (by omega)).1.mono pre3 (by omega) (by omega)
        · by_cases eb : b = i
          · subst eb
            exact (hb2 a (by omega)).2.mono pre3 (by omega) (by omega)
          · exact (hp2 a b (by omega) (by omega)).mono pre3 (by omega) (by omega)
  · rintro σ H1 ⟨u, v, cs, rfl, hE, hown, k, hp⟩
    have hlen := k.ok.len h4
    walk_at "go"
    exact fin [] H1 cs 82 none none hE hown k hp (by omega)
end
end Kf

end
section
set_option Elab.async false
set_option linter.all false
set_option maxRecDepth 100000
set_option maxHeartbeats 4000000
local macro_rules | `(tactic| walk_at "npl") => `(tactic| first | exact Kf.npl rfl | exact Kf.npl_ints _ | exact Kf.npl_one _ _ | exact Kf.npl_refs _ | assumption)
local macro_rules | `(tactic| walk_at "nn") => `(tactic| first
  | assumption
  | (refine' Kf.Ext.non ?nne ?nnh; (case nne => assumption); (case nnh => walk_at "nn")))
local macro_rules | `(tactic| walk_at "ext") => `(tactic| first
  | assumption
  | exact Kf.Ext.refl
  | (refine' Kf.Ext.newer ?exa ?exn; (case exn => assumption); (case exa => walk_at "ext"))
  | (refine' Kf.Ext.own ?exa ?exn; (case exn => walk_at "nn"); (case exa => walk_at "ext"))
  | (refine' Kf.Ext.trans ?exa ?exb; (case exb => assumption); (case exa => walk_at "ext")))
local macro_rules | `(tactic| walk_at "pool") => `(tactic| first
  | assumption
  | (refine' Kf.PoolAt.ext ?plh ?ple; (case plh => assumption); (case ple => walk_at "ext"))
  | (refine' Kf.PoolAt.upd ?plh ?plo ?pln; (case plo => assumption); (case pln => walk_at "npl"); (case plh => walk_at "pool")))
local macro_rules | `(tactic| walk_at "lk") => `(tactic| first
  | assumption
  | exact L2.upd_same
  | (refine' Kf.upd_old ?lkn ?lkh; (case lkn => assumption); (case lkh => walk_at "lk"))
  | (refine' Kf.upd_oth ?lkn ?lkh; (case lkn => (first | assumption | (apply Ne.symm; assumption))); (case lkh => walk_at "lk"))
  | (refine' Kf.Ext.get ?lke ?lkh ?lkn; (case lke => assumption); (case lkh => walk_at "lk"); (case lkn => walk_at "npl"))
  | (refine' L2.Same.at ?lke ?lkh; (case lke => assumption); (case lkh => walk_at "lk")))
local macro_rules | `(tactic| walk_at "sq") => `(tactic| first
  | assumption
  | (refine' L2.SqL.of ?sqh; (case sqh => walk_at "lk"))
  | (refine' L2.SqT.of ?sqh; (case sqh => walk_at "lk"))
  | (refine' Kf.Ext.seqL ?sqe ?sqh ?sqn; (case sqh => assumption); (case sqe => walk_at "ext"); (case sqn => walk_at "npl"))
  | (refine' Kf.Ext.seqT ?sqe ?sqh; (case sqh => assumption); (case sqe => walk_at "ext")))
local macro_rules | `(tactic| walk_at "at") => `(tactic| first | exact L2.atI_nat (j := 0) rfl | exact L2.atI_nat (j := 1) rfl | exact L2.atI_nat (j := 2) rfl | exact L2.atI_nat (j := 3) rfl | exact L2.atI_nat (j := 4) rfl | assumption)
local macro_rules | `(tactic| walk_at "ixn") => `(tactic| first | exact Kf.ixN_nat (j := 0) rfl | exact Kf.ixN_nat (j := 1) rfl | exact Kf.ixN_nat (j := 2) rfl | exact Kf.ixN_nat (j := 3) rfl | assumption)
local macro_rules | `(tactic| walk_at "set") => `(tactic| (first | (simp only [List.set_cons_succ, List.set_cons_zero]; rfl) | rfl))
local macro_rules | `(tactic| walk_at "om") => `(tactic| first | decide | omega | (simp only [List.length_map, List.length_cons, List.length_nil] at *; omega))
local macro_rules | `(tactic| walk_at "calls") => `(tactic| first
  | (with_reducible refine' Kf.call_take ?clp ?cla ?clb ?clq; (case clp => walk_at "pool"); (case cla => walk_at "om"); (case clb => walk_at "om"); intro r H' hE h0 h1)
  | (with_reducible refine' Kf.call_pool ?cls ?cla ?clq; (case cls => walk_at "sq"); (case cla => walk_at "om"); intro p H' hE hN hP)
  | (with_reducible refine' Kf.call_turn ?cls ?clp ?cla ?clq; (case cls => walk_at "sq"); (case clp => walk_at "pool"); (case cla => walk_at "om"); intro u H' hE hP))
local macro_rules | `(tactic| walk_at "side") => `(tactic| first
  | exact Kf.cmul_fmod (by decide) (by decide)
  | exact rfl
  | decide
  | omega
  | assumption
  | (refine ⟨?_, ?_⟩ <;> decide)
  | (refine ⟨?_, ?_, ?_⟩ <;> decide)
  | (refine ⟨?_, ?_⟩ <;> omega)
  | (refine Or.inl ⟨?_, ?_⟩ <;> decide)
  | (refine Or.inr ⟨?_, ?_⟩ <;> decide)
  | (refine Or.inl ⟨?_, ?_⟩ <;> omega)
  | (refine Or.inr ⟨?_, ?_⟩ <;> omega))
local macro_rules | `(tactic| walk_at "kit") => `(tactic| first | exact Kf.isi_int_int | exact Kf.isi_int_bool | exact Kf.isi_int_str | exact Kf.isi_int_list | exact Kf.isi_int_tuple | exact Kf.isi_bool_int | exact Kf.isi_bool_bool | exact Kf.isi_bool_str | exact Kf.isi_bool_list | exact Kf.isi_bool_tuple | exact Kf.isi_str_int | exact Kf.isi_str_bool | exact Kf.isi_str_str | exact Kf.isi_str_list | exact Kf.isi_str_tuple | exact Kf.isi_non_list | exact Kf.isi_non_tuple | exact Kf.isi_list_list | exact Kf.isi_list_tuple | exact Kf.isi_tuple_list | exact Kf.isi_tuple_tuple | exact Kf.isi_dict_dict)
local macro_rules | `(tactic| walk_at "ty") => `(tactic| first
  | exact L2.TyX.base (L2.TyOf.int _)
  | exact L2.TyX.base (L2.TyOf.bl _)
  | exact L2.TyX.base (L2.TyOf.str _)
  | exact L2.TyX.base L2.TyOf.non
  | (refine' L2.TyX.base (L2.TyOf.lst ?tyh); (case tyh => walk_at "lk"))
  | (refine' L2.TyX.base (L2.TyOf.tup ?tyh); (case tyh => walk_at "lk"))
  | (refine' L2.TyX.base (L2.TyOf.dK ?tyh); (case tyh => walk_at "lk")))
local macro_rules | `(tactic| walk_at "om2") => `(tactic| first | assumption | decide | omega)
local macro_rules | `(tactic| walk_at "st") => `(tactic| with_reducible first
  | (refine Kf.w_var rfl ?_)
  | (refine Kf.w_c ?_)
  | (refine Kf.w_seq ?_)
  | (refine Kf.w_asg ?_)
  | (refine' Kf.w_gname ?sth ?_; (case sth => with_unfolding_all walk_at "set"))
  | (refine Kf.w_op ?_)
  | (refine Kf.w_un ?_)
  | (refine Kf.w_rU ?_)
  | (refine Kf.w_rI0 ?_)
  | (refine' Kf.w_rI ?sth ?_; (case sth => with_unfolding_all walk_at "side"))
  | (refine' Kf.w_rEq ?sth ?_; (case sth => with_unfolding_all rfl))
  | (refine' Kf.w_rNe ?sth ?_; (case sth => with_unfolding_all rfl))
  | (refine Kf.w_tTest ?_)
  | (refine Kf.w_tB ?_)
  | (refine Kf.w_exbl ?_)
  | (refine Kf.w_exint ?_)
  | (refine Kf.w_ifS ?_)
  | (refine Kf.w_ret ?_)
  | (refine Kf.w_retN ?_)
  | (refine Kf.w_drop ?_)
  | (refine Kf.w_and ?_)
  | (refine Kf.w_or ?_)
  | (refine Kf.w_not ?_)
  | (refine Kf.w_andV ?_)
  | (refine Kf.w_orV ?_)
  | (refine Kf.w_notV ?_)
  | (refine Kf.w_if ?_)
  | (refine Kf.w_lc ?_)
  | (refine Kf.w_for ?_)
  | (refine Kf.w_rng1 ?_)
  | (refine' Kf.w_rng1x ?sth ?stg ?_; (case sth => with_unfolding_all walk_at "om"); (case stg => with_unfolding_all walk_at "om"))
  | (refine Kf.w_ilist ?_)
  | (refine Kf.w_iseq ?_)
  | (refine Kf.w_itup ?_)
  | (refine' Kf.w_ilistx ?sth ?_; (case sth => with_unfolding_all walk_at "sq"))
  | (refine' Kf.w_itupx ?sth ?_; (case sth => with_unfolding_all walk_at "sq"))
  | (refine' Kf.w_wipe ?sth ?_; (case sth => with_unfolding_all rfl))
  | (refine Kf.w_yes ?_)
  | (refine' Kf.w_isi ?sth ?stg ?_; (case sth => with_unfolding_all walk_at "ty"); (case stg => walk_at "kit"))
  | (refine Kf.w_isN ?_)
  | (refine Kf.w_notN ?_)
  | (refine Kf.w_cb ?_)
  | (refine Kf.w_nil ?_)
  | (refine Kf.w_cons ?_)
  | (refine Kf.w_tup ?_)
  | (refine Kf.w_lst ?_)
  | (refine' Kf.w_lines ?sth ?_; (case sth => with_unfolding_all rfl))
  | (refine Kf.w_call ?_)
  | (refine Kf.w_next ?_)
  | (refine Kf.w_break ?_)
  | (refine Kf.w_cont ?_)
  | (refine Kf.w_dnewK ?_)
  | (refine Kf.w_dget ?_)
  | (refine Kf.w_sl ?_)
  | (refine Kf.w_nopart ?_)
  | (refine Kf.w_part ?_)
  | (refine Kf.w_bm ?_)
  | (refine Kf.w_bm0 ?_)
  | (refine' Kf.w_bmL ?sth ?_; (case sth => with_unfolding_all walk_at "lk"))
  | (refine' Kf.w_cat ?sth ?stg ?stf ?_; (case sth => with_unfolding_all walk_at "lk"); (case stg => with_unfolding_all walk_at "lk"); (case stf => with_unfolding_all walk_at "om"))
  | (refine' Kf.w_slL ?sth ?_; (case sth => with_unfolding_all walk_at "sq"))
  | (refine' Kf.w_inL ?sth ?_; (case sth => with_unfolding_all walk_at "sq"))
  | (refine' Kf.w_inT ?sth ?_; (case sth => with_unfolding_all walk_at "sq"))
  | (refine' Kf.w_ninL ?sth ?_; (case sth => with_unfolding_all walk_at "sq"))
  | (refine' Kf.w_ninT ?sth ?_; (case sth => with_unfolding_all walk_at "sq"))
  | (refine' Kf.w_listof ?sth ?_; (case sth => with_unfolding_all walk_at "sq"))
  | (refine' Kf.w_tupof ?sth ?_; (case sth => with_unfolding_all walk_at "sq"))
  | (refine Kf.w_listRev ?_)
  | (refine Kf.w_gsub ?_)
  | (refine' Kf.w_ixL ?sth ?stg ?_; (case sth => with_unfolding_all walk_at "sq"); (case stg => with_unfolding_all walk_at "at"))
  | (refine' Kf.w_ixT ?sth ?stg ?_; (case sth => with_unfolding_all walk_at "sq"); (case stg => with_unfolding_all walk_at "at"))
  | (refine' Kf.w_setL ?sth ?stg ?_; (case sth => with_unfolding_all walk_at "lk"); (case stg => with_unfolding_all walk_at "ixn"))
  | (refine' Kf.w_len ?sth ?_; (case sth => with_unfolding_all walk_at "sq"))
  | (refine' Kf.w_lenT ?sth ?_; (case sth => with_unfolding_all walk_at "sq"))
  | (refine Kf.w_int1 ?_)
  | (refine Kf.w_intb ?_)
  | (refine Kf.w_abs ?_)
  | (refine Kf.w_aug rfl ?_)
  | (refine Kf.w_ipI ?_)
  | (refine L2.iteT ?_)
  | (refine L2.iteF ?_)
  | (refine Kf.iteNT ?_)
  | (refine Kf.iteNF ?_)
  | (refine' Kf.ite_decT ?sth ?_; (case sth => exact rfl))
  | (refine' Kf.ite_decF ?sth ?_; (case sth => with_unfolding_all (intro e; cases e; done)))
  | (refine' Kf.ite_ndecF ?sth ?_; (case sth => exact rfl))
  | (refine' Kf.ite_ndecT ?sth ?_; (case sth => with_unfolding_all (intro e; cases e; done)))
  | (refine' Kf.ite_viT ?sth ?_; (case sth => (with_unfolding_all walk_at "om2")))
  | (refine' Kf.ite_viF ?sth ?_; (case sth => (with_unfolding_all walk_at "om2")))
  | (refine' Kf.ite_nviT ?sth ?_; (case sth => (with_unfolding_all walk_at "om2")))
  | (refine' Kf.ite_nviF ?sth ?_; (case sth => (with_unfolding_all walk_at "om2")))
  | (refine' Kf.ite_decT ?sth ?_; (case sth => (with_unfolding_all walk_at "om2")))
  | (refine' Kf.ite_decF ?sth ?_; (case sth => (with_unfolding_all walk_at "om2")))
  | with_unfolding_all walk_at "calls")
local macro_rules | `(tactic| walk_at "go") => `(tactic| repeat walk_at "st")

namespace Kf
open PySem PySem.Spec PyProof.Rows L2
open R6 (cl Over Nodes Cs)
theorem allC_over : ∀ {ns c : List Int}, c ∈ R6.allC ns → Over ns c
  | [], c, h => by
    simp only [R6.allC, List.mem_singleton] at h
    subst h
    intro l hl; cases hl
  | n :: r, c, h => by
    unfold R6.allC at h
    rw [List.mem_append, List.mem_append, List.mem_map, List.mem_map] at h
    have up : ∀ d, Over r d → Over (n :: r) d := fun d hd l hl => (hd l hl).elim (fun z => .inl (List.mem_cons_of_mem _ z)) fun z => .inr (List.mem_cons_of_mem _ z)
    rcases h with ⟨d, hd, e⟩ | ⟨d, hd, e⟩ | h
    · subst e
      intro l hl
      rcases List.mem_cons.mp hl with z | z
      · subst z; exact .inl List.mem_cons_self
      · exact up d (allC_over hd) l z
    · subst e
      intro l hl
      rcases List.mem_cons.mp hl with z | z
      · subst z; exact .inr (by rw [Int.neg_neg]; exact List.mem_cons_self)
      · exact up d (allC_over hd) l z
    · exact up c (allC_over h)
/-- the canonical clause is given back from any list of its literals -/
theorem cl_back {ls : List Int} : ∀ {ns c : List Int}, Nodes ns → c ∈ R6.allC ns → (∀ x, (x ∈ ns ∨ -x ∈ ns) → (x ∈ ls ↔ x ∈ c)) → cl ns ls = some c
  | [], c, _, h, _ => by
    simp only [R6.allC, List.mem_singleton] at h
    subst h; rfl
  | n :: r, c, hn, h, hm => by
    have hp := hn.pos n List.mem_cons_self
    have hlt : ∀ m ∈ r, n < m := (List.pairwise_cons.mp hn.up).1
    have far : ∀ x, (x ∈ r ∨ -x ∈ r) → x ≠ n ∧ x ≠ -n := fun x hx => by
      rcases hx with z | z
      · have := hlt x z; omega
      · have := hlt (-x) z; omega
    have self1 : n ∈ n :: r ∨ -n ∈ n :: r := .inl List.mem_cons_self
    have self2 : -n ∈ n :: r ∨ - -n ∈ n :: r := .inr (by rw [Int.neg_neg]; exact List.mem_cons_self)
    have upx : ∀ x, (x ∈ r ∨ -x ∈ r) → (x ∈ n :: r ∨ -x ∈ n :: r) := fun x hx => hx.elim (fun z => .inl (List.mem_cons_of_mem _ z)) fun z => .inr (List.mem_cons_of_mem _ z)
    unfold R6.allC at h
    rw [List.mem_append, List.mem_append, List.mem_map, List.mem_map] at h
    unfold cl
    rcases h with ⟨d, hd, e⟩ | ⟨d, hd, e⟩ | h
    · subst e
      have hov := allC_over hd
      have nd1 : n ∉ d := fun z => (far n (hov n z)).1 rfl
      have nd2 : -n ∉ d := fun z => (far (-n) (hov _ z)).2 rfl
      have i1 : n ∈ ls := (hm n self1).mpr List.mem_cons_self
      have i2 : -n ∉ ls := fun z => by
        rcases List.mem_cons.mp ((hm (-n) self2).mp z) with q | q
        · omega
        · exact nd2 q
      rw [if_neg (fun z => i2 z.2), cl_back hn.tail hd fun x hx => ((hm x (upx x hx)).trans ⟨fun z => (List.mem_cons.mp z).resolve_left (far x hx).1, fun z => List.mem_cons_of_mem _ z⟩)]
      show some _ = _
      dsimp only
      rw [if_pos i1]
    · subst e
      have hov := allC_over hd
      have nd1 : n ∉ d := fun z => (far n (hov n z)).1 rfl
      have nd2 : -n ∉ d := fun z => (far (-n) (hov _ z)).2 rfl
      have i1 : -n ∈ ls := (hm (-n) self2).mpr List.mem_cons_self
      have i2 : n ∉ ls := fun z => by
        rcases List.mem_cons.mp ((hm n self1).mp z) with q | q
        · omega
        · exact nd1 q
      rw [if_neg (fun z => i2 z.1), cl_back hn.tail hd fun x hx => ((hm x (upx x hx)).trans ⟨fun z => (List.mem_cons.mp z).resolve_left (far x hx).2, fun z => List.mem_cons_of_mem _ z⟩)]
      show some _ = _
      dsimp only
      rw [if_neg i2, if_pos i1]
    · have hov := allC_over h
      have i1 : n ∉ ls := fun z => (far n (hov n ((hm n self1).mp z))).1 rfl
      have i2 : -n ∉ ls := fun z => (far (-n) (hov _ ((hm (-n) self2).mp z))).2 rfl
      rw [if_neg (fun z => i1 z.1), cl_back hn.tail h fun x hx => hm x (upx x hx)]
      show some _ = _
      dsimp only
      rw [if_neg i1, if_neg i2]
/-- the state behind some lists -/
structure Asd (ns : List Int) (org cs rows : List (List Int)) : Prop where
  ok : Cs ns cs
  same : ∀ c, c ∈ cs ↔ c ∈ org
  rows : rows = (R6.rowsOf ns).filter fun r => org.all fun c => R6.holds c r
theorem asd0 {ns : List Int} : Asd ns [] [] (R6.rowsOf ns) := ⟨⟨List.nodup_nil, by simp⟩, by simp, (List.filter_eq_self.mpr (by simp)).symm⟩
theorem Asd.add {ns d : List Int} {org cs rows : List (List Int)} (h : Asd ns org cs rows) (hd : d ∈ R6.allC ns) : Asd ns (org ++ [d]) (R6.addC cs d) (rows.filter fun r => R6.holds d r) := by
  refine ⟨h.ok.add hd, fun c => ?_, ?_⟩
  · rw [List.mem_append, List.mem_singleton]
    unfold R6.addC
    split
    · rename_i hin
      rw [h.same]
      exact ⟨.inl, fun z => z.elim id fun e => by rw [e]; exact (h.same d).mp hin⟩
    · rw [List.mem_append, List.mem_singleton, h.same]
  · rw [h.rows, List.filter_filter]
    congr 1
    funext r
    rw [List.all_append, Bool.and_comm]
    simp
def lssD (ls : List (List Int)) : PyData := .list (ls.map lsD)
section
variable {P : Program} {w : World} {K : PySem.W.Frag} {mg : Str → Option Value} {base : Heap} {H : Hp} {Q : VK} {E : XK}
def spAsked (K : PySem.W.Frag) : Sp := fun vs H Q _ => ∃ (n u : V) (ns : List Int) (lss : List (List Int)), vs = [n, u] ∧ Dq H n (lsD ns) ∧ Dq H u (lssD lss) ∧ Nodes ns ∧ ns.length ≤ 4 ∧ (∀ l ∈ lss, Over ns l ∧ l.length ≤ 400) ∧ lss.length ≤ 400 ∧ ∀ H', Ext H H' → Q (.bl true) H'
theorem call_asked {n u : V} {ns : List Int} {lss : List (List Int)} (h1 : Dq H n (lsD ns)) (h2 : Dq H u (lssD lss)) (h3 : Nodes ns) (h4 : ns.length ≤ 4) (h5 : ∀ l ∈ lss, Over ns l ∧ l.length ≤ 400) (h6 : lss.length ≤ 400) (q : ∀ H', Ext H H' → Q (.bl true) H') : spAsked K ([n, u] ++ []) H Q E := ⟨n, u, ns, lss, rfl, h1, h2, h3, h4, h5, h6, q⟩
end
theorem Dq.del_ls {H : Hp} {a : Addr} {ns : List Int} {b : Addr} (h : H a = some (.lst (ns.map V.int))) (n : a ≠ b) : Dq (del H b) (.ref a) (lsD ns) := Dq.of_li (del_at h n)
abbrev s__law_asked : Stmt := topS 22
abbrev N__law_asked : List Str := ["nodes", "lists", "rows", "clauses", "literals", "due", "clause", "row"]
abbrev P__law_asked : List Str := ["nodes", "lists"]
theorem sc__law_asked : FnScope N__law_asked P__law_asked (defScope s__law_asked) := ⟨rfl, rfl, rfl, by decide +kernel, rfl, by decide +kernel, by decide +kernel⟩
section
variable {P : Program} {w : World} {K : PySem.W.Frag} {mg : Str → Option Value} {base : Heap} {H : Hp} {Q : VK} {E : XK}
theorem ok_asked (D : Df K mg "_law_asked" s__law_asked P__law_asked) (b_len : mg "len" = none) (b_list : mg "list" = none) (b_tuple : mg "tuple" = none) (b_reversed : mg "reversed" = none)
    (p__law_rows : Pr P w K mg base "_law_rows" 1 P__law_rows (spRows K)) (p__law_clause : Pr P w K mg base "_law_clause" 1 P__law_clause (spClause K)) (p_clause_of : Pr P w K mg base "clause_of" 1 P_clause_of (spClauseOf K))
    (p__law_alike : Pr P w K mg base "_law_alike" 3 P__law_alike (spAlike 1)) (p__law_holds : Pr P w K mg base "_law_holds" 1 P__law_holds (spHolds K)) (p__law_closed : Pr P w K mg base "_law_closed" 5 P__law_closed (spClosed K)) : Pr P w K mg base "_law_asked" 6 P__law_asked (spAsked K) := by
  refine D.ok sc__law_asked (fun vs H Q E h => ?_) (fun f cdv A outer s H vs Q E hr h => ?_)
  · obtain ⟨n, u, ns, lss, rfl, _⟩ := h; rfl
  obtain ⟨n, u, ns, lss, rfl, hN, hL, hn, h4, hov, hl, q⟩ := h
  obtain ⟨a, rfl, ha⟩ := hN.li
  obtain ⟨b, lvs, rfl, hb, nb, hall⟩ := hL.ls
  have lvl := hall.len
  rw [List.length_map] at lvl
  have nd := sc__law_asked.nd
  refine ⟨_, (pss_cons (ps_set (i := 2) nd rfl (Or.inl rfl) (pe_callP p__law_rows hr (pa_cons (pv 0) pa_nil)))
      (pss_cons (ps_set (i := 3) nd rfl (Or.inl rfl) (pe_lst pa_nil))
      (pss_cons (ps_for PassesOwn.never rfl (pi_listK (K := K) rfl (pv 1)) (pg_name (i := 4) nd rfl (Or.inl rfl)) (pss_cons (ps_set (i := 5) nd rfl (Or.inr rfl) (pe_callP p__law_clause hr (pa_cons (pv 0) (pa_cons (pv 4) pa_nil))))
      (pss_cons (ps_if (PW.pt (pw_or (pt_not (pt_val (pe_callP p__law_alike hr (pa_cons (pe_callP p_clause_of hr (pa_cons (pe_callTy (call_list_ofK (K := K) rfl) (by rfl) b_list (by decide +kernel) (pa_cons (pv 4) pa_nil)) pa_nil)) (pa_cons (pv 5) pa_nil))))) (pw_or1 (pt_not (pt_val (pe_callP p__law_alike hr (pa_cons (pe_callP p_clause_of hr (pa_cons (pe_callTy (call_tuple_ofK (K := K) rfl) (by rfl) b_tuple (by decide +kernel) (pa_cons (pv 4) pa_nil)) pa_nil)) (pa_cons (pv 5) pa_nil)))))))) (pss_one (ps_ret pe_bl)) pss_nil)
      (pss_one (ps_if (pt_cmp (pc_notN (pv 5))) (pss_cons (ps_setLc (i := 2) (own := [("row", 7)]) rfl nd rfl rfl (sw_true rfl rfl rfl (by decide +kernel)) (pi_listK (K := K) rfl (pv 2)) (blkOk_by (N := N__law_asked) (sc := defScope s__law_asked) (by decide +kernel)) (fun _ _ _ _ _ => pg_name (i := 7) nd rfl (Or.inl rfl)) (fun _ _ _ _ _ => pts_one (pt_val (pe_callP p__law_holds hr (pa_cons (pv 5) (pa_cons (pv 7) pa_nil))))) (fun _ _ _ _ _ => (pv 7)))
      (pss_one (ps_if (pt_cmpR (op_notInDK (K := K) rfl (hD_of hr)) (pv 5) (pv 3) (by rfl)) (pss_one (ps_expr (pe_bmK (K := K) rfl PySem.F.plainAttrs_list PySem.F.slot_list_append PySem.F.type_list_append mt_append (pv 3) (pa_cons (pv 5) pa_nil)))) pss_nil))) pss_nil)))))
      (pss_cons (ps_if (pt_not (pt_val (pe_callP p__law_closed hr (pa_cons (pv 0) (pa_cons (pv 3) pa_nil))))) (pss_one (ps_ret pe_bl)) pss_nil)
      (pss_cons (ps_for PassesOwn.never rfl (pi_listK (K := K) rfl (pv 3)) (pg_name (i := 6) nd rfl (Or.inr rfl)) (pss_cons (ps_if (pt_cmpR op_gt (pe_callB (call_lenK (K := K) rfl) (by rfl) b_len PySem.boot_len (pa_cons (pe_lc (own := [("row", 7)]) rfl nd (pi_listK (K := K) rfl (pv 2)) (blkOk_by (N := N__law_asked) (sc := defScope s__law_asked) (by decide +kernel)) (fun _ _ _ _ _ => pg_name (i := 7) nd rfl (Or.inl rfl)) (fun _ _ _ _ _ => pts_one (pt_not (pt_val (pe_callP p__law_holds hr (pa_cons (pv 6) (pa_cons (pv 7) pa_nil)))))) (fun _ _ _ _ _ => (pv 7))) pa_nil)) pe_int (nomark _)) (pss_one (ps_ret pe_bl)) pss_nil)
      (pss_one (ps_if (pt_not (pt_val (pe_callP p__law_alike hr (pa_cons (pe_callP p_clause_of hr (pa_cons (pe_listRev (K := K) rfl rfl (by rfl) b_list (by rfl) b_reversed (pv 6)) pa_nil)) (pa_cons (pv 6) pa_nil))))) (pss_one (ps_ret pe_bl)) pss_nil))))
      (pss_one (ps_ret (pe_cmpR op_eq (pe_cmpR (op_inDK (K := K) rfl (hD_of hr)) (pe_tup pa_nil) (pv 3) (by rfl)) (pe_cmpR op_eq (pe_callB (call_lenK (K := K) rfl) (by rfl) b_len PySem.boot_len (pa_cons (pv 2) pa_nil)) pe_int (nomark _)) (nomark _))))))))), ?_⟩
  refine w_start (σ := [some _, some _, none, none, none, none, none, none]) rfl ?_
  walk_at "go"
  refine call_rows hN h4 fun rv H1 hE1 hrv hr16 => ?_
  walk_at "go"
  intro cA hcA
  have cA0 : H cA = none := hE1.non hcA
  walk_at "go"
  refine for_list (K := K) (a := b) (xs := lvs) (fun i σ H' => ∃ (rv : V) (y4 y5 : Option V) (org cs rows : List (List Int)), σ = [some (.ref a), some (.ref b), some rv, some (.ref cA), y4, y5, none, none] ∧ Ext H H' ∧ Own H' cA cs ∧ Dq (del H' cA) rv (.list (rows.map lsD)) ∧ Asd ns org cs rows)
    ⟨rv, none, none, [], [], R6.rowsOf ns, rfl, hE1.newer hcA, ⟨[], L2.upd_same, .nil⟩, by rw [del_upd, del_new hcA]; exact hrv, asd0⟩ (fun i σ H' _ ⟨_, _, _, _, _, _, _, e, _⟩ => e.seqL (SqL.of hb) nb) ?_ ?_
  · rintro i x σ H2 hx ⟨rv, y4, y5, org, cs, rows, rfl, hE2, hown, hrows, hasd⟩
    obtain ⟨d, hd, hq⟩ := hall.get hx
    obtain ⟨ls, hls, rfl⟩ := map_at hd
    obtain ⟨hov1, hlen1⟩ := hov ls (List.mem_of_getElem? hls)
    obtain ⟨lb, rfl, hlb⟩ := hq.li
    have hlb2 := hE2.get hlb (npl_ints ls)
    have ha2 := hE2.get ha (npl_ints ns)
    have hrl : rows.length ≤ 16 := by rw [hasd.rows]; exact Nat.le_trans (List.length_filter_le _ _) hr16
    have hcl := hasd.ok.len h4
    walk_at "go"
    refine call_clause (SqL.of ha2) (SqL.of hlb2) (by omega) fun due H3 hE3 hdue => ?_
    walk_at "go"
    have hlb3 := hE3.get hlb2 (npl_ints ls)
    intro l1 hl1
    walk_at "go"
    refine call_clause_of (ns := ns) (ls := ls) (.inl (SqL.of L2.upd_same)) hn (by omega) hov1 (by omega) fun r4 H4 hE4 hr4 => ?_
    walk_at "go"
    have hE34 : Ext H3 H4 := (Ext.new hl1).trans hE4
    refine call_alike hr4 (hdue.ext hE34) (sm_opt fun c hc => by have := cl_len hc; omega) fun H5 hE5 => ?_
    walk_at "go"
    have hE35 : Ext H3 H5 := hE34.trans hE5
    have hlb5 := hE35.get hlb3 (npl_ints ls)
    intro l2 hl2
    walk_at "go"
    refine call_clause_of (ns := ns) (ls := ls) (.inr (SqT.of L2.upd_same)) hn (by omega) hov1 (by omega) fun r6 H6 hE6 hr6 => ?_
    walk_at "go"
    have hE36 : Ext H3 H6 := hE35.trans ((Ext.new hl2).trans hE6)
    refine call_alike hr6 (hdue.ext hE36) (sm_opt fun c hc => by have := cl_len hc; omega) fun H7 hE7 => ?_
    walk_at "go"
    have hE37 : Ext H3 H7 := hE36.trans hE7
    have hE27 : Ext H2 H7 := hE3.trans hE37
    have hdue7 := hdue.ext hE37
    have hown7 := hown.ext hE27
    have hrows7 := hrows.ext (Ext.del hE27)
    cases e : cl ns ls with
    | none =>
      rw [e] at hdue7
      cases hdue7
      walk_at "go"
      exact ⟨rv, _, _, org, cs, rows, rfl, hE2.trans hE27, hown7, hrows7, hasd⟩
    | some d =>
      rw [e] at hdue7
      have hdall : d ∈ R6.allC ns := R6.cl_all e
      obtain ⟨pd, rfl, hpd⟩ := hdue7.ti
      obtain ⟨ra, rvs, rfl, hra, nra, hrall⟩ := hrows7.ls
      have hra' := (of_del hra)
      have rvl := hrall.len
      rw [List.length_map] at rvl
      obtain ⟨cvs, hcv, hcall⟩ := id hown7
      have hra7 := hra'.2
      walk_at "go"
      refine lc_l (R := fun j acc Hd => DqAll (del Hd cA) acc (((rows.take j).filter fun r => R6.holds d r).map lsD)) (SqL.of hra'.2) nra .nil (fun j acc Ha Hb e h => h.ext (Ext.del e)) ?_ ?_
      · intro j x2 acc D2 H8 hx2 hD2 hacc hE8 hR
        obtain ⟨dd, hdd, hq2⟩ := hrall.get hx2
        obtain ⟨r, hr2, rfl⟩ := map_at hdd
        have hjl : j < rows.length := (List.getElem?_eq_some_iff.mp hr2).1
        have hal : acc.length ≤ 1000 := by
          rw [hR.len, List.length_map]
          have := List.length_filter_le (fun r => R6.holds d r) (rows.take j)
          rw [List.length_take] at this
          omega
        have hq8 : Dq (del H8 cA) x2 (lsD r) := hq2.ext (Ext.del hE8)
        have etk : (rows.take (j + 1)).filter (fun r => R6.holds d r) = (rows.take j).filter (fun r => R6.holds d r) ++ (if R6.holds d r then [r] else []) := by
          rw [List.take_add_one, hr2, List.filter_append]
          show _ ++ List.filter _ [r] = _
          rw [List.filter_cons]
          rfl
        walk_at "go"
        refine call_holds (Dq.of_ti (hE8.get hpd (npl rfl))) (hq8.ext del_sub) ?_
        walk_at "go"
        refine ite_b (fun c1 => ?_) (fun c1 => ?_)
        · walk_at "go"
          refine LcP.put hD2 hacc (hR.npl (sq_ls _)) hE8 Ext.refl hal ?_
          rw [etk, if_pos c1, List.map_append]
          refine hR.snoc ?_
          obtain ⟨xa, rfl, hxa⟩ := hq8.li
          obtain ⟨z1, z2⟩ := of_del hxa
          refine Dq.of_li (del_at (del_at z2 fun z => ?_) z1)
          obtain ⟨xb, ez, hxb⟩ := (hq2.ext del_sub).li
          cases ez
          subst z
          rw [hD2] at hxb
          cases hxb
        · refine LcP.skip hacc (hR.npl (sq_ls _)) hE8 Ext.refl ?_
          rw [etk, if_neg (by rw [c1]; exact Bool.false_ne_true), List.append_nil]
          exact hR
      · rintro D2 acc H8 hD2 hacc hE8 hR
        rw [rvl, List.take_length] at hR
        have hown8 := hown7.ext hE8
        obtain ⟨cvs8, hcv8, hcall8⟩ := id hown8
        have hdue8 := hdue7.ext hE8
        have hDc : D2 ≠ cA := fun z => by subst z; rw [hcv] at hD2; cases hD2
        walk_at "go"
        refine w_ninD hdue8 hcv8 (hcall8.ext del_sub) ?_
        have hE28 := hE27.trans hE8
        have hadd := hasd.add hdall
        have hr8 : ∀ H9, del H9 cA = del H8 cA → Dq (del H9 cA) (.ref D2) (.list ((rows.filter fun r => R6.holds d r).map lsD)) := fun H9 e9 => by
          rw [e9]
          exact .lst (del_at hacc hDc) (hR.npl (sq_ls _)) hR
        walk_at "go"
        refine ite_nd (fun c1 => ?_) (fun c1 => ?_)
        · walk_at "go"
          refine w_append hcv8 (small1000 (by have := hcall8.len; rw [List.length_map] at this; omega)) ?_
          refine ⟨_, _, _, org ++ [d], R6.addC cs d, _, rfl, (hE2.trans hE28).own cA0, ?_, hr8 _ del_upd, hadd⟩
          unfold R6.addC
          rw [if_neg c1]
          refine ⟨cvs8 ++ [.ref pd], L2.upd_same, ?_⟩
          rw [del_upd, List.map_append]
          exact hcall8.snoc (hdue8.del_tp hcv8)
        · walk_at "go"
          refine ⟨_, _, _, org ++ [d], R6.addC cs d, _, rfl, hE2.trans hE28, ?_, hr8 _ rfl, hadd⟩
          unfold R6.addC
          rw [if_pos c1]
          exact hown8
  · rintro σ H2 ⟨rv, y4, y5, org, cs, rows, rfl, hE2, hown, hrows, hasd⟩
    have ha2 := hE2.get ha (npl_ints ns)
    have acA : a ≠ cA := ne_of_none ha cA0
    have hrl : rows.length ≤ 16 := by rw [hasd.rows]; exact Nat.le_trans (List.length_filter_le _ _) hr16
    have hov2 : ∀ c ∈ cs, Over ns c := fun c hc => allC_over (hasd.ok.all c hc)
    have rowTrue : ∀ r ∈ rows, R6.Row ns r ∧ ∀ c ∈ cs, R6.holds c r = true := fun r hr => by
      rw [hasd.rows] at hr
      obtain ⟨z1, z2⟩ := List.mem_filter.mp hr
      exact ⟨R6.rowsOf_iff.mp z1, fun c hc => (List.all_eq_true.mp z2) c ((hasd.same c).mp hc)⟩
    walk_at "go"
    refine call_closed hown hasd.ok hov2 hn h4 (Dq.del_ls ha2 acA) fun H3 cs3 hE3 hown3 hk hcl => ?_
    have hrows3 : Dq (del H3 cA) rv (.list (rows.map lsD)) := hrows.ext hE3
    have hE03 : Ext H H3 := by
      have z : Ext (del H cA) (del H3 cA) := Ext.trans (Ext.del hE2) hE3
      rw [del_new cA0] at z
      exact z.trans del_sub
    obtain ⟨cvs, hcv, hcall⟩ := id hown3
    have cvl := hcall.len
    rw [List.length_map] at cvl
    have hcl3 := hk.ok.len h4
    obtain ⟨ra, rvs, rfl, hra, nra, hrall⟩ := hrows3.ls
    have rvl := hrall.len
    rw [List.length_map] at rvl
    have hra' := of_del hra
    walk_at "go"
    refine for_list (K := K) (a := cA) (xs := cvs) (fun i σ H' => ∃ y4 y5 y6, σ = [some (.ref a), some (.ref b), some (.ref ra), some (.ref cA), y4, y5, y6, none] ∧ Ext H3 H') ⟨_, _, _, rfl, Ext.refl⟩ (fun i σ H' _ ⟨_, _, _, _, e⟩ => SqL.of (e.get hcv (hcall.npl (sq_tp cs3)))) ?_ ?_
    · rintro i x σ H4 hx ⟨y4, y5, y6, rfl, hE4⟩
      obtain ⟨d, hd, hq⟩ := hcall.get hx
      obtain ⟨c, hc, rfl⟩ := map_at hd
      have hcin := List.mem_of_getElem? hc
      have hq4 : Dq H4 x (tpD c) := (hq.ext del_sub).ext hE4
      obtain ⟨ca, rfl, hca⟩ := hq4.ti
      have hclen := allC_len2 (hk.ok.all c hcin)
      have hra4 := hE4.get hra'.2 nra
      walk_at "go"
      refine lc_l (R := fun j acc Hd => acc = []) (SqL.of (hE4.get hra'.2 nra)) nra rfl (fun _ _ _ _ _ h => h) ?_ ?_
      · rintro j x2 acc D2 H5 hx2 hD2 hacc hE5 rfl
        obtain ⟨dd, hdd, hq2⟩ := hrall.get hx2
        obtain ⟨r, hr2, rfl⟩ := map_at hdd
        have hq5 : Dq H5 x2 (lsD r) := (hq2.ext del_sub).ext (hE4.trans hE5)
        have hrt := rowTrue r (List.mem_of_getElem? hr2)
        have hh : R6.holds c r = true := hk.sound r hrt.1 hrt.2 c hcin
        walk_at "go"
        refine call_holds (Dq.of_ti (hE5.get hca (npl rfl))) hq5 ?_
        rw [hh]
        walk_at "go"
        exact LcP.skip hacc npl_nil hE5 Ext.refl rfl
      · rintro D2 acc H5 hD2 hacc hE5 rfl
        have hca5 := hE5.get hca (npl rfl)
        walk_at "go"
        refine ⟨ca, _, rfl, .inr (SqT.of hca5), fun l1 hl1 => ?_⟩
        walk_at "go"
        refine call_clause_of (ns := ns) (ls := c.reverse) (.inl (SqL.of (by rw [L2.upd_same, List.map_reverse]))) hn (by omega) (fun l hl => hk.over c hcin l (List.mem_reverse.mp hl)) (by rw [List.length_reverse]; omega) fun r6 H6 hE6 hr6 => ?_
        rw [cl_back hn (hk.ok.all c hcin) fun x _ => List.mem_reverse] at hr6
        walk_at "go"
        refine call_alike hr6 ((Dq.of_ti hca5).ext ((Ext.new hl1).trans hE6)) (sm_tp (by omega)) fun H7 hE7 => ?_
        walk_at "go"
        exact ⟨_, _, _, rfl, ((hE4.trans hE5).trans ((Ext.new hl1).trans hE6)).trans hE7⟩
    · rintro σ H4 ⟨y4, y5, y6, rfl, hE4⟩
      have hown4 := hown3.ext hE4
      obtain ⟨cvs4, hcv4, hcall4⟩ := id hown4
      walk_at "go"
      intro t ht
      walk_at "go"
      refine w_inD (d := []) (Dq.of_ti (ns := []) L2.upd_same) (upd_old ht hcv4) ((hcall4.ext del_sub).ext (Ext.new ht)) ?_
      walk_at "go"
      refine w_len (SqL.of (upd_old ht (hE4.get hra'.2 nra))) ?_
      walk_at "go"
      have hdec := R6.decides hn (org := cs) hcl (fun c hc => hk.over c hc) (fun c hc => hk.pre.subset hc) hk.sound
      have hrows0 : rows = [] ↔ ∀ row, R6.Row ns row → ¬ ∀ c ∈ cs, R6.holds c row = true := by
        constructor
        · intro e row hrow hall'
          have : row ∈ rows := by
            rw [hasd.rows]
            exact List.mem_filter.mpr ⟨R6.rowsOf_iff.mpr hrow, List.all_eq_true.mpr fun c hc => hall' c ((hasd.same c).mpr hc)⟩
          rw [e] at this
          cases this
        · intro h
          cases e : rows with
          | nil => rfl
          | cons r rest =>
            have := rowTrue r (by rw [e]; exact List.mem_cons_self)
            exact absurd this.2 (h r this.1)
      have key : decide ([] ∈ cs3) = decide (V.int ((rvs.length : Nat) : Int) = V.int 0) := by
        rw [rvl]
        by_cases e : [] ∈ cs3
        · have e2 : rows = [] := hrows0.mpr (hdec.mp e)
          rw [decide_eq_true e, e2]
          rfl
        · have e2 : rows ≠ [] := fun z => e (hdec.mpr (hrows0.mp z))
          rw [decide_eq_false e]
          symm
          refine decide_eq_false fun z => e2 ?_
          have z := V.int.inj z
          exact List.eq_nil_of_length_eq_zero (by omega)
      rw [key, decide_eq_true rfl]
      exact q _ ((hE03.trans hE4).newer ht)
end
end Kf

end
section
set_option Elab.async false
set_option linter.all false
set_option maxRecDepth 100000
set_option maxHeartbeats 4000000
local macro_rules | `(tactic| walk_at "npl") => `(tactic| first | exact Kf.npl rfl | exact Kf.npl_ints _ | exact Kf.npl_one _ _ | exact Kf.npl_refs _ | assumption)
local macro_rules | `(tactic| walk_at "nn") => `(tactic| first
  | assumption
  | (refine' Kf.Ext.non ?nne ?nnh; (case nne => assumption); (case nnh => walk_at "nn")))
local macro_rules | `(tactic| walk_at "ext") => `(tactic| first
  | assumption
  | exact Kf.Ext.refl
  | (refine' Kf.Ext.newer ?exa ?exn; (case exn => assumption); (case exa => walk_at "ext"))
  | (refine' Kf.Ext.own ?exa ?exn; (case exn => walk_at "nn"); (case exa => walk_at "ext"))
  | (refine' Kf.Ext.trans ?exa ?exb; (case exb => assumption); (case exa => walk_at "ext")))
local macro_rules | `(tactic| walk_at "pool") => `(tactic| first
  | assumption
  | (refine' Kf.PoolAt.ext ?plh ?ple; (case plh => assumption); (case ple => walk_at "ext"))
  | (refine' Kf.PoolAt.upd ?plh ?plo ?pln; (case plo => assumption); (case pln => walk_at "npl"); (case plh => walk_at "pool")))
local macro_rules | `(tactic| walk_at "lk") => `(tactic| first
  | assumption
  | exact L2.upd_same
  | (refine' Kf.upd_old ?lkn ?lkh; (case lkn => assumption); (case lkh => walk_at "lk"))
  | (refine' Kf.upd_oth ?lkn ?lkh; (case lkn => (first | assumption | (apply Ne.symm; assumption))); (case lkh => walk_at "lk"))
  | (refine' Kf.Ext.get ?lke ?lkh ?lkn; (case lke => assumption); (case lkh => walk_at "lk"); (case lkn => walk_at "npl"))
  | (refine' L2.Same.at ?lke ?lkh; (case lke => assumption); (case lkh => walk_at "lk")))
local macro_rules | `(tactic| walk_at "sq") => `(tactic| first
  | assumption
  | (refine' L2.SqL.of ?sqh; (case sqh => walk_at "lk"))
  | (refine' L2.SqT.of ?sqh; (case sqh => walk_at "lk"))
  | (refine' Kf.Ext.seqL ?sqe ?sqh ?sqn; (case sqh => assumption); (case sqe => walk_at "ext"); (case sqn => walk_at "npl"))
  | (refine' Kf.Ext.seqT ?sqe ?sqh; (case sqh => assumption); (case sqe => walk_at "ext")))
local macro_rules | `(tactic| walk_at "at") => `(tactic| first | exact L2.atI_nat (j := 0) rfl | exact L2.atI_nat (j := 1) rfl | exact L2.atI_nat (j := 2) rfl | exact L2.atI_nat (j := 3) rfl | exact L2.atI_nat (j := 4) rfl | assumption)
local macro_rules | `(tactic| walk_at "ixn") => `(tactic| first | exact Kf.ixN_nat (j := 0) rfl | exact Kf.ixN_nat (j := 1) rfl | exact Kf.ixN_nat (j := 2) rfl | exact Kf.ixN_nat (j := 3) rfl | assumption)
local macro_rules | `(tactic| walk_at "set") => `(tactic| (first | (simp only [List.set_cons_succ, List.set_cons_zero]; rfl) | rfl))
local macro_rules | `(tactic| walk_at "om") => `(tactic| first | decide | omega | (simp only [List.length_map, List.length_cons, List.length_nil] at *; omega))
local macro_rules | `(tactic| walk_at "calls") => `(tactic| first
  | (with_reducible refine' Kf.call_take ?clp ?cla ?clb ?clq; (case clp => walk_at "pool"); (case cla => walk_at "om"); (case clb => walk_at "om"); intro r H' hE h0 h1)
  | (with_reducible refine' Kf.call_pool ?cls ?cla ?clq; (case cls => walk_at "sq"); (case cla => walk_at "om"); intro p H' hE hN hP)
  | (with_reducible refine' Kf.call_turn ?cls ?clp ?cla ?clq; (case cls => walk_at "sq"); (case clp => walk_at "pool"); (case cla => walk_at "om"); intro u H' hE hP))
local macro_rules | `(tactic| walk_at "side") => `(tactic| first
  | exact Kf.cmul_fmod (by decide) (by decide)
  | exact rfl
  | decide
  | omega
  | assumption
  | (refine ⟨?_, ?_⟩ <;> decide)
  | (refine ⟨?_, ?_, ?_⟩ <;> decide)
  | (refine ⟨?_, ?_⟩ <;> omega)
  | (refine Or.inl ⟨?_, ?_⟩ <;> decide)
  | (refine Or.inr ⟨?_, ?_⟩ <;> decide)
  | (refine Or.inl ⟨?_, ?_⟩ <;> omega)
  | (refine Or.inr ⟨?_, ?_⟩ <;> omega))
local macro_rules | `(tactic| walk_at "kit") => `(tactic| first | exact Kf.isi_int_int | exact Kf.isi_int_bool | exact Kf.isi_int_str | exact Kf.isi_int_list | exact Kf.isi_int_tuple | exact Kf.isi_bool_int | exact Kf.isi_bool_bool | exact Kf.isi_bool_str | exact Kf.isi_bool_list | exact Kf.isi_bool_tuple | exact Kf.isi_str_int | exact Kf.isi_str_bool | exact Kf.isi_str_str | exact Kf.isi_str_list | exact Kf.isi_str_tuple | exact Kf.isi_non_list | exact Kf.isi_non_tuple | exact Kf.isi_list_list | exact Kf.isi_list_tuple | exact Kf.isi_tuple_list | exact Kf.isi_tuple_tuple | exact Kf.isi_dict_dict)
local macro_rules | `(tactic| walk_at "ty") => `(tactic| first
  | exact L2.TyX.base (L2.TyOf.int _)
  | exact L2.TyX.base (L2.TyOf.bl _)
  | exact L2.TyX.base (L2.TyOf.str _)
  | exact L2.TyX.base L2.TyOf.non
  | (refine' L2.TyX.base (L2.TyOf.lst ?tyh); (case tyh => walk_at "lk"))
  | (refine' L2.TyX.base (L2.TyOf.tup ?tyh); (case tyh => walk_at "lk"))
  | (refine' L2.TyX.base (L2.TyOf.dK ?tyh); (case tyh => walk_at "lk")))
local macro_rules | `(tactic| walk_at "om2") => `(tactic| first | assumption | decide | omega)
local macro_rules | `(tactic| walk_at "st") => `(tactic| with_reducible first
  | (refine Kf.w_var rfl ?_)
  | (refine Kf.w_c ?_)
  | (refine Kf.w_seq ?_)
  | (refine Kf.w_asg ?_)
  | (refine' Kf.w_gname ?sth ?_; (case sth => with_unfolding_all walk_at "set"))
  | (refine Kf.w_op ?_)
  | (refine Kf.w_un ?_)
  | (refine Kf.w_rU ?_)
  | (refine Kf.w_rI0 ?_)
  | (refine' Kf.w_rI ?sth ?_; (case sth => with_unfolding_all walk_at "side"))
  | (refine' Kf.w_rEq ?sth ?_; (case sth => with_unfolding_all rfl))
  | (refine' Kf.w_rNe ?sth ?_; (case sth => with_unfolding_all rfl))
  | (refine Kf.w_tTest ?_)
  | (refine Kf.w_tB ?_)
  | (refine Kf.w_exbl ?_)
  | (refine Kf.w_exint ?_)
  | (refine Kf.w_ifS ?_)
  | (refine Kf.w_ret ?_)
  | (refine Kf.w_retN ?_)
  | (refine Kf.w_drop ?_)
  | (refine Kf.w_and ?_)
  | (refine Kf.w_or ?_)
  | (refine Kf.w_not ?_)
  | (refine Kf.w_andV ?_)
  | (refine Kf.w_orV ?_)
  | (refine Kf.w_notV ?_)
  | (refine Kf.w_if ?_)
  | (refine Kf.w_lc ?_)
  | (refine Kf.w_for ?_)
  | (refine Kf.w_rng1 ?_)
  | (refine' Kf.w_rng1x ?sth ?stg ?_; (case sth => with_unfolding_all walk_at "om"); (case stg => with_unfolding_all walk_at "om"))
  | (refine Kf.w_ilist ?_)
  | (refine Kf.w_iseq ?_)
  | (refine Kf.w_itup ?_)
  | (refine' Kf.w_ilistx ?sth ?_; (case sth => with_unfolding_all walk_at "sq"))
  | (refine' Kf.w_itupx ?sth ?_; (case sth => with_unfolding_all walk_at "sq"))
  | (refine' Kf.w_wipe ?sth ?_; (case sth => with_unfolding_all rfl))
  | (refine Kf.w_yes ?_)
  | (refine' Kf.w_isi ?sth ?stg ?_; (case sth => with_unfolding_all walk_at "ty"); (case stg => walk_at "kit"))
  | (refine Kf.w_isN ?_)
  | (refine Kf.w_notN ?_)
  | (refine Kf.w_cb ?_)
  | (refine Kf.w_nil ?_)
  | (refine Kf.w_cons ?_)
  | (refine Kf.w_tup ?_)
  | (refine Kf.w_lst ?_)
  | (refine' Kf.w_lines ?sth ?_; (case sth => with_unfolding_all rfl))
  | (refine Kf.w_call ?_)
  | (refine Kf.w_next ?_)
  | (refine Kf.w_break ?_)
  | (refine Kf.w_cont ?_)
  | (refine Kf.w_dnewK ?_)
  | (refine Kf.w_dget ?_)
  | (refine Kf.w_sl ?_)
  | (refine Kf.w_nopart ?_)
  | (refine Kf.w_part ?_)
  | (refine Kf.w_bm ?_)
  | (refine Kf.w_bm0 ?_)
  | (refine' Kf.w_bmL ?sth ?_; (case sth => with_unfolding_all walk_at "lk"))
  | (refine' Kf.w_cat ?sth ?stg ?stf ?_; (case sth => with_unfolding_all walk_at "lk"); (case stg => with_unfolding_all walk_at "lk"); (case stf => with_unfolding_all walk_at "om"))
  | (refine' Kf.w_slL ?sth ?_; (case sth => with_unfolding_all walk_at "sq"))
  | (refine' Kf.w_inL ?sth ?_; (case sth => with_unfolding_all walk_at "sq"))
  | (refine' Kf.w_inT ?sth ?_; (case sth => with_unfolding_all walk_at "sq"))
  | (refine' Kf.w_ninL ?sth ?_; (case sth => with_unfolding_all walk_at "sq"))
  | (refine' Kf.w_ninT ?sth ?_; (case sth => with_unfolding_all walk_at "sq"))
  | (refine' Kf.w_listof ?sth ?_; (case sth => with_unfolding_all walk_at "sq"))
  | (refine' Kf.w_tupof ?sth ?_; (case sth => with_unfolding_all walk_at "sq"))
  | (refine Kf.w_listRev ?_)
  | (refine Kf.w_gsub ?_)
  | (refine' Kf.w_ixL ?sth ?stg ?_; (case sth => with_unfolding_all walk_at "sq"); (case stg => with_unfolding_all walk_at "at"))
  | (refine' Kf.w_ixT ?sth ?stg ?_; (case sth => with_unfolding_all walk_at "sq"); (case stg => with_unfolding_all walk_at "at"))
  | (refine' Kf.w_setL ?sth ?stg ?_; (case sth => with_unfolding_all walk_at "lk"); (case stg => with_unfolding_all walk_at "ixn"))
  | (refine' Kf.w_len ?sth ?_; (case sth => with_unfolding_all walk_at "sq"))
  | (refine' Kf.w_lenT ?sth ?_; (case sth => with_unfolding_all walk_at "sq"))
  | (refine Kf.w_int1 ?_)
  | (refine Kf.w_intb ?_)
  | (refine Kf.w_abs ?_)
  | (refine Kf.w_aug rfl ?_)
  | (refine Kf.w_ipI ?_)
  | (refine L2.iteT ?_)
  | (refine L2.iteF ?_)
  | (refine Kf.iteNT ?_)
  | (refine Kf.iteNF ?_)
  | (refine' Kf.ite_decT ?sth ?_; (case sth => exact rfl))
  | (refine' Kf.ite_decF ?sth ?_; (case sth => with_unfolding_all (intro e; cases e; done)))
  | (refine' Kf.ite_ndecF ?sth ?_; (case sth => exact rfl))
  | (refine' Kf.ite_ndecT ?sth ?_; (case sth => with_unfolding_all (intro e; cases e; done)))
  | (refine' Kf.ite_viT ?sth ?_; (case sth => (with_unfolding_all walk_at "om2")))
  | (refine' Kf.ite_viF ?sth ?_; (case sth => (with_unfolding_all walk_at "om2")))
  | (refine' Kf.ite_nviT ?sth ?_; (case sth => (with_unfolding_all walk_at "om2")))
  | (refine' Kf.ite_nviF ?sth ?_; (case sth => (with_unfolding_all walk_at "om2")))
  | (refine' Kf.ite_decT ?sth ?_; (case sth => (with_unfolding_all walk_at "om2")))
  | (refine' Kf.ite_decF ?sth ?_; (case sth => (with_unfolding_all walk_at "om2")))
  | with_unfolding_all walk_at "calls")
local macro_rules | `(tactic| walk_at "go") => `(tactic| repeat walk_at "st")

namespace Kf
open PySem PySem.Spec PyProof.Rows L2
open R6 (cl Over Nodes Cs)
/-- a table of ints at a drawn place -/
theorem tab {ns : List Int} {r : Int} (h0 : 0 ≤ r) (h1 : r < (ns.length : Nat)) : ∃ n ∈ ns, atI (ns.map V.int) r = some (.int n) := by
  obtain ⟨x, hx, _, e⟩ := atI_in (xs := ns.map V.int) h0 (by rw [List.length_map]; exact h1)
  obtain ⟨n, hn, rfl⟩ := List.mem_map.mp hx
  exact ⟨n, hn, e⟩
theorem nodes_snoc {ns : List Int} {n : Int} (h : Nodes ns) (hp : 0 < n) (hl : ∀ m ∈ ns, m < n) : Nodes (ns ++ [n]) := by
  refine ⟨fun m hm => ?_, List.pairwise_append.mpr ⟨h.up, by simp, fun a ha b hb => ?_⟩⟩
  · rcases List.mem_append.mp hm with z | z
    · exact h.pos m z
    · rw [List.mem_singleton] at z; omega
  · rw [List.mem_singleton] at hb
    subst hb
    exact hl a ha
section
variable {K : PySem.W.Frag} {H : Hp} {Q : VK}
theorem w_tab {p : Addr} {ns : List Int} {r : Int} (h : H p = some (.tup (ns.map V.int))) (h0 : 0 ≤ r) (h1 : r < (ns.length : Nat)) (q : ∀ n ∈ ns, Q (.int n) H) : rIxT K (.ref p) (.int r) H Q := by
  obtain ⟨n, hn, e⟩ := tab h0 h1
  exact w_ixT (SqT.of h) e (q n hn)
end
abbrev s__law_nodes : Stmt := topS 11
abbrev N__law_nodes : List Str := ["pool", "nodes", "node", "k"]
abbrev P__law_nodes : List Str := ["pool"]
theorem sc__law_nodes : FnScope N__law_nodes P__law_nodes (defScope s__law_nodes) := ⟨rfl, rfl, rfl, by decide +kernel, rfl, by decide +kernel, by decide +kernel⟩
abbrev s__law_literals : Stmt := topS 12
abbrev N__law_literals : List Str := ["pool", "nodes", "row", "literals", "k", "at"]
abbrev P__law_literals : List Str := ["pool", "nodes", "row"]
theorem sc__law_literals : FnScope N__law_literals P__law_literals (defScope s__law_literals) := ⟨rfl, rfl, rfl, by decide +kernel, rfl, by decide +kernel, by decide +kernel⟩
abbrev s__law_signs : Stmt := topS 13
abbrev N__law_signs : List Str := ["one", "two", "odd"]
abbrev P__law_signs : List Str := ["one", "two", "odd"]
theorem sc__law_signs : FnScope N__law_signs P__law_signs (defScope s__law_signs) := ⟨rfl, rfl, rfl, by decide +kernel, rfl, by decide +kernel, by decide +kernel⟩
abbrev s__law_dressed : Stmt := topS 14
abbrev N__law_dressed : List Str := ["pool", "literals", "out", "k"]
abbrev P__law_dressed : List Str := ["pool", "literals"]
theorem sc__law_dressed : FnScope N__law_dressed P__law_dressed (defScope s__law_dressed) := ⟨rfl, rfl, rfl, by decide +kernel, rfl, by decide +kernel, by decide +kernel⟩
section
variable {P : Program} {w : World} {K : PySem.W.Frag} {mg : Str → Option Value} {base : Heap} {H : Hp} {Q : VK} {E : XK}
def spNodes (K : PySem.W.Frag) : Sp := fun vs H Q _ => ∃ (v : V), vs = [v] ∧ PoolAt H v ∧ ∀ r H' ns, Ext H H' → Nodes ns → 1 ≤ ns.length → ns.length ≤ 4 → Dq H' r (lsD ns) → Q r H'
theorem call_nodes {v : V} (h : PoolAt H v) (q : ∀ r H' ns, Ext H H' → Nodes ns → 1 ≤ ns.length → ns.length ≤ 4 → Dq H' r (lsD ns) → Q r H') : spNodes K ([v] ++ []) H Q E := ⟨v, rfl, h, q⟩
theorem ok_nodes (D : Df K mg "_law_nodes" s__law_nodes P__law_nodes) (b_range : mg "range" = none) (p__law_take : Pr P w K mg base "_law_take" 1 P__law_take (spTake K)) : Pr P w K mg base "_law_nodes" 2 P__law_nodes (spNodes K) := by
  refine D.ok sc__law_nodes (fun vs H Q E h => ?_) (fun f cdv A outer s H vs Q E hr h => ?_)
  · obtain ⟨v, rfl, _⟩ := h; rfl
  obtain ⟨v, rfl, hP, q⟩ := h
  have nd := sc__law_nodes.nd
  refine ⟨_, (pss_cons (ps_set (i := 1) nd rfl (Or.inl rfl) (pe_lst pa_nil))
      (pss_cons (ps_set (i := 2) nd rfl (Or.inl rfl) pe_int)
      (pss_cons (ps_for PassesOwn.never rfl (pi_range1 (by rfl) b_range (pa_cons (pe_ix (ix_tupK (K := K) rfl) (pe_tup (pa_cons pe_int (pa_cons pe_int (pa_cons pe_int (pa_cons pe_int (pa_cons pe_int (pa_cons pe_int (pa_cons pe_int (pa_cons pe_int pa_nil))))))))) (pe_callP p__law_take hr (pa_cons (pv 0) (pa_cons pe_int pa_nil))) (fun _ _ => rfl)) pa_nil)) (pg_name (i := 3) nd rfl (Or.inl rfl)) (pss_cons (ps_set (i := 2) nd rfl (Or.inl rfl) (pe_op op_add (pe_op op_add (pv 2) pe_int) (pe_callP p__law_take hr (pa_cons (pv 0) (pa_cons (pe_ix (ix_tupK (K := K) rfl) (pe_tup (pa_cons pe_int (pa_cons pe_int (pa_cons pe_int (pa_cons pe_int pa_nil))))) (pe_callP p__law_take hr (pa_cons (pv 0) (pa_cons pe_int pa_nil))) (fun _ _ => rfl)) pa_nil)))))
      (pss_one (ps_expr (pe_bmK (K := K) rfl PySem.F.plainAttrs_list PySem.F.slot_list_append PySem.F.type_list_append mt_append (pv 1) (pa_cons (pv 2) pa_nil))))))
      (pss_one (ps_ret (pv 1)))))), ?_⟩
  refine w_start (σ := [some _, none, none, none]) rfl ?_
  walk_at "go"
  intro o ho
  walk_at "go"
  intro p hp
  walk_at "go"
  rename_i r H1 hE1 r0 r1
  refine w_tab (ns := [2, 3, 3, 4, 4, 3, 4, 1]) (hE1.get L2.upd_same (npl rfl)) r0 r1 fun n hn => ?_
  have hnb : 1 ≤ n ∧ n ≤ 4 := by
    simp only [List.mem_cons, List.not_mem_nil, or_false] at hn
    omega
  have hEo : Ext H H1 := ((Ext.new ho).newer hp).trans hE1
  have hoo : H1 o = some (.lst []) := hE1.get (upd_old hp L2.upd_same) npl_nil
  walk_at "go"
  refine for_range (lo := 0) (n := n.toNat) (fun i σ H' => ∃ (y : Option V) (z : Int) (acc : List Int), σ = [some v, some (.ref o), some (.int z), y] ∧ Ext H H' ∧ H' o = some (.lst (acc.map V.int)) ∧ Nodes acc ∧ acc.length = i ∧ 0 ≤ z ∧ ∀ m ∈ acc, m ≤ z)
    ⟨none, 0, [], rfl, hEo, hoo, ⟨by simp, by simp⟩, rfl, Int.le_refl 0, by simp⟩ ?_ ?_
  · rintro i σ H2 hi ⟨y, z, acc, rfl, hE, hacc, hnod, hlen, hz, hm⟩
    walk_at "go"
    intro p2 hp2
    walk_at "go"
    rename_i r2 H3 hE3 s0 s1
    refine w_tab (ns := [1, 3, 40, 900]) (hE3.get L2.upd_same (npl rfl)) s0 s1 fun n2 hn2 => ?_
    have hnb2 : 1 ≤ n2 ∧ n2 ≤ 900 := by
      simp only [List.mem_cons, List.not_mem_nil, or_false] at hn2
      omega
    walk_at "go"
    rename_i r4 H4 hE4 t0 t1
    have hE24 : Ext H2 H4 := ((Ext.new hp2).trans hE3).trans hE4
    have hacc4 := hE24.get hacc (npl_ints acc)
    walk_at "go"
    refine w_append hacc4 (small1000 (by rw [List.length_map]; omega)) ?_
    refine ⟨_, z + 1 + r4, acc ++ [z + 1 + r4], rfl, (hE.trans hE24).own ho, by rw [L2.upd_same, List.map_append]; rfl, nodes_snoc hnod (by omega) (fun m hm' => by have := hm m hm'; omega), by rw [List.length_append, hlen]; rfl, by omega, fun m hm' => ?_⟩
    rcases List.mem_append.mp hm' with a | a
    · have := hm m a; omega
    · rw [List.mem_singleton] at a; omega
  · rintro σ H2 ⟨y, z, acc, rfl, hE, hacc, hnod, hlen, hz, hm⟩
    walk_at "go"
    exact q _ _ acc hE hnod (by omega) (by omega) (Dq.of_li hacc)
/-- a row of signs, or none -/
def RowOk (ns row : List Int) : Prop := row = [] ∨ (row.length = ns.length ∧ ∀ s ∈ row, s = 1 ∨ s = -1)
def spLiterals (K : PySem.W.Frag) : Sp := fun vs H Q _ => ∃ (v n u : V) (ns row : List Int), vs = [v, n, u] ∧ PoolAt H v ∧ Dq H n (lsD ns) ∧ Dq H u (lsD row) ∧ 1 ≤ ns.length ∧ ns.length ≤ 4 ∧ RowOk ns row ∧ ∀ r H' ls, Ext H H' → H r = none → Over ns ls → ls.length ≤ 3 → H' r = some (.lst (ls.map V.int)) → Q (.ref r) H'
theorem call_literals {v n u : V} {ns row : List Int} (h : PoolAt H v) (h1 : Dq H n (lsD ns)) (h2 : Dq H u (lsD row)) (h3 : 1 ≤ ns.length) (h4 : ns.length ≤ 4) (h5 : RowOk ns row) (q : ∀ r H' ls, Ext H H' → H r = none → Over ns ls → ls.length ≤ 3 → H' r = some (.lst (ls.map V.int)) → Q (.ref r) H') : spLiterals K ([v, n, u] ++ []) H Q E := ⟨v, n, u, ns, row, rfl, h, h1, h2, h3, h4, h5, q⟩
theorem over_sign {ns : List Int} {m r : Int} (hm : m ∈ ns) (h0 : 0 ≤ r) (h1 : r < 2) : m * (1 - 2 * r) ∈ ns ∨ -(m * (1 - 2 * r)) ∈ ns := by
  have e : r = 0 ∨ r = 1 := by omega
  rcases e with e | e
  · subst e; exact .inl (by simpa using hm)
  · subst e; exact .inr (by rw [show (1 : Int) - 2 * 1 = -1 by decide]; simpa using hm)
theorem over_snoc {ns ls : List Int} {x : Int} (h : Over ns ls) (hx : x ∈ ns ∨ -x ∈ ns) : Over ns (ls ++ [x]) := fun l hl => by
  rcases List.mem_append.mp hl with z | z
  · exact h l z
  · rw [List.mem_singleton] at z; subst z; exact hx
theorem ok_literals (D : Df K mg "_law_literals" s__law_literals P__law_literals) (b_len : mg "len" = none) (b_range : mg "range" = none) (p__law_take : Pr P w K mg base "_law_take" 1 P__law_take (spTake K)) (p__law_pick : Pr P w K mg base "_law_pick" 2 P__law_pick (spPick K)) : Pr P w K mg base "_law_literals" 3 P__law_literals (spLiterals K) := by
  refine D.ok sc__law_literals (fun vs H Q E h => ?_) (fun f cdv A outer s H vs Q E hr h => ?_)
  · obtain ⟨v, n, u, ns, row, rfl, _⟩ := h; rfl
  obtain ⟨v, n, u, ns, row, rfl, hP, hN, hU, n1, n4, hrow, q⟩ := h
  obtain ⟨a, rfl, ha⟩ := hN.li
  obtain ⟨b, rfl, hb⟩ := hU.li
  have nd := sc__law_literals.nd
  have nne : ns.map V.int ≠ [] := fun z => by
    rw [List.map_eq_nil_iff] at z
    rw [z] at n1
    simp at n1
  refine ⟨_, (pss_cons (ps_set (i := 3) nd rfl (Or.inl rfl) (pe_lst pa_nil))
      (pss_cons (ps_for PassesOwn.never rfl (pi_range1 (by rfl) b_range (pa_cons (pe_ix (ix_tupK (K := K) rfl) (pe_tup (pa_cons pe_int (pa_cons pe_int (pa_cons pe_int (pa_cons pe_int (pa_cons pe_int (pa_cons pe_int (pa_cons pe_int (pa_cons pe_int (pa_cons pe_int (pa_cons pe_int pa_nil))))))))))) (pe_callP p__law_take hr (pa_cons (pv 0) (pa_cons pe_int pa_nil))) (fun _ _ => rfl)) pa_nil)) (pg_name (i := 4) nd rfl (Or.inl rfl)) (pss_one (ps_expr (pe_bmK (K := K) rfl PySem.F.plainAttrs_list PySem.F.slot_list_append PySem.F.type_list_append mt_append (pv 3) (pa_cons (pe_op op_mul (pe_callP p__law_pick hr (pa_cons (pv 0) (pa_cons (pv 1) pa_nil))) (pe_op op_sub pe_int (pe_op op_mul pe_int (pe_callP p__law_take hr (pa_cons (pv 0) (pa_cons pe_int pa_nil)))))) pa_nil)))))
      (C8.pss_cut (ps_if (pt_cmpR op_gt (pe_callB (call_lenK (K := K) rfl) (by rfl) b_len PySem.boot_len (pa_cons (pv 2) pa_nil)) pe_int (nomark _)) (pss_cons (ps_set (i := 5) nd rfl (Or.inl rfl) (pe_callP p__law_take hr (pa_cons (pv 0) (pa_cons (pe_callB (call_lenK (K := K) rfl) (by rfl) b_len PySem.boot_len (pa_cons (pv 1) pa_nil)) pa_nil))))
      (pss_one (ps_asg (pe_op op_mul (pe_ix (ix_listK (K := K) rfl) (pv 1) (pv 5) (fun _ _ => rfl)) (pe_ix (ix_listK (K := K) rfl) (pv 2) (pv 5) (fun _ _ => rfl))) (pg_sub (pv 3) pe_int set_list)))) pss_nil)
      (pss_one (ps_ret (pv 3)))))), ?_⟩
  refine w_start (σ := [some _, some _, some _, none, none, none]) rfl ?_
  walk_at "go"
  intro o ho
  walk_at "go"
  intro p hp
  walk_at "go"
  rename_i r H1 hE1 r0 r1
  refine w_tab (ns := [1, 2, 2, 3, 3, 2, 1, 3, 2, 3]) (hE1.get L2.upd_same (npl rfl)) r0 r1 fun m hm => ?_
  have hmb : 1 ≤ m ∧ m ≤ 3 := by
    simp only [List.mem_cons, List.not_mem_nil, or_false] at hm
    omega
  have hEo : Ext H H1 := ((Ext.new ho).newer hp).trans hE1
  have hoo : H1 o = some (.lst []) := hE1.get (upd_old hp L2.upd_same) npl_nil
  walk_at "go"
  refine for_range (lo := 0) (n := m.toNat) (fun i σ H' => ∃ (y : Option V) (acc : List Int), σ = [some v, some (.ref a), some (.ref b), some (.ref o), y, none] ∧ Ext H H' ∧ H' o = some (.lst (acc.map V.int)) ∧ Over ns acc ∧ acc.length = i)
    ⟨none, [], rfl, hEo, hoo, (fun l hl => by cases hl), rfl⟩ ?_ ?_
  · rintro i σ H2 hi ⟨y, acc, rfl, hE, hacc, hov, hlen⟩
    walk_at "go"
    refine call_pick (hP.ext hE) (SqL.of (hE.get ha (npl_ints ns))) (npl_ints ns) nne (by rw [List.length_map]; omega) fun x H3 hx hE3 => ?_
    obtain ⟨k, hk, rfl⟩ := List.mem_map.mp hx
    walk_at "go"
    rename_i r4 H4 hE4 t0 t1
    have hE24 := hE3.trans hE4
    have hacc4 := hE24.get hacc (npl_ints acc)
    walk_at "go"
    refine w_append hacc4 (small1000 (by rw [List.length_map]; omega)) ?_
    exact ⟨_, acc ++ [k * (1 - 2 * r4)], rfl, (hE.trans hE24).own ho, by rw [L2.upd_same, List.map_append]; rfl, over_snoc hov (over_sign hk t0 t1), by rw [List.length_append, hlen]; rfl⟩
  · rintro σ H2 ⟨y, acc, rfl, hE, hacc, hov, hlen⟩
    have hb2 := hE.get hb (npl_ints row)
    have ha2 := hE.get ha (npl_ints ns)
    refine w_cut (fun σ' H' => ∃ (y z : Option V) (acc : List Int), σ' = [some v, some (.ref a), some (.ref b), some (.ref o), y, z] ∧ Ext H H' ∧ H' o = some (.lst (acc.map V.int)) ∧ Over ns acc ∧ acc.length ≤ 3) ?_ ?_
    · walk_at "go"
      refine ite_d (fun c1 => ?_) (fun c1 => ?_)
      · rw [List.length_map] at c1
        have hrw : row.length = ns.length ∧ ∀ s ∈ row, s = 1 ∨ s = -1 := hrow.resolve_left fun z => by
          rw [z] at c1
          simp at c1
        walk_at "go"
        rename_i r4 H4 hE4 t0 t1
        rw [List.length_map] at t1
        have hacc4 := hE4.get hacc (npl_ints acc)
        obtain ⟨k, hk, ek⟩ := tab (ns := ns) t0 t1
        obtain ⟨s, hs, es⟩ := tab (ns := row) t0 (by omega)
        have hsb := hrw.2 s hs
        refine w_ixL (SqL.of (hE4.get ha2 (npl_ints ns))) ek ?_
        walk_at "go"
        refine w_setL hacc4 (ixN_nat (j := 0) (by rw [List.length_map, hlen]; exact Nat.ble_eq_true_of_le (by omega))) ?_
        refine ⟨_, _, acc.set 0 (k * s), rfl, (hE.trans hE4).own ho, by rw [L2.upd_same, List.map_set], fun l hl => ?_, by rw [List.length_set]; omega⟩
        rcases List.mem_or_eq_of_mem_set hl with z | z
        · exact hov l z
        · subst z
          rcases hsb with e | e
          · subst e; exact .inl (by simpa using hk)
          · subst e; exact .inr (by simpa using hk)
      · exact ⟨_, _, acc, rfl, hE, hacc, hov, by omega⟩
    · rintro σ' H3 ⟨y, z, acc, rfl, hE, hacc, hov, hlen⟩
      walk_at "go"
      exact q o H3 acc hE ho hov hlen hacc
def spSigns (K : PySem.W.Frag) : Sp := fun vs H Q _ => ∃ (x y o : Int), vs = [.int x, .int y, .int o] ∧ ∀ (r : Addr) (H' : Hp) (lss : List (List Int)), Ext H H' → H r = none → (∀ ls ∈ lss, ls.length = 2 ∧ ∀ l ∈ ls, l = x ∨ l = -x ∨ l = y ∨ l = -y) → lss.length = 2 → (∃ vs, H' r = some (.lst vs) ∧ DqAll (del H' r) vs (lss.map lsD)) → Q (.ref r) H'
theorem call_signs {x y o : Int} (q : ∀ (r : Addr) (H' : Hp) (lss : List (List Int)), Ext H H' → H r = none → (∀ ls ∈ lss, ls.length = 2 ∧ ∀ l ∈ ls, l = x ∨ l = -x ∨ l = y ∨ l = -y) → lss.length = 2 → (∃ vs, H' r = some (.lst vs) ∧ DqAll (del H' r) vs (lss.map lsD)) → Q (.ref r) H') : spSigns K ([.int x, .int y, .int o] ++ []) H Q E := ⟨x, y, o, rfl, q⟩
theorem ok_signs (D : Df K mg "_law_signs" s__law_signs P__law_signs) : Pr P w K mg base "_law_signs" 1 P__law_signs (spSigns K) := by
  refine D.ok sc__law_signs (fun vs H Q E h => ?_) (fun f cdv A outer s H vs Q E hr h => ?_)
  · obtain ⟨x, y, o, rfl, _⟩ := h; rfl
  obtain ⟨x, y, o, rfl, q⟩ := h
  have nd := sc__law_signs.nd
  have fin : ∀ (a b c d : Int) (p1 p2 p3 : Addr), (∀ l, l = a ∨ l = b ∨ l = c ∨ l = d → l = x ∨ l = -x ∨ l = y ∨ l = -y) → H p1 = none → upd H p1 (.lst [.int a, .int b]) p2 = none → upd (upd H p1 (.lst [.int a, .int b])) p2 (.lst [.int c, .int d]) p3 = none → Q (.ref p3) (upd (upd (upd H p1 (.lst [.int a, .int b])) p2 (.lst [.int c, .int d])) p3 (.lst [.ref p1, .ref p2])) := fun a b c d p1 p2 p3 hl h1 h2 h3 => by
    have hE : Ext H (upd (upd (upd H p1 (.lst [.int a, .int b])) p2 (.lst [.int c, .int d])) p3 (.lst [.ref p1, .ref p2])) := ((Ext.new h1).newer h2).newer h3
    refine q p3 _ [[a, b], [c, d]] hE (((Ext.new h1).newer h2).non h3) (fun ls hls => ?_) rfl ⟨_, L2.upd_same, ?_⟩
    · simp only [List.mem_cons, List.not_mem_nil, or_false] at hls
      rcases hls with e | e
      · subst e
        refine ⟨rfl, fun l hl' => hl l ?_⟩
        simp only [List.mem_cons, List.not_mem_nil, or_false] at hl'
        rcases hl' with e | e
        · exact .inl e
        · exact .inr (.inl e)
      · subst e
        refine ⟨rfl, fun l hl' => hl l ?_⟩
        simp only [List.mem_cons, List.not_mem_nil, or_false] at hl'
        rcases hl' with e | e
        · exact .inr (.inr (.inl e))
        · exact .inr (.inr (.inr e))
    · rw [del_upd, del_new h3]
      exact .cons (Dq.of_li (ns := [a, b]) (upd_old h2 L2.upd_same)) (.cons (Dq.of_li (ns := [c, d]) L2.upd_same) .nil)
  refine ⟨_, (pss_cons (ps_if (pt_cmpR op_eq (pv 2) pe_int (nomark _)) (pss_one (ps_ret (pe_lst (pa_cons (pe_lst (pa_cons (pv 0) (pa_cons (pv 1) pa_nil))) (pa_cons (pe_lst (pa_cons (pe_un un_neg (pv 0)) (pa_cons (pe_un un_neg (pv 1)) pa_nil))) pa_nil))))) pss_nil)
      (pss_one (ps_ret (pe_lst (pa_cons (pe_lst (pa_cons (pv 0) (pa_cons (pe_un un_neg (pv 1)) pa_nil))) (pa_cons (pe_lst (pa_cons (pe_un un_neg (pv 0)) (pa_cons (pv 1) pa_nil))) pa_nil)))))), ?_⟩
  refine w_start (σ := [some _, some _, some _]) rfl ?_
  walk_at "go"
  refine ite_vi (fun c => ?_) (fun c => ?_)
  · walk_at "go"
    intro p1 h1
    walk_at "go"
    intro p2 h2
    walk_at "go"
    intro p3 h3
    exact fin _ _ _ _ p1 p2 p3 (fun l hl => by omega) h1 h2 h3
  · walk_at "go"
    intro p1 h1
    walk_at "go"
    intro p2 h2
    walk_at "go"
    intro p3 h3
    exact fin _ _ _ _ p1 p2 p3 (fun l hl => by omega) h1 h2 h3
def spDressed (K : PySem.W.Frag) : Sp := fun vs H Q _ => ∃ (v u : V) (ns ls : List Int), vs = [v, u] ∧ PoolAt H v ∧ Dq H u (lsD ls) ∧ Over ns ls ∧ ls.length ≤ 300 ∧ ∀ r H' ls', Ext H H' → H r = none → Over ns ls' → ls'.length ≤ 400 → H' r = some (.lst (ls'.map V.int)) → Q (.ref r) H'
theorem call_dressed {v u : V} {ns ls : List Int} (h : PoolAt H v) (h1 : Dq H u (lsD ls)) (h2 : Over ns ls) (h3 : ls.length ≤ 300) (q : ∀ r H' ls', Ext H H' → H r = none → Over ns ls' → ls'.length ≤ 400 → H' r = some (.lst (ls'.map V.int)) → Q (.ref r) H') : spDressed K ([v, u] ++ []) H Q E := ⟨v, u, ns, ls, rfl, h, h1, h2, h3, q⟩
theorem ok_dressed (D : Df K mg "_law_dressed" s__law_dressed P__law_dressed) (b_len : mg "len" = none) (b_list : mg "list" = none) (b_range : mg "range" = none) (p__law_take : Pr P w K mg base "_law_take" 1 P__law_take (spTake K)) (p__law_pick : Pr P w K mg base "_law_pick" 2 P__law_pick (spPick K)) (p__law_mixed : Pr P w K mg base "_law_mixed" 2 P__law_mixed (spMixed K)) : Pr P w K mg base "_law_dressed" 3 P__law_dressed (spDressed K) := by
  refine D.ok sc__law_dressed (fun vs H Q E h => ?_) (fun f cdv A outer s H vs Q E hr h => ?_)
  · obtain ⟨v, u, ns, ls, rfl, _⟩ := h; rfl
  obtain ⟨v, u, ns, ls, rfl, hP, hU, hov0, hl3, q⟩ := h
  obtain ⟨b, rfl, hb⟩ := hU.li
  have nd := sc__law_dressed.nd
  refine ⟨_, (pss_cons (ps_set (i := 2) nd rfl (Or.inl rfl) (pe_callTy (call_list_ofK (K := K) rfl) (by rfl) b_list (by decide +kernel) (pa_cons (pv 1) pa_nil)))
      (C8.pss_cut (ps_if (pt_cmpR op_gt (pe_callB (call_lenK (K := K) rfl) (by rfl) b_len PySem.boot_len (pa_cons (pv 2) pa_nil)) pe_int (nomark _)) (pss_one (ps_for PassesOwn.never rfl (pi_range1 (by rfl) b_range (pa_cons (pe_callP p__law_take hr (pa_cons (pv 0) (pa_cons pe_int pa_nil))) pa_nil)) (pg_name (i := 3) nd rfl (Or.inl rfl)) (pss_one (ps_expr (pe_bmK (K := K) rfl PySem.F.plainAttrs_list PySem.F.slot_list_append PySem.F.type_list_append mt_append (pv 2) (pa_cons (pe_callP p__law_pick hr (pa_cons (pv 0) (pa_cons (pv 2) pa_nil))) pa_nil)))))) pss_nil)
      (C8.pss_cut (ps_if (PW.pt (pw_and (pt_cmpR op_gt (pe_callB (call_lenK (K := K) rfl) (by rfl) b_len PySem.boot_len (pa_cons (pv 2) pa_nil)) pe_int (nomark _)) (pw_and1 (pt_cmpR op_eq (pe_callP p__law_take hr (pa_cons (pv 0) (pa_cons pe_int pa_nil))) pe_int (nomark _))))) (pss_one (ps_expr (pe_bmK (K := K) rfl PySem.F.plainAttrs_list PySem.F.slot_list_append PySem.F.type_list_append mt_append (pv 2) (pa_cons (pe_un un_neg (pe_callP p__law_pick hr (pa_cons (pv 0) (pa_cons (pv 2) pa_nil)))) pa_nil)))) pss_nil)
      (pss_one (ps_ret (pe_callP p__law_mixed hr (pa_cons (pv 0) (pa_cons (pv 2) pa_nil)))))))), ?_⟩
  refine w_start (σ := [some _, some _, none, none]) rfl ?_
  walk_at "go"
  intro o ho
  walk_at "go"
  refine w_cut (fun σ' H' => ∃ (y : Option V) (acc : List Int), σ' = [some v, some (.ref b), some (.ref o), y] ∧ Ext H H' ∧ H' o = some (.lst (acc.map V.int)) ∧ Over ns acc ∧ acc.length ≤ 303) ?_ ?_
  · walk_at "go"
    refine ite_d (fun c1 => ?_) (fun c1 => ?_)
    · walk_at "go"
      rename_i r H1 hE1 r0 r1
      have hoo := hE1.get L2.upd_same (npl_ints ls)
      rw [List.length_map] at c1
      walk_at "go"
      refine for_range (lo := 0) (n := r.toNat) (fun i σ H' => ∃ (y : Option V) (acc : List Int), σ = [some v, some (.ref b), some (.ref o), y] ∧ Ext H H' ∧ H' o = some (.lst (acc.map V.int)) ∧ Over ns acc ∧ 0 < acc.length ∧ acc.length ≤ 300 + i)
        ⟨none, ls, rfl, (Ext.new ho).trans hE1, hoo, hov0, by omega, by omega⟩ ?_ ?_
      · rintro i σ H2 hi ⟨y, acc, rfl, hE, hacc, hov, hpos, hlen⟩
        walk_at "go"
        refine call_pick (hP.ext hE) (SqL.of hacc) (npl_ints acc) (fun z => by rw [List.map_eq_nil_iff] at z; rw [z] at hpos; simp at hpos) (by rw [List.length_map]; omega) fun x H3 hx hE3 => ?_
        obtain ⟨k, hk, rfl⟩ := List.mem_map.mp hx
        have hacc3 := hE3.get hacc (npl_ints acc)
        walk_at "go"
        refine w_append hacc3 (small1000 (by rw [List.length_map]; omega)) ?_
        exact ⟨_, acc ++ [k], rfl, (hE.trans hE3).own ho, by rw [L2.upd_same, List.map_append]; rfl, over_snoc hov (hov k hk), by rw [List.length_append, List.length_singleton]; omega, by rw [List.length_append, List.length_singleton]; omega⟩
      · rintro σ H2 ⟨y, acc, rfl, hE, hacc, hov, hpos, hlen⟩
        exact ⟨_, acc, rfl, hE, hacc, hov, by omega⟩
    · exact ⟨_, ls, rfl, Ext.new ho, L2.upd_same, hov0, by omega⟩
  · rintro σ' H1 ⟨y, acc, rfl, hE, hacc, hov, hlen⟩
    refine w_cut (fun σ' H' => ∃ (y : Option V) (acc : List Int), σ' = [some v, some (.ref b), some (.ref o), y] ∧ Ext H H' ∧ H' o = some (.lst (acc.map V.int)) ∧ Over ns acc ∧ acc.length ≤ 304) ?_ ?_
    · walk_at "go"
      refine ite_d (fun c1 => ?_) (fun c1 => ?_)
      · rw [List.length_map] at c1
        walk_at "go"
        rename_i r H2 hE2 r0 r1
        refine ite_vi (fun c2 => ?_) (fun c2 => ?_)
        · have hacc2 := hE2.get hacc (npl_ints acc)
          walk_at "go"
          refine call_pick ((hP.ext hE).ext hE2) (SqL.of hacc2) (npl_ints acc) (fun z => by rw [List.map_eq_nil_iff] at z; rw [z] at c1; simp at c1) (by rw [List.length_map]; omega) fun x H3 hx hE3 => ?_
          obtain ⟨k, hk, rfl⟩ := List.mem_map.mp hx
          have hacc3 := hE3.get hacc2 (npl_ints acc)
          walk_at "go"
          refine w_append hacc3 (small1000 (by rw [List.length_map]; omega)) ?_
          exact ⟨_, acc ++ [-k], rfl, (hE.trans (hE2.trans hE3)).own ho, by rw [L2.upd_same, List.map_append]; rfl, over_snoc hov (by rcases hov k hk with z | z; exact .inr (by rw [Int.neg_neg]; exact z); exact .inl z), by rw [List.length_append, List.length_singleton]; omega⟩
        · exact ⟨_, acc, rfl, hE.trans hE2, hE2.get hacc (npl_ints acc), hov, by omega⟩
      · exact ⟨_, acc, rfl, hE, hacc, hov, by omega⟩
    · rintro σ' H2 ⟨y, acc, rfl, hE, hacc, hov, hlen⟩
      walk_at "go"
      refine call_mixed (hP.ext hE) (SqL.of hacc) (fun x hx b e => by obtain ⟨k, _, e2⟩ := List.mem_map.mp hx; rw [e] at e2; cases e2) (by rw [List.length_map]; omega) fun ys p H3 hperm hE3 hp h3 => ?_
      obtain ⟨ks, rfl⟩ : ∃ ks : List Int, ys = ks.map V.int := by
        have : ∀ y ∈ ys, ∃ k : Int, y = .int k := fun y hy => by
          obtain ⟨k, _, e⟩ := List.mem_map.mp (hperm.mem_iff.mp hy)
          exact ⟨k, e.symm⟩
        clear hperm h3
        induction ys with
        | nil => exact ⟨[], rfl⟩
        | cons y r ih =>
          obtain ⟨k, rfl⟩ := this y List.mem_cons_self
          obtain ⟨ks, e⟩ := ih fun y hy => this y (List.mem_cons_of_mem _ hy)
          exact ⟨k :: ks, by rw [e]; rfl⟩
      have hlen2 := hperm.length_eq
      rw [List.length_map, List.length_map] at hlen2
      refine q p H3 ks (hE.trans hE3) (hE.non hp) (fun l hl => ?_) (by omega) h3
      obtain ⟨k, hk, e⟩ := List.mem_map.mp (hperm.mem_iff.mp (List.mem_map.mpr ⟨l, hl, rfl⟩))
      cases e
      exact hov l hk
end
end Kf

end
section
set_option Elab.async false
set_option linter.all false
set_option maxRecDepth 100000
set_option maxHeartbeats 4000000
local macro_rules | `(tactic| walk_at "npl") => `(tactic| first | exact Kf.npl rfl | exact Kf.npl_ints _ | exact Kf.npl_one _ _ | exact Kf.npl_refs _ | assumption)
local macro_rules | `(tactic| walk_at "nn") => `(tactic| first
  | assumption
  | (refine' Kf.Ext.non ?nne ?nnh; (case nne => assumption); (case nnh => walk_at "nn")))
local macro_rules | `(tactic| walk_at "ext") => `(tactic| first
  | assumption
  | exact Kf.Ext.refl
  | (refine' Kf.Ext.newer ?exa ?exn; (case exn => assumption); (case exa => walk_at "ext"))
  | (refine' Kf.Ext.own ?exa ?exn; (case exn => walk_at "nn"); (case exa => walk_at "ext"))
  | (refine' Kf.Ext.trans ?exa ?exb; (case exb => assumption); (case exa => walk_at "ext")))
local macro_rules | `(tactic| walk_at "pool") => `(tactic| first
  | assumption
  | (refine' Kf.PoolAt.ext ?plh ?ple; (case plh => assumption); (case ple => walk_at "ext"))
  | (refine' Kf.PoolAt.upd ?plh ?plo ?pln; (case plo => assumption); (case pln => walk_at "npl"); (case plh => walk_at "pool")))
local macro_rules | `(tactic| walk_at "lk") => `(tactic| first
  | assumption
  | exact L2.upd_same
  | (refine' Kf.upd_old ?lkn ?lkh; (case lkn => assumption); (case lkh => walk_at "lk"))
  | (refine' Kf.upd_oth ?lkn ?lkh; (case lkn => (first | assumption | (apply Ne.symm; assumption))); (case lkh => walk_at "lk"))
  | (refine' Kf.Ext.get ?lke ?lkh ?lkn; (case lke => assumption); (case lkh => walk_at "lk"); (case lkn => walk_at "npl"))
  | (refine' L2.Same.at ?lke ?lkh; (case lke => assumption); (case lkh => walk_at "lk")))
local macro_rules | `(tactic| walk_at "sq") => `(tactic| first
  | assumption
  | (refine' L2.SqL.of ?sqh; (case sqh => walk_at "lk"))
  | (refine' L2.SqT.of ?sqh; (case sqh => walk_at "lk"))
  | (refine' Kf.Ext.seqL ?sqe ?sqh ?sqn; (case sqh => assumption); (case sqe => walk_at "ext"); (case sqn => walk_at "npl"))
  | (refine' Kf.Ext.seqT ?sqe ?sqh; (case sqh => assumption); (case sqe => walk_at "ext")))
local macro_rules | `(tactic| walk_at "at") => `(tactic| first | exact L2.atI_nat (j := 0) rfl | exact L2.atI_nat (j := 1) rfl | exact L2.atI_nat (j := 2) rfl | exact L2.atI_nat (j := 3) rfl | exact L2.atI_nat (j := 4) rfl | assumption)
local macro_rules | `(tactic| walk_at "ixn") => `(tactic| first | exact Kf.ixN_nat (j := 0) rfl | exact Kf.ixN_nat (j := 1) rfl | exact Kf.ixN_nat (j := 2) rfl | exact Kf.ixN_nat (j := 3) rfl | assumption)
local macro_rules | `(tactic| walk_at "set") => `(tactic| (first | (simp only [List.set_cons_succ, List.set_cons_zero]; rfl) | rfl))
local macro_rules | `(tactic| walk_at "om") => `(tactic| first | decide | omega | (simp only [List.length_map, List.length_cons, List.length_nil] at *; omega))
local macro_rules | `(tactic| walk_at "calls") => `(tactic| first
  | (with_reducible refine' Kf.call_take ?clp ?cla ?clb ?clq; (case clp => walk_at "pool"); (case cla => walk_at "om"); (case clb => walk_at "om"); intro r H' hE h0 h1)
  | (with_reducible refine' Kf.call_pool ?cls ?cla ?clq; (case cls => walk_at "sq"); (case cla => walk_at "om"); intro p H' hE hN hP)
  | (with_reducible refine' Kf.call_turn ?cls ?clp ?cla ?clq; (case cls => walk_at "sq"); (case clp => walk_at "pool"); (case cla => walk_at "om"); intro u H' hE hP))
local macro_rules | `(tactic| walk_at "side") => `(tactic| first
  | exact Kf.cmul_fmod (by decide) (by decide)
  | exact rfl
  | decide
  | omega
  | assumption
  | (refine ⟨?_, ?_⟩ <;> decide)
  | (refine ⟨?_, ?_, ?_⟩ <;> decide)
  | (refine ⟨?_, ?_⟩ <;> omega)
  | (refine Or.inl ⟨?_, ?_⟩ <;> decide)
  | (refine Or.inr ⟨?_, ?_⟩ <;> decide)
  | (refine Or.inl ⟨?_, ?_⟩ <;> omega)
  | (refine Or.inr ⟨?_, ?_⟩ <;> omega))
local macro_rules | `(tactic| walk_at "kit") => `(tactic| first | exact Kf.isi_int_int | exact Kf.isi_int_bool | exact Kf.isi_int_str | exact Kf.isi_int_list | exact Kf.isi_int_tuple | exact Kf.isi_bool_int | exact Kf.isi_bool_bool | exact Kf.isi_bool_str | exact Kf.isi_bool_list | exact Kf.isi_bool_tuple | exact Kf.isi_str_int | exact Kf.isi_str_bool | exact Kf.isi_str_str | exact Kf.isi_str_list | exact Kf.isi_str_tuple | exact Kf.isi_non_list | exact Kf.isi_non_tuple | exact Kf.isi_list_list | exact Kf.isi_list_tuple | exact Kf.isi_tuple_list | exact Kf.isi_tuple_tuple | exact Kf.isi_dict_dict)
local macro_rules | `(tactic| walk_at "ty") => `(tactic| first
  | exact L2.TyX.base (L2.TyOf.int _)
  | exact L2.TyX.base (L2.TyOf.bl _)
  | exact L2.TyX.base (L2.TyOf.str _)
  | exact L2.TyX.base L2.TyOf.non
  | (refine' L2.TyX.base (L2.TyOf.lst ?tyh); (case tyh => walk_at "lk"))
  | (refine' L2.TyX.base (L2.TyOf.tup ?tyh); (case tyh => walk_at "lk"))
  | (refine' L2.TyX.base (L2.TyOf.dK ?tyh); (case tyh => walk_at "lk")))
local macro_rules | `(tactic| walk_at "om2") => `(tactic| first | assumption | decide | omega)
local macro_rules | `(tactic| walk_at "st") => `(tactic| with_reducible first
  | (refine Kf.w_var rfl ?_)
  | (refine Kf.w_c ?_)
  | (refine Kf.w_seq ?_)
  | (refine Kf.w_asg ?_)
  | (refine' Kf.w_gname ?sth ?_; (case sth => with_unfolding_all walk_at "set"))
  | (refine Kf.w_op ?_)
  | (refine Kf.w_un ?_)
  | (refine Kf.w_rU ?_)
  | (refine Kf.w_rI0 ?_)
  | (refine' Kf.w_rI ?sth ?_; (case sth => with_unfolding_all walk_at "side"))
  | (refine' Kf.w_rEq ?sth ?_; (case sth => with_unfolding_all rfl))
  | (refine' Kf.w_rNe ?sth ?_; (case sth => with_unfolding_all rfl))
  | (refine Kf.w_tTest ?_)
  | (refine Kf.w_tB ?_)
  | (refine Kf.w_exbl ?_)
  | (refine Kf.w_exint ?_)
  | (refine Kf.w_ifS ?_)
  | (refine Kf.w_ret ?_)
  | (refine Kf.w_retN ?_)
  | (refine Kf.w_drop ?_)
  | (refine Kf.w_and ?_)
  | (refine Kf.w_or ?_)
  | (refine Kf.w_not ?_)
  | (refine Kf.w_andV ?_)
  | (refine Kf.w_orV ?_)
  | (refine Kf.w_notV ?_)
  | (refine Kf.w_if ?_)
  | (refine Kf.w_lc ?_)
  | (refine Kf.w_for ?_)
  | (refine Kf.w_rng1 ?_)
  | (refine' Kf.w_rng1x ?sth ?stg ?_; (case sth => with_unfolding_all walk_at "om"); (case stg => with_unfolding_all walk_at "om"))
  | (refine Kf.w_ilist ?_)
  | (refine Kf.w_iseq ?_)
  | (refine Kf.w_itup ?_)
  | (refine' Kf.w_ilistx ?sth ?_; (case sth => with_unfolding_all walk_at "sq"))
  | (refine' Kf.w_itupx ?sth ?_; (case sth => with_unfolding_all walk_at "sq"))
  | (refine' Kf.w_wipe ?sth ?_; (case sth => with_unfolding_all rfl))
  | (refine Kf.w_yes ?_)
  | (refine' Kf.w_isi ?sth ?stg ?_; (case sth => with_unfolding_all walk_at "ty"); (case stg => walk_at "kit"))
  | (refine Kf.w_isN ?_)
  | (refine Kf.w_notN ?_)
  | (refine Kf.w_cb ?_)
  | (refine Kf.w_nil ?_)
  | (refine Kf.w_cons ?_)
  | (refine Kf.w_tup ?_)
  | (refine Kf.w_lst ?_)
  | (refine' Kf.w_lines ?sth ?_; (case sth => with_unfolding_all rfl))
  | (refine Kf.w_call ?_)
  | (refine Kf.w_next ?_)
  | (refine Kf.w_break ?_)
  | (refine Kf.w_cont ?_)
  | (refine Kf.w_dnewK ?_)
  | (refine Kf.w_dget ?_)
  | (refine Kf.w_sl ?_)
  | (refine Kf.w_nopart ?_)
  | (refine Kf.w_part ?_)
  | (refine Kf.w_bm ?_)
  | (refine Kf.w_bm0 ?_)
  | (refine' Kf.w_bmL ?sth ?_; (case sth => with_unfolding_all walk_at "lk"))
  | (refine' Kf.w_cat ?sth ?stg ?stf ?_; (case sth => with_unfolding_all walk_at "lk"); (case stg => with_unfolding_all walk_at "lk"); (case stf => with_unfolding_all walk_at "om"))
  | (refine' Kf.w_slL ?sth ?_; (case sth => with_unfolding_all walk_at "sq"))
  | (refine' Kf.w_inL ?sth ?_; (case sth => with_unfolding_all walk_at "sq"))
  | (refine' Kf.w_inT ?sth ?_; (case sth => with_unfolding_all walk_at "sq"))
  | (refine' Kf.w_ninL ?sth ?_; (case sth => with_unfolding_all walk_at "sq"))
  | (refine' Kf.w_ninT ?sth ?_; (case sth => with_unfolding_all walk_at "sq"))
  | (refine' Kf.w_listof ?sth ?_; (case sth => with_unfolding_all walk_at "sq"))
  | (refine' Kf.w_tupof ?sth ?_; (case sth => with_unfolding_all walk_at "sq"))
  | (refine Kf.w_listRev ?_)
  | (refine Kf.w_gsub ?_)
  | (refine' Kf.w_ixL ?sth ?stg ?_; (case sth => with_unfolding_all walk_at "sq"); (case stg => with_unfolding_all walk_at "at"))
  | (refine' Kf.w_ixT ?sth ?stg ?_; (case sth => with_unfolding_all walk_at "sq"); (case stg => with_unfolding_all walk_at "at"))
  | (refine' Kf.w_setL ?sth ?stg ?_; (case sth => with_unfolding_all walk_at "lk"); (case stg => with_unfolding_all walk_at "ixn"))
  | (refine' Kf.w_len ?sth ?_; (case sth => with_unfolding_all walk_at "sq"))
  | (refine' Kf.w_lenT ?sth ?_; (case sth => with_unfolding_all walk_at "sq"))
  | (refine Kf.w_int1 ?_)
  | (refine Kf.w_intb ?_)
  | (refine Kf.w_abs ?_)
  | (refine Kf.w_aug rfl ?_)
  | (refine Kf.w_ipI ?_)
  | (refine L2.iteT ?_)
  | (refine L2.iteF ?_)
  | (refine Kf.iteNT ?_)
  | (refine Kf.iteNF ?_)
  | (refine' Kf.ite_decT ?sth ?_; (case sth => exact rfl))
  | (refine' Kf.ite_decF ?sth ?_; (case sth => with_unfolding_all (intro e; cases e; done)))
  | (refine' Kf.ite_ndecF ?sth ?_; (case sth => exact rfl))
  | (refine' Kf.ite_ndecT ?sth ?_; (case sth => with_unfolding_all (intro e; cases e; done)))
  | (refine' Kf.ite_viT ?sth ?_; (case sth => (with_unfolding_all walk_at "om2")))
  | (refine' Kf.ite_viF ?sth ?_; (case sth => (with_unfolding_all walk_at "om2")))
  | (refine' Kf.ite_nviT ?sth ?_; (case sth => (with_unfolding_all walk_at "om2")))
  | (refine' Kf.ite_nviF ?sth ?_; (case sth => (with_unfolding_all walk_at "om2")))
  | (refine' Kf.ite_decT ?sth ?_; (case sth => (with_unfolding_all walk_at "om2")))
  | (refine' Kf.ite_decF ?sth ?_; (case sth => (with_unfolding_all walk_at "om2")))
  | with_unfolding_all walk_at "calls")
local macro_rules | `(tactic| walk_at "go") => `(tactic| repeat walk_at "st")

namespace Kf
open PySem PySem.Spec PyProof.Rows L2
open R6 (cl Over Nodes Cs)
theorem lc_rD {lo : Int} {n : Nat} {g : TG} {tt : TT} {te : TE} {vs : List Nat} {σ : L2.St} {H : Hp} {Qd : Addr → Hp → Prop} (R : Nat → List V → Hp → Prop) (h0 : R 0 [] H)
    (hs : ∀ i acc D H1, i < n → H D = none → H1 D = some (.lst acc) → Ext H H1 → R i acc (del H1 D) → g (.int (lo + i)) (wipe σ vs) H1 fun σ2 H2 => wipe σ2 vs = wipe σ vs ∧ tt σ2 H2 fun b H3 =>
      if b = true then te σ2 H3 fun y H4 => ∃ acc, H4 D = some (.lst acc) ∧ acc.length < sizeLine ∧ LcP H D R (i + 1) (upd H4 D (.lst (acc ++ [y]))) else LcP H D R (i + 1) H3)
    (hd : ∀ D acc H1, H D = none → H1 D = some (.lst acc) → Ext H H1 → R n acc (del H1 D) → Qd D H1) :
    ∀ D, H D = none → ∃ W : Nat → Nat → Hp → Prop, (∃ m, W 0 m (upd H D (.lst []))) ∧ ∀ i m H, W i m H →
      ((Itr lo n).stop i H ∧ Qd D H) ∨ ((Itr lo n).go i H ∧ ∃ Nx : Hp → Prop, (∀ H', Nx H' → ∃ m', m' < m ∧ W (i + 1) m' H') ∧ ∀ x H', (Itr lo n).yld i H x H' → g x (wipe σ vs) H' fun σ2 H2 => wipe σ2 vs = wipe σ vs ∧ tt σ2 H2 fun b H3 =>
        if b = true then te σ2 H3 fun y H4 => ∃ acc, H4 D = some (.lst acc) ∧ acc.length < sizeLine ∧ Nx (upd H4 D (.lst (acc ++ [y]))) else Nx H3) := fun D hD =>
  lc_range (Pv := LcP H D R) (Qd := Qd D) ⟨[], upd_same, Ext.new hD, by rw [del_upd, del_new hD]; exact h0⟩ (fun i H1 hi ⟨acc, h1, e1, r1⟩ => hs i acc D H1 hi hD h1 e1 r1)
    (fun H1 ⟨acc, h1, e1, r1⟩ => hd D acc H1 hD h1 e1 r1)
/-- an own list of lists of literals stands at a -/
def OwnL (H : Hp) (a : Addr) (lss : List (List Int)) : Prop := ∃ vs, H a = some (.lst vs) ∧ DqAll (del H a) vs (lss.map lsD)
theorem OwnL.ext {H H' : Hp} {a : Addr} {lss : List (List Int)} (o : OwnL H a lss) (e : Ext H H') : OwnL H' a lss := by
  obtain ⟨vs, h, r⟩ := o
  exact ⟨vs, e.get h (r.npl (sq_ls lss)), r.ext (Ext.del e)⟩
theorem OwnL.of {H : Hp} {p : Addr} {vs : List V} {lss : List (List Int)} (hp : H p = none) (r : DqAll H vs (lss.map lsD)) : OwnL (upd H p (.lst vs)) p lss := ⟨vs, upd_same, by rw [del_upd, del_new hp]; exact r⟩
theorem cut_ls {H : Hp} {vs : List V} {lss : List (List Int)} {lo hi : Option Int} (r : DqAll H vs (lss.map lsD)) : ∃ lss' : List (List Int), DqAll H (cutV vs lo hi) (lss'.map lsD) ∧ (∀ ls ∈ lss', ls ∈ lss) ∧ lss'.length ≤ lss.length := by
  unfold cutV
  generalize HT.sIx vs.length 0 lo = i
  generalize HT.sIx vs.length vs.length hi - i = j
  refine ⟨(lss.drop i).take j, ?_, fun ls h => List.mem_of_mem_drop (List.mem_of_mem_take h), by rw [List.length_take, List.length_drop]; omega⟩
  rw [List.map_take, List.map_drop]
  exact (r.drop i).take j
/-- small lists over the nodes -/
def Lok (ns : List Int) (lss : List (List Int)) : Prop := ∀ ls ∈ lss, Over ns ls ∧ ls.length ≤ 3
theorem Lok.sub {ns : List Int} {a b : List (List Int)} (h : Lok ns a) (s : ∀ ls ∈ b, ls ∈ a) : Lok ns b := fun ls hl => h ls (s ls hl)
theorem Lok.app {ns : List Int} {a b : List (List Int)} (h : Lok ns a) (h' : Lok ns b) : Lok ns (a ++ b) := fun ls hl => (List.mem_append.mp hl).elim (h ls) (h' ls)
theorem signs_ok {ns : List Int} {x y : Int} {lss : List (List Int)} (hx : x ∈ ns) (hy : y ∈ ns) (h : ∀ ls ∈ lss, ls.length = 2 ∧ ∀ l ∈ ls, l = x ∨ l = -x ∨ l = y ∨ l = -y) : Lok ns lss := fun ls hl => by
  obtain ⟨h1, h2⟩ := h ls hl
  refine ⟨fun l hl' => ?_, by omega⟩
  rcases h2 l hl' with e | e | e | e
  · subst e; exact .inl hx
  · subst e; exact .inr (by rw [Int.neg_neg]; exact hx)
  · subst e; exact .inl hy
  · subst e; exact .inr (by rw [Int.neg_neg]; exact hy)
abbrev s__law_drawn : Stmt := topS 15
abbrev N__law_drawn : List Str := ["pool", "nodes", "mode", "many", "row", "lists", "at", "two", "four", "k", "node", "literals"]
abbrev P__law_drawn : List Str := ["pool", "nodes"]
theorem sc__law_drawn : FnScope N__law_drawn P__law_drawn (defScope s__law_drawn) := ⟨rfl, rfl, rfl, by decide +kernel, rfl, by decide +kernel, by decide +kernel⟩
section
variable {P : Program} {w : World} {K : PySem.W.Frag} {mg : Str → Option Value} {base : Heap} {H : Hp} {Q : VK} {E : XK}
def spDrawn (K : PySem.W.Frag) : Sp := fun vs H Q _ => ∃ (v n : V) (ns : List Int), vs = [v, n] ∧ PoolAt H v ∧ Dq H n (lsD ns) ∧ 1 ≤ ns.length ∧ ns.length ≤ 4 ∧ ∀ r H' lss, Ext H H' → Dq H' r (lssD lss) → (∀ l ∈ lss, Over ns l ∧ l.length ≤ 400) → lss.length ≤ 400 → Q r H'
theorem call_drawn {v n : V} {ns : List Int} (h : PoolAt H v) (h1 : Dq H n (lsD ns)) (h2 : 1 ≤ ns.length) (h3 : ns.length ≤ 4) (q : ∀ r H' lss, Ext H H' → Dq H' r (lssD lss) → (∀ l ∈ lss, Over ns l ∧ l.length ≤ 400) → lss.length ≤ 400 → Q r H') : spDrawn K ([v, n] ++ []) H Q E := ⟨v, n, ns, rfl, h, h1, h2, h3, q⟩
theorem ok_drawn (D : Df K mg "_law_drawn" s__law_drawn P__law_drawn) (b_len : mg "len" = none) (b_int : mg "int" = none) (b_range : mg "range" = none) (p__law_take : Pr P w K mg base "_law_take" 1 P__law_take (spTake K)) (p__law_literals : Pr P w K mg base "_law_literals" 3 P__law_literals (spLiterals K))
    (p__law_signs : Pr P w K mg base "_law_signs" 1 P__law_signs (spSigns K)) (p__law_mixed : Pr P w K mg base "_law_mixed" 2 P__law_mixed (spMixed K)) (p__law_dressed : Pr P w K mg base "_law_dressed" 3 P__law_dressed (spDressed K)) : Pr P w K mg base "_law_drawn" 4 P__law_drawn (spDrawn K) := by
  refine D.ok sc__law_drawn (fun vs H Q E h => ?_) (fun f cdv A outer s H vs Q E hr h => ?_)
  · obtain ⟨v, n, ns, rfl, _⟩ := h; rfl
  obtain ⟨v, n, ns, rfl, hP, hN, n1, n4, q⟩ := h
  obtain ⟨a, rfl, ha⟩ := hN.li
  have nd := sc__law_drawn.nd
  refine ⟨_, (pss_cons (ps_set (i := 2) nd rfl (Or.inl rfl) (pe_callP p__law_take hr (pa_cons (pv 0) (pa_cons pe_int pa_nil))))
      (pss_cons (ps_set (i := 3) nd rfl (Or.inl rfl) (pe_callB (call_lenK (K := K) rfl) (by rfl) b_len PySem.boot_len (pa_cons (pv 1) pa_nil)))
      (pss_cons (ps_set (i := 4) nd rfl (Or.inr rfl) (pe_lst pa_nil))
      (C8.pss_cut (ps_if (pt_cmpR op_eq (pv 2) pe_int (nomark _)) (pss_one (ps_set (i := 4) nd rfl (Or.inr rfl) (pe_lc (own := [("node", 10)]) rfl nd (pi_listK (K := K) rfl (pv 1)) (blkOk_by (N := N__law_drawn) (sc := defScope s__law_drawn) (by decide +kernel)) (fun _ _ _ _ _ => pg_name (i := 10) nd rfl (Or.inl rfl)) (fun _ _ _ _ _ => pts_nil) (fun _ _ _ _ _ => (pe_op op_sub pe_int (pe_op op_mul pe_int (pe_callP p__law_take hr (pa_cons (pv 0) (pa_cons pe_int pa_nil))))))))) pss_nil)
      (pss_cons (ps_setLc (i := 5) (own := [("k", 9)]) rfl nd rfl rfl (sw_true rfl rfl rfl (by decide +kernel)) (pi_range1 (by rfl) b_range (pa_cons (pe_op op_add pe_int (pe_callP p__law_take hr (pa_cons (pv 0) (pa_cons (pe_op op_add pe_int (pe_op op_mul pe_int (pv 3))) pa_nil)))) pa_nil)) (blkOk_by (N := N__law_drawn) (sc := defScope s__law_drawn) (by decide +kernel)) (fun _ _ _ _ _ => pg_name (i := 9) nd rfl (Or.inl rfl)) (fun _ _ _ _ _ => pts_nil) (fun _ _ _ _ _ => (pe_callP p__law_literals hr (pa_cons (pv 0) (pa_cons (pv 1) (pa_cons (pv 4) pa_nil))))))
      (C8.pss_cut (ps_if (PW.pt (pw_and (pt_cmpR op_eq (pv 2) pe_int (nomark _)) (pw_and1 (pt_cmpR op_gt (pv 3) pe_int (nomark _))))) (pss_cons (ps_set (i := 6) nd rfl (Or.inl rfl) (pe_callP p__law_take hr (pa_cons (pv 0) (pa_cons (pe_op op_sub (pv 3) pe_int) pa_nil))))
      (pss_cons (ps_set (i := 7) nd rfl (Or.inl rfl) (pe_ix (ix_listK (K := K) rfl) (pv 1) (pe_op op_add (pe_op op_add (pv 6) pe_int) (pe_callP p__law_take hr (pa_cons (pv 0) (pa_cons (pe_op op_sub (pe_op op_sub (pv 3) pe_int) (pv 6)) pa_nil)))) (fun _ _ => rfl)))
      (pss_cons (ps_set (i := 8) nd rfl (Or.inl rfl) (pe_op op_cat (pe_callP p__law_signs hr (pa_cons (pe_ix (ix_listK (K := K) rfl) (pv 1) (pv 6) (fun _ _ => rfl)) (pa_cons (pv 7) (pa_cons pe_int pa_nil)))) (pe_callP p__law_signs hr (pa_cons (pe_ix (ix_listK (K := K) rfl) (pv 1) (pv 6) (fun _ _ => rfl)) (pa_cons (pv 7) (pa_cons pe_int pa_nil))))))
      (pss_one (ps_set (i := 5) nd rfl (Or.inl rfl) (pe_op op_cat (pe_slice (sl_listK (K := K) rfl) (pv 5) po_none (po_some pe_int)) (pe_slice (sl_listK (K := K) rfl) (pv 8) (po_some (pe_callP p__law_take hr (pa_cons (pv 0) (pa_cons pe_int pa_nil)))) po_none))))))) pss_nil)
      (C8.pss_cut (ps_if (PW.pt (pw_and (pt_cmpR op_eq (pv 2) pe_int (nomark _)) (pw_and1 (pt_cmpR op_gt (pv 3) pe_int (nomark _))))) (pss_cons (ps_set (i := 5) nd rfl (Or.inl rfl) (pe_slice (sl_listK (K := K) rfl) (pv 5) po_none (po_some pe_int)))
      (pss_one (ps_for PassesOwn.never rfl (pi_range1 (by rfl) b_range (pa_cons (pv 3) pa_nil)) (pg_name (i := 9) nd rfl (Or.inl rfl)) (pss_one (ps_set (i := 5) nd rfl (Or.inl rfl) (pe_op op_cat (pv 5) (pe_callP p__law_signs hr (pa_cons (pe_ix (ix_listK (K := K) rfl) (pv 1) (pv 9) (fun _ _ => rfl)) (pa_cons (pe_ix (ix_listK (K := K) rfl) (pv 1) (pe_op op_modN (pe_callTy call_int1 (by rfl) b_int (by decide +kernel) (pa_cons (pe_op op_add (pv 9) pe_int) pa_nil)) (pv 3)) (fun _ _ => rfl)) (pa_cons (pe_callP p__law_take hr (pa_cons (pv 0) (pa_cons pe_int pa_nil))) pa_nil)))))))))) pss_nil)
      (C8.pss_cut (ps_if (pt_cmpR op_eq (pe_callP p__law_take hr (pa_cons (pv 0) (pa_cons pe_int pa_nil))) pe_int (nomark _)) (pss_one (ps_expr (pe_bmK (K := K) rfl PySem.F.plainAttrs_list PySem.F.slot_list_append PySem.F.type_list_append mt_append (pv 5) (pa_cons (pe_lst pa_nil) pa_nil)))) pss_nil)
      (pss_one (ps_ret (pe_lc (own := [("literals", 11)]) rfl nd (pi_listK (K := K) rfl (pe_callP p__law_mixed hr (pa_cons (pv 0) (pa_cons (pv 5) pa_nil)))) (blkOk_by (N := N__law_drawn) (sc := defScope s__law_drawn) (by decide +kernel)) (fun _ _ _ _ _ => pg_name (i := 11) nd rfl (Or.inl rfl)) (fun _ _ _ _ _ => pts_nil) (fun _ _ _ _ _ => (pe_callP p__law_dressed hr (pa_cons (pv 0) (pa_cons (pv 11) pa_nil))))))))))))))), ?_⟩
  refine w_start (σ := [some _, some _, none, none, none, none, none, none, none, none, none, none]) rfl ?_
  walk_at "go"
  rename_i md H1 hE1 md0 md1
  have ha1 := hE1.get ha (npl_ints ns)
  walk_at "go"
  intro p0 hp0
  walk_at "go"
  -- the hidden row
  refine w_cut (fun σ' H' => ∃ (rv : V) (row : List Int), σ' = [some v, some (.ref a), some (.int md), some (.int ((ns.map V.int).length : Nat)), some rv, none, none, none, none, none, none, none] ∧ Ext H H' ∧ Dq H' rv (lsD row) ∧ RowOk ns row) ?_ ?_
  · walk_at "go"
    refine ite_vi (fun c1 => ?_) (fun c1 => ?_)
    · have ha2 := upd_old (u := .lst []) hp0 ha1
      walk_at "go"
      refine lc_l (R := fun i acc Hd => ∃ ss : List Int, acc = ss.map V.int ∧ ss.length = i ∧ ∀ s ∈ ss, s = 1 ∨ s = -1) (SqL.of ha2) (npl_ints ns) ⟨[], rfl, rfl, by simp⟩ (fun _ _ _ _ _ h => h) ?_ ?_
      · rintro i x acc D2 H3 hx hD2 hacc hE3 ⟨ss, rfl, hss, hs1⟩
        have hil : i < (ns.map V.int).length := (List.getElem?_eq_some_iff.mp hx).1
        rw [List.length_map] at hil
        have hE03 : Ext H H3 := (hE1.newer hp0).trans hE3
        walk_at "go"
        rename_i r H4 hE4 r0 r1
        refine LcP.put hD2 hacc (npl_ints ss) hE3 hE4 (by rw [List.length_map]; omega) ⟨ss ++ [1 - 2 * r], by rw [List.map_append]; rfl, by rw [List.length_append, hss]; rfl, fun s hs => ?_⟩
        rcases List.mem_append.mp hs with z | z
        · exact hs1 s z
        · rw [List.mem_singleton] at z; omega
      · rintro D2 acc H3 hD2 hacc hE3 ⟨ss, rfl, hss, hs1⟩
        rw [List.length_map] at hss
        walk_at "go"
        exact ⟨.ref D2, ss, rfl, (hE1.newer hp0).trans hE3, Dq.of_li hacc, .inr ⟨hss, hs1⟩⟩
    · exact ⟨.ref p0, [], rfl, hE1.newer hp0, Dq.of_li (ns := []) L2.upd_same, .inl rfl⟩
  rintro σ' H2 ⟨rv, row, rfl, hE2, hrv, hrow⟩
  have hml : (((ns.map V.int).length : Nat) : Int) = (ns.length : Int) := by rw [List.length_map]
  rw [hml]
  walk_at "go"
  rename_i r1 H3 hE3 r10 r11
  have hrv3 := hrv.ext hE3
  refine lc_rD (R := fun i acc Hd => ∃ lss : List (List Int), DqAll Hd acc (lss.map lsD) ∧ lss.length = i ∧ Lok ns lss) ⟨[], .nil, rfl, by simp [Lok]⟩ ?_ ?_
  · rintro i acc D2 H4 hi hD2 hacc hE4 ⟨lss, hall, hlen, hlok⟩
    have hE04 : Ext H H4 := (hE2.trans hE3).trans hE4
    have hal : acc.length ≤ 1000 := by rw [hall.len, List.length_map]; omega
    walk_at "go"
    refine call_literals (hP.ext hE04) (hN.ext hE04) (hrv3.ext hE4) n1 n4 hrow fun r5 H5 ls hE5 hr5 hov hl3 h5 => ?_
    refine LcP.put hD2 hacc (hall.npl (sq_ls lss)) hE4 hE5 hal ⟨lss ++ [ls], ?_, by rw [List.length_append, hlen]; rfl, fun l hl => ?_⟩
    · rw [List.map_append]
      refine (hall.ext (Ext.del hE5)).snoc (Dq.of_li (del_at h5 fun z => ?_))
      subst z
      rw [hr5] at hacc
      cases hacc
    · rcases List.mem_append.mp hl with z | z
      · exact hlok l z
      · rw [List.mem_singleton] at z; subst z; exact ⟨hov, hl3⟩
  rintro D2 acc H4 hD2 hacc hE4 ⟨lss, hall, hlen, hlok⟩
  have hE04 : Ext H H4 := (hE2.trans hE3).trans hE4
  have hown : OwnL H4 D2 lss := ⟨acc, hacc, hall⟩
  have hlen2 : lss.length ≤ 20 := by omega
  have D20 : H D2 = none := hE2.non (hE3.non hD2)
  walk_at "go"
  -- the four pairs of signs
  refine w_cut (fun σ' H' => ∃ (L : Addr) (lss : List (List Int)) (y6 y7 y8 : Option V), σ' = [some v, some (.ref a), some (.int md), some (.int (ns.length : Int)), some rv, some (.ref L), y6, y7, y8, none, none, none] ∧ Ext H H' ∧ H L = none ∧ OwnL H' L lss ∧ Lok ns lss ∧ lss.length ≤ 40) ?_ ?_
  · walk_at "go"
    refine ite_vi (fun c1 => ?_) (fun c1 => ?_)
    · walk_at "go"
      refine ite_d (fun c2 => ?_) (fun c2 => ?_)
      · walk_at "go"
        rename_i at1 H5 hE5 a50 a51 at2 H6 hE6 a60 a61
        have hE06 := (hE04.trans hE5).trans hE6
        have ha6 := hE06.get ha (npl_ints ns)
        obtain ⟨x, hx, ex⟩ := tab (ns := ns) a50 (by omega)
        obtain ⟨y, hy, ey⟩ := tab (ns := ns) (r := at1 + 1 + at2) (by omega) (by omega)
        refine w_ixL (SqL.of ha6) ey ?_
        walk_at "go"
        refine call_signs fun q1 H7 l1 hE7 hq1 hl1 hn1 hv1 => ?_
        have ha7 := hE7.get ha6 (npl_ints ns)
        walk_at "go"
        refine call_signs fun q2 H8 l2 hE8 hq2 hl2 hn2 hv2 => ?_
        have o1 : OwnL H7 q1 l1 := hv1
        have o2 : OwnL H8 q2 l2 := hv2
        obtain ⟨w1, e1, r1'⟩ := o1.ext hE8
        obtain ⟨w2, e2, r2'⟩ := id o2
        have wl1 := r1'.len
        have wl2 := r2'.len
        rw [List.length_map] at wl1 wl2
        refine w_cat e1 e2 (by omega) ?_
        intro q3 hq3
        have hE48 : Ext H4 H8 := hE5.trans (hE6.trans (hE7.trans hE8))
        obtain ⟨vs4, e4, r4'⟩ := hown.ext hE48
        have lsv : SqL K (upd H8 q3 (.lst (w1 ++ w2))) D2 vs4 := SqL.of (upd_old hq3 e4)
        walk_at "go"
        intro q4 hq4
        walk_at "go"
        rename_i t H9 hE9 t0 t1
        have hall4 : DqAll H8 (w1 ++ w2) ((l1 ++ l2).map lsD) := by rw [List.map_append]; exact DqAll.append (r2'.ext del_sub) (r1'.ext del_sub)
        have np12 := hall4.npl (sq_ls _)
        have h93 : H9 q3 = some (.lst (w1 ++ w2)) := hE9.get (upd_old hq4 L2.upd_same) np12
        walk_at "go"
        intro q5 hq5
        obtain ⟨c1', k1, s1, z1⟩ := cut_ls (lo := none) (hi := some 5) (r4'.ext del_sub)
        obtain ⟨c2', k2, s2, z2⟩ := cut_ls (lo := some t) (hi := none) hall4
        have hE89 : Ext H8 H9 := ((Ext.new hq3).newer hq4).trans hE9
        have h94 : H9 q4 = some (.lst (cutV vs4 none (some 5))) := hE9.get L2.upd_same (k1.npl (sq_ls _))
        have kl1 := k1.len
        have kl2 := k2.len
        rw [List.length_map] at kl1 kl2
        rw [List.length_append] at z2
        refine w_cat (upd_old hq5 h94) L2.upd_same (by omega) ?_
        intro q6 hq6
        have hE9' : Ext H8 (upd H9 q5 (.lst (cutV (w1 ++ w2) (some t) none))) := hE89.newer hq5
        refine ⟨q6, c1' ++ c2', _, _, _, rfl, ((hE04.trans hE48).trans hE9').newer hq6, (hE04.trans hE48).non (hE9'.non hq6), ?_, (hlok.sub s1).app (((signs_ok hx hy hl1).app (signs_ok hx hy hl2)).sub s2), by rw [List.length_append]; omega⟩
        refine OwnL.of hq6 ?_
        rw [List.map_append]
        exact DqAll.append (k2.ext hE9') (k1.ext hE9')
      · exact ⟨D2, lss, _, _, _, rfl, hE04, D20, hown, hlok, by omega⟩
    · exact ⟨D2, lss, _, _, _, rfl, hE04, D20, hown, hlok, by omega⟩
  clear hown hlok hlen hlen2 hall hacc
  rintro σ' H5 ⟨L, lss, y6, y7, y8, rfl, hE5, L0, hown, hlok, hlen⟩
  -- the ring
  refine w_cut (fun σ' H' => ∃ (L : Addr) (lss : List (List Int)) (y6 y7 y8 y9 : Option V), σ' = [some v, some (.ref a), some (.int md), some (.int (ns.length : Int)), some rv, some (.ref L), y6, y7, y8, y9, none, none] ∧ Ext H H' ∧ H L = none ∧ OwnL H' L lss ∧ Lok ns lss ∧ lss.length ≤ 60) ?_ ?_
  · walk_at "go"
    refine ite_vi (fun c1 => ?_) (fun c1 => ?_)
    · walk_at "go"
      refine ite_d (fun c2 => ?_) (fun c2 => ?_)
      · obtain ⟨vs5, e5, r5'⟩ := id hown
        walk_at "go"
        intro q1 hq1
        obtain ⟨c1', k1, s1, z1⟩ := cut_ls (lo := none) (hi := some 1) (r5'.ext del_sub)
        walk_at "go"
        refine for_range (lo := 0) (n := ((ns.length : Nat) : Int).toNat) (fun i σ H' => ∃ (L : Addr) (lss : List (List Int)) (y9 : Option V), σ = [some v, some (.ref a), some (.int md), some (.int (ns.length : Int)), some rv, some (.ref L), y6, y7, y8, y9, none, none] ∧ Ext H H' ∧ H L = none ∧ OwnL H' L lss ∧ Lok ns lss ∧ lss.length ≤ 40 + 2 * i)
          ⟨q1, c1', none, rfl, hE5.newer hq1, hE5.non hq1, OwnL.of hq1 k1, hlok.sub s1, by omega⟩ ?_ ?_
        · rintro i σ H6 hi ⟨L2', lss2, y9, rfl, hE6, L20, hown2, hlok2, hlen2⟩
          rw [Int.toNat_natCast] at hi
          have ha6 := hE6.get ha (npl_ints ns)
          obtain ⟨x, hx, ex⟩ := tab (ns := ns) (r := 0 + (i : Int)) (by omega) (by omega)
          have hf := fmod_pos (a := 0 + (i : Int) + 1) (b := (ns.length : Int)) (by omega)
          obtain ⟨y, hy, ey⟩ := tab (ns := ns) (r := (0 + (i : Int) + 1).fmod (ns.length : Int)) hf.1 hf.2
          obtain ⟨vs6, e6, r6'⟩ := id hown2
          walk_at "go"
          rename_i o7 H7 hE7 o70 o71
          refine call_signs fun q2 H8 l2 hE8 hq2 hl2 hn2 hv2 => ?_
          obtain ⟨w2, e2, r2'⟩ := hv2
          have hE68 := hE7.trans hE8
          obtain ⟨vs8, e8, r8'⟩ := hown2.ext hE68
          have wl2 := r2'.len
          have wl8 := r8'.len
          rw [List.length_map] at wl2 wl8
          refine w_cat e8 e2 (by omega) ?_
          intro q3 hq3
          walk_at "go"
          refine ⟨q3, lss2 ++ l2, _, rfl, (hE6.trans hE68).newer hq3, (hE6.trans hE68).non hq3, OwnL.of hq3 ?_, hlok2.app (signs_ok hx hy hl2), by rw [List.length_append]; omega⟩
          rw [List.map_append]
          exact DqAll.append (r2'.ext del_sub) (r8'.ext del_sub)
        · rintro σ H6 ⟨L2', lss2, y9, rfl, hE6, L20, hown2, hlok2, hlen2⟩
          exact ⟨L2', lss2, _, _, _, _, rfl, hE6, L20, hown2, hlok2, by omega⟩
      · exact ⟨L, lss, _, _, _, _, rfl, hE5, L0, hown, hlok, by omega⟩
    · exact ⟨L, lss, _, _, _, _, rfl, hE5, L0, hown, hlok, by omega⟩
  clear hown hlok hlen
  rintro σ' H6 ⟨L, lss, y6, y7, y8, y9, rfl, hE6, L0, hown, hlok, hlen⟩
  refine w_cut (fun σ' H' => ∃ (lss : List (List Int)), σ' = [some v, some (.ref a), some (.int md), some (.int (ns.length : Int)), some rv, some (.ref L), y6, y7, y8, y9, none, none] ∧ Ext H H' ∧ OwnL H' L lss ∧ Lok ns lss ∧ lss.length ≤ 61) ?_ ?_
  · walk_at "go"
    rename_i r7 H7 hE7 r70 r71
    have hown7 := hown.ext hE7
    refine ite_vi (fun c1 => ?_) (fun c1 => ?_)
    · obtain ⟨vs7, e7, r7'⟩ := id hown7
      have wl7 := r7'.len
      rw [List.length_map] at wl7
      walk_at "go"
      intro q1 hq1
      walk_at "go"
      refine w_append (upd_old hq1 e7) (small1000 (by omega)) ?_
      refine ⟨lss ++ [[]], rfl, ((hE6.trans hE7).newer hq1).own L0, ⟨_, L2.upd_same, ?_⟩, hlok.app (fun l hl => by rw [List.mem_singleton] at hl; subst hl; exact ⟨(fun _ h => nomatch h), Nat.zero_le _⟩), by rw [List.length_append, List.length_singleton]; omega⟩
      rw [del_upd, List.map_append]
      refine (r7'.ext (Ext.del (Ext.new hq1))).snoc (Dq.of_li (ns := []) (del_at L2.upd_same fun z => ?_))
      subst z
      rw [e7] at hq1
      cases hq1
    · exact ⟨lss, rfl, hE6.trans hE7, hown7, hlok, by omega⟩
  clear hown hlok hlen
  rintro σ' H7 ⟨lss, rfl, hE7, hown, hlok, hlen⟩
  obtain ⟨vs7, e7, r7'⟩ := id hown
  have r7 := r7'.ext del_sub
  have wl7 := r7.len
  rw [List.length_map] at wl7
  walk_at "go"
  refine call_mixed (hP.ext hE7) (SqL.of e7) (r7.nobl (sq_ls lss)) (by omega) fun ys pm H8 hperm hE8 hpm e8 => ?_
  have r8 := r7.ext hE8
  have hys : ∀ y ∈ ys, ∃ ls ∈ lss, Dq H8 y (lsD ls) := fun y hy => by
    obtain ⟨i, hi⟩ := List.mem_iff_getElem?.mp (hperm.mem_iff.mp hy)
    obtain ⟨d, hd, hq⟩ := r8.get hi
    obtain ⟨ls, hls, rfl⟩ := map_at hd
    exact ⟨ls, List.mem_of_getElem? hls, hq⟩
  have hyl : ys.length ≤ 61 := by rw [hperm.length_eq]; omega
  have npy : ¬ Pl (.lst ys) := npl_nobl fun x hx b e => by
    obtain ⟨ls, _, hq⟩ := hys x hx
    obtain ⟨_, e2, _⟩ := hq.li
    rw [e2] at e; cases e
  walk_at "go"
  refine lc_l (R := fun i acc Hd => ∃ out : List (List Int), DqAll Hd acc (out.map lsD) ∧ out.length = i ∧ ∀ l ∈ out, Over ns l ∧ l.length ≤ 400) (SqL.of e8) npy ⟨[], .nil, rfl, by simp⟩ (fun i acc Ha Hb e ⟨out, h, r⟩ => ⟨out, h.ext e, r⟩) ?_ ?_
  · rintro i x acc D3 H9 hx hD3 hacc hE9 ⟨out, hall, hol, hok⟩
    have hil := (List.getElem?_eq_some_iff.mp hx).1
    obtain ⟨ls, hls, hq⟩ := hys x (List.mem_of_getElem? hx)
    have hal : acc.length ≤ 1000 := by rw [hall.len, List.length_map]; omega
    have hE09 := (hE7.trans hE8).trans hE9
    walk_at "go"
    refine call_dressed (ns := ns) (hP.ext hE09) (hq.ext hE9) (hlok ls hls).1 (by have := (hlok ls hls).2; omega) fun r H10 ls' hE10 hr10 hov' hl' h10 => ?_
    refine LcP.put hD3 hacc (hall.npl (sq_ls out)) hE9 hE10 hal ⟨out ++ [ls'], ?_, by rw [List.length_append, hol]; rfl, fun l hl => ?_⟩
    · rw [List.map_append]
      refine (hall.ext (Ext.del hE10)).snoc (Dq.of_li (del_at h10 fun z => ?_))
      subst z
      rw [hr10] at hacc
      cases hacc
    · rcases List.mem_append.mp hl with z | z
      · exact hok l z
      · rw [List.mem_singleton] at z; subst z; exact ⟨hov', hl'⟩
  · rintro D3 acc H9 hD3 hacc hE9 ⟨out, hall, hol, hok⟩
    walk_at "go"
    exact q (.ref D3) H9 out ((hE7.trans hE8).trans hE9) (.lst hacc (hall.npl (sq_ls out)) hall) hok (by omega)
end
abbrev s_law : Stmt := topS 23
abbrev N_law : List Str := ["script", "turn", "pool", "nodes"]
abbrev P_law : List Str := ["script"]
theorem sc_law : FnScope N_law P_law (defScope s_law) := ⟨rfl, rfl, rfl, by decide +kernel, rfl, by decide +kernel, by decide +kernel⟩
def spLaw (K : PySem.W.Frag) : Sp := fun vs H Q _ => ∃ (a : Addr) (ns : List Int), vs = [.ref a] ∧ SqL K H a (ns.map V.int) ∧ ns.length ≤ 63 ∧ ∀ H', Q (.bl true) H'
section
variable {P : Program} {w : World} {K : PySem.W.Frag} {mg : Str → Option Value} {base : Heap} {H : Hp} {Q : VK} {E : XK}
theorem ok_law (D : Df K mg "law" s_law P_law) (b_range : mg "range" = none) (p__law_pool : Pr P w K mg base "_law_pool" 1 P__law_pool (spPool K)) (p__law_turn : Pr P w K mg base "_law_turn" 2 P__law_turn (spTurn K)) (p__law_nodes : Pr P w K mg base "_law_nodes" 2 P__law_nodes (spNodes K))
    (p__law_drawn : Pr P w K mg base "_law_drawn" 4 P__law_drawn (spDrawn K)) (p__law_asked : Pr P w K mg base "_law_asked" 6 P__law_asked (spAsked K)) : Pr P w K mg base "law" 7 P_law (spLaw K) := by
  refine D.ok sc_law (fun vs H Q E h => ?_) (fun f cdv A outer s H vs Q E hr h => ?_)
  · obtain ⟨a, ns, rfl, _⟩ := h; rfl
  obtain ⟨a, sc, rfl, hS, hl, q⟩ := h
  have nd := sc_law.nd
  refine ⟨_, (pss_cons (ps_for PassesOwn.never rfl (pi_range1 (by rfl) b_range (pa_cons pe_int pa_nil)) (pg_name (i := 1) nd rfl (Or.inl rfl)) (pss_cons (ps_set (i := 2) nd rfl (Or.inl rfl) (pe_callP p__law_pool hr (pa_cons (pv 0) (pa_cons (pe_op op_mul pe_int (pv 1)) pa_nil))))
      (pss_cons (ps_set (i := 3) nd rfl (Or.inl rfl) (pe_callP p__law_nodes hr (pa_cons (pv 2) pa_nil)))
      (pss_one (ps_if (pt_not (pt_val (pe_callP p__law_asked hr (pa_cons (pv 3) (pa_cons (pe_callP p__law_drawn hr (pa_cons (pe_callP p__law_turn hr (pa_cons (pv 0) (pa_cons (pv 2) (pa_cons (pe_op op_add (pe_op op_mul pe_int (pv 1)) pe_int) pa_nil)))) (pa_cons (pv 3) pa_nil))) pa_nil))))) (pss_one (ps_ret pe_bl)) pss_nil)))))
      (pss_one (ps_ret pe_bl))), ?_⟩
  refine w_start (σ := [some _, none, none, none]) rfl ?_
  walk_at "go"
  refine for_range (lo := 0) (n := ((3 : Int)).toNat) (fun i σ H' => ∃ y1 y2 y3, σ = [some (.ref a), y1, y2, y3] ∧ Ext H H') ⟨none, none, none, rfl, Ext.refl⟩ ?_ ?_
  · rintro i σ H1 hi ⟨y1, y2, y3, rfl, hE⟩
    have hS1 := hE.seqL hS (npl_ints sc)
    walk_at "go"
    rename_i p H2 hE2 hp hP
    refine call_nodes hP fun r H3 ns hE3 hn n1 n4 hr3 => ?_
    have hS3 := (hE2.trans hE3).seqL hS1 (npl_ints sc)
    walk_at "go"
    rename_i u H4 hE4 hP4
    refine call_drawn hP4 (hr3.ext hE4) n1 n4 fun r5 H5 lss hE5 hr5 hok hl5 => ?_
    walk_at "go"
    refine call_asked (hr3.ext (hE4.trans hE5)) hr5 hn n4 hok hl5 fun H6 hE6 => ?_
    walk_at "go"
    exact ⟨_, _, _, rfl, ((((hE.trans hE2).trans hE3).trans hE4).trans hE5).trans hE6⟩
  · rintro σ H1 ⟨y1, y2, y3, rfl, hE⟩
    walk_at "go"
    exact q _
end
end Kf

end
section
set_option Elab.async false
set_option linter.all false
set_option maxRecDepth 100000
set_option maxHeartbeats 4000000
local macro_rules | `(tactic| walk_at "npl") => `(tactic| first | exact Kf.npl rfl | exact Kf.npl_ints _ | exact Kf.npl_one _ _ | exact Kf.npl_refs _ | assumption)
local macro_rules | `(tactic| walk_at "nn") => `(tactic| first
  | assumption
  | (refine' Kf.Ext.non ?nne ?nnh; (case nne => assumption); (case nnh => walk_at "nn")))
local macro_rules | `(tactic| walk_at "ext") => `(tactic| first
  | assumption
  | exact Kf.Ext.refl
  | (refine' Kf.Ext.newer ?exa ?exn; (case exn => assumption); (case exa => walk_at "ext"))
  | (refine' Kf.Ext.own ?exa ?exn; (case exn => walk_at "nn"); (case exa => walk_at "ext"))
  | (refine' Kf.Ext.trans ?exa ?exb; (case exb => assumption); (case exa => walk_at "ext")))
local macro_rules | `(tactic| walk_at "pool") => `(tactic| first
  | assumption
  | (refine' Kf.PoolAt.ext ?plh ?ple; (case plh => assumption); (case ple => walk_at "ext"))
  | (refine' Kf.PoolAt.upd ?plh ?plo ?pln; (case plo => assumption); (case pln => walk_at "npl"); (case plh => walk_at "pool")))
local macro_rules | `(tactic| walk_at "lk") => `(tactic| first
  | assumption
  | exact L2.upd_same
  | (refine' Kf.upd_old ?lkn ?lkh; (case lkn => assumption); (case lkh => walk_at "lk"))
  | (refine' Kf.upd_oth ?lkn ?lkh; (case lkn => (first | assumption | (apply Ne.symm; assumption))); (case lkh => walk_at "lk"))
  | (refine' Kf.Ext.get ?lke ?lkh ?lkn; (case lke => assumption); (case lkh => walk_at "lk"); (case lkn => walk_at "npl"))
  | (refine' L2.Same.at ?lke ?lkh; (case lke => assumption); (case lkh => walk_at "lk")))
local macro_rules | `(tactic| walk_at "sq") => `(tactic| first
  | assumption
  | (refine' L2.SqL.of ?sqh; (case sqh => walk_at "lk"))
  | (refine' L2.SqT.of ?sqh; (case sqh => walk_at "lk"))
  | (refine' Kf.Ext.seqL ?sqe ?sqh ?sqn; (case sqh => assumption); (case sqe => walk_at "ext"); (case sqn => walk_at "npl"))
  | (refine' Kf.Ext.seqT ?sqe ?sqh; (case sqh => assumption); (case sqe => walk_at "ext")))
local macro_rules | `(tactic| walk_at "at") => `(tactic| first | exact L2.atI_nat (j := 0) rfl | exact L2.atI_nat (j := 1) rfl | exact L2.atI_nat (j := 2) rfl | exact L2.atI_nat (j := 3) rfl | exact L2.atI_nat (j := 4) rfl | assumption)
local macro_rules | `(tactic| walk_at "ixn") => `(tactic| first | exact Kf.ixN_nat (j := 0) rfl | exact Kf.ixN_nat (j := 1) rfl | exact Kf.ixN_nat (j := 2) rfl | exact Kf.ixN_nat (j := 3) rfl | assumption)
local macro_rules | `(tactic| walk_at "set") => `(tactic| (first | (simp only [List.set_cons_succ, List.set_cons_zero]; rfl) | rfl))
local macro_rules | `(tactic| walk_at "om") => `(tactic| first | decide | omega | (simp only [List.length_map, List.length_cons, List.length_nil] at *; omega))
local macro_rules | `(tactic| walk_at "calls") => `(tactic| first
  | (with_reducible refine' Kf.call_take ?clp ?cla ?clb ?clq; (case clp => walk_at "pool"); (case cla => walk_at "om"); (case clb => walk_at "om"); intro r H' hE h0 h1)
  | (with_reducible refine' Kf.call_pool ?cls ?cla ?clq; (case cls => walk_at "sq"); (case cla => walk_at "om"); intro p H' hE hN hP)
  | (with_reducible refine' Kf.call_turn ?cls ?clp ?cla ?clq; (case cls => walk_at "sq"); (case clp => walk_at "pool"); (case cla => walk_at "om"); intro u H' hE hP))
local macro_rules | `(tactic| walk_at "side") => `(tactic| first
  | exact Kf.cmul_fmod (by decide) (by decide)
  | exact rfl
  | decide
  | omega
  | assumption
  | (refine ⟨?_, ?_⟩ <;> decide)
  | (refine ⟨?_, ?_, ?_⟩ <;> decide)
  | (refine ⟨?_, ?_⟩ <;> omega)
  | (refine Or.inl ⟨?_, ?_⟩ <;> decide)
  | (refine Or.inr ⟨?_, ?_⟩ <;> decide)
  | (refine Or.inl ⟨?_, ?_⟩ <;> omega)
  | (refine Or.inr ⟨?_, ?_⟩ <;> omega))
local macro_rules | `(tactic| walk_at "kit") => `(tactic| first | exact Kf.isi_int_int | exact Kf.isi_int_bool | exact Kf.isi_int_str | exact Kf.isi_int_list | exact Kf.isi_int_tuple | exact Kf.isi_bool_int | exact Kf.isi_bool_bool | exact Kf.isi_bool_str | exact Kf.isi_bool_list | exact Kf.isi_bool_tuple | exact Kf.isi_str_int | exact Kf.isi_str_bool | exact Kf.isi_str_str | exact Kf.isi_str_list | exact Kf.isi_str_tuple | exact Kf.isi_non_list | exact Kf.isi_non_tuple | exact Kf.isi_list_list | exact Kf.isi_list_tuple | exact Kf.isi_tuple_list | exact Kf.isi_tuple_tuple | exact Kf.isi_dict_dict)
local macro_rules | `(tactic| walk_at "ty") => `(tactic| first
  | exact L2.TyX.base (L2.TyOf.int _)
  | exact L2.TyX.base (L2.TyOf.bl _)
  | exact L2.TyX.base (L2.TyOf.str _)
  | exact L2.TyX.base L2.TyOf.non
  | (refine' L2.TyX.base (L2.TyOf.lst ?tyh); (case tyh => walk_at "lk"))
  | (refine' L2.TyX.base (L2.TyOf.tup ?tyh); (case tyh => walk_at "lk"))
  | (refine' L2.TyX.base (L2.TyOf.dK ?tyh); (case tyh => walk_at "lk")))
local macro_rules | `(tactic| walk_at "om2") => `(tactic| first | assumption | decide | omega)
local macro_rules | `(tactic| walk_at "st") => `(tactic| with_reducible first
  | (refine Kf.w_var rfl ?_)
  | (refine Kf.w_c ?_)
  | (refine Kf.w_seq ?_)
  | (refine Kf.w_asg ?_)
  | (refine' Kf.w_gname ?sth ?_; (case sth => with_unfolding_all walk_at "set"))
  | (refine Kf.w_op ?_)
  | (refine Kf.w_un ?_)
  | (refine Kf.w_rU ?_)
  | (refine Kf.w_rI0 ?_)
  | (refine' Kf.w_rI ?sth ?_; (case sth => with_unfolding_all walk_at "side"))
  | (refine' Kf.w_rEq ?sth ?_; (case sth => with_unfolding_all rfl))
  | (refine' Kf.w_rNe ?sth ?_; (case sth => with_unfolding_all rfl))
  | (refine Kf.w_tTest ?_)
  | (refine Kf.w_tB ?_)
  | (refine Kf.w_exbl ?_)
  | (refine Kf.w_exint ?_)
  | (refine Kf.w_ifS ?_)
  | (refine Kf.w_ret ?_)
  | (refine Kf.w_retN ?_)
  | (refine Kf.w_drop ?_)
  | (refine Kf.w_and ?_)
  | (refine Kf.w_or ?_)
  | (refine Kf.w_not ?_)
  | (refine Kf.w_andV ?_)
  | (refine Kf.w_orV ?_)
  | (refine Kf.w_notV ?_)
  | (refine Kf.w_if ?_)
  | (refine Kf.w_lc ?_)
  | (refine Kf.w_for ?_)
  | (refine Kf.w_rng1 ?_)
  | (refine' Kf.w_rng1x ?sth ?stg ?_; (case sth => with_unfolding_all walk_at "om"); (case stg => with_unfolding_all walk_at "om"))
  | (refine Kf.w_ilist ?_)
  | (refine Kf.w_iseq ?_)
  | (refine Kf.w_itup ?_)
  | (refine' Kf.w_ilistx ?sth ?_; (case sth => with_unfolding_all walk_at "sq"))
  | (refine' Kf.w_itupx ?sth ?_; (case sth => with_unfolding_all walk_at "sq"))
  | (refine' Kf.w_wipe ?sth ?_; (case sth => with_unfolding_all rfl))
  | (refine Kf.w_yes ?_)
  | (refine' Kf.w_isi ?sth ?stg ?_; (case sth => with_unfolding_all walk_at "ty"); (case stg => walk_at "kit"))
  | (refine Kf.w_isN ?_)
  | (refine Kf.w_notN ?_)
  | (refine Kf.w_cb ?_)
  | (refine Kf.w_nil ?_)
  | (refine Kf.w_cons ?_)
  | (refine Kf.w_tup ?_)
  | (refine Kf.w_lst ?_)
  | (refine' Kf.w_lines ?sth ?_; (case sth => with_unfolding_all rfl))
  | (refine Kf.w_call ?_)
  | (refine Kf.w_next ?_)
  | (refine Kf.w_break ?_)
  | (refine Kf.w_cont ?_)
  | (refine Kf.w_dnewK ?_)
  | (refine Kf.w_dget ?_)
  | (refine Kf.w_sl ?_)
  | (refine Kf.w_nopart ?_)
  | (refine Kf.w_part ?_)
  | (refine Kf.w_bm ?_)
  | (refine Kf.w_bm0 ?_)
  | (refine' Kf.w_bmL ?sth ?_; (case sth => with_unfolding_all walk_at "lk"))
  | (refine' Kf.w_cat ?sth ?stg ?stf ?_; (case sth => with_unfolding_all walk_at "lk"); (case stg => with_unfolding_all walk_at "lk"); (case stf => with_unfolding_all walk_at "om"))
  | (refine' Kf.w_slL ?sth ?_; (case sth => with_unfolding_all walk_at "sq"))
  | (refine' Kf.w_inL ?sth ?_; (case sth => with_unfolding_all walk_at "sq"))
  | (refine' Kf.w_inT ?sth ?_; (case sth => with_unfolding_all walk_at "sq"))
  | (refine' Kf.w_ninL ?sth ?_; (case sth => with_unfolding_all walk_at "sq"))
  | (refine' Kf.w_ninT ?sth ?_; (case sth => with_unfolding_all walk_at "sq"))
  | (refine' Kf.w_listof ?sth ?_; (case sth => with_unfolding_all walk_at "sq"))
  | (refine' Kf.w_tupof ?sth ?_; (case sth => with_unfolding_all walk_at "sq"))
  | (refine Kf.w_listRev ?_)
  | (refine Kf.w_gsub ?_)
  | (refine' Kf.w_ixL ?sth ?stg ?_; (case sth => with_unfolding_all walk_at "sq"); (case stg => with_unfolding_all walk_at "at"))
  | (refine' Kf.w_ixT ?sth ?stg ?_; (case sth => with_unfolding_all walk_at "sq"); (case stg => with_unfolding_all walk_at "at"))
  | (refine' Kf.w_setL ?sth ?stg ?_; (case sth => with_unfolding_all walk_at "lk"); (case stg => with_unfolding_all walk_at "ixn"))
  | (refine' Kf.w_len ?sth ?_; (case sth => with_unfolding_all walk_at "sq"))
  | (refine' Kf.w_lenT ?sth ?_; (case sth => with_unfolding_all walk_at "sq"))
  | (refine Kf.w_int1 ?_)
  | (refine Kf.w_intb ?_)
  | (refine Kf.w_abs ?_)
  | (refine Kf.w_aug rfl ?_)
  | (refine Kf.w_ipI ?_)
  | (refine L2.iteT ?_)
  | (refine L2.iteF ?_)
  | (refine Kf.iteNT ?_)
  | (refine Kf.iteNF ?_)
  | (refine' Kf.ite_decT ?sth ?_; (case sth => exact rfl))
  | (refine' Kf.ite_decF ?sth ?_; (case sth => with_unfolding_all (intro e; cases e; done)))
  | (refine' Kf.ite_ndecF ?sth ?_; (case sth => exact rfl))
  | (refine' Kf.ite_ndecT ?sth ?_; (case sth => with_unfolding_all (intro e; cases e; done)))
  | (refine' Kf.ite_viT ?sth ?_; (case sth => (with_unfolding_all walk_at "om2")))
  | (refine' Kf.ite_viF ?sth ?_; (case sth => (with_unfolding_all walk_at "om2")))
  | (refine' Kf.ite_nviT ?sth ?_; (case sth => (with_unfolding_all walk_at "om2")))
  | (refine' Kf.ite_nviF ?sth ?_; (case sth => (with_unfolding_all walk_at "om2")))
  | (refine' Kf.ite_decT ?sth ?_; (case sth => (with_unfolding_all walk_at "om2")))
  | (refine' Kf.ite_decF ?sth ?_; (case sth => (with_unfolding_all walk_at "om2")))
  | with_unfolding_all walk_at "calls")
local macro_rules | `(tactic| walk_at "go") => `(tactic| repeat walk_at "st")

namespace Kf
open PySem PySem.Spec PyProof.Rows L2
theorem all_mk {l : PySem.W.OpenLaw} {w : World} {K : PySem.W.Frag} {h : Heap} {mg : Str → Option Value} {fa f0 f1 f2 f3 f4 f5 f6 f7 f8 f9 f10 f11 f12 f13 f14 f15 f16 f17 f18 f19 f20 f21 : Addr} (X : K.In h) (G : h.Ns mainGlobals mg) (hfa : mg "law" = some (.ref fa))
    {od0 an0 od1 an1 od2 an2 od3 an3 od4 an4 od5 an5 od6 an6 od7 an7 od8 an8 od9 an9 od10 an10 od11 an11 od12 an12 od13 an13 od14 an14 od15 an15 od16 an16 od17 an17 od18 an18 od19 an19 od20 an20 od21 an21 : Option Addr} {sl0 sl1 sl2 sl3 sl4 sl5 sl6 sl7 sl8 sl9 sl10 sl11 sl12 sl13 sl14 sl15 sl16 sl17 sl18 sl19 sl20 sl21 : Array (Option Value)} {oc0 kV0 dc0 pm0 cd0 ct0 oc1 kV1 dc1 pm1 cd1 ct1 oc2 kV2 dc2 pm2 cd2 ct2 oc3 kV3 dc3 pm3 cd3 ct3 oc4 kV4 dc4 pm4 cd4 ct4 oc5 kV5 dc5 pm5 cd5 ct5 oc6 kV6 dc6 pm6 cd6 ct6 oc7 kV7 dc7 pm7 cd7 ct7 oc8 kV8 dc8 pm8 cd8 ct8 oc9 kV9 dc9 pm9 cd9 ct9 oc10 kV10 dc10 pm10 cd10 ct10 oc11 kV11 dc11 pm11 cd11 ct11 oc12 kV12 dc12 pm12 cd12 ct12 oc13 kV13 dc13 pm13 cd13 ct13 oc14 kV14 dc14 pm14 cd14 ct14 oc15 kV15 dc15 pm15 cd15 ct15 oc16 kV16 dc16 pm16 cd16 ct16 oc17 kV17 dc17 pm17 cd17 ct17 oc18 kV18 dc18 pm18 cd18 ct18 oc19 kV19 dc19 pm19 cd19 ct19 oc20 kV20 dc20 pm20 cd20 ct20 oc21 kV21 dc21 pm21 cd21 ct21 : Value}
    (a0 : PySem.W.nsIn K mainGlobals "clause_of" = some (some (.ref f0))) (l0 : K.lookup f0 = some ⟨oc0, od0, .func (PySem.W.fnOf "clause_of" "clause_of" (defArgs s_clause_of) (defBody s_clause_of) (defScope s_clause_of) .none kV0 dc0 pm0 an0 cd0 ct0), sl0⟩) (c0 : PySem.W.codeIn K cd0 "clause_of" = true) (k0 : PySem.W.keepIn K (.ref f0) = true)
    (a1 : PySem.W.nsIn K mainGlobals "resolve" = some (some (.ref f1))) (l1 : K.lookup f1 = some ⟨oc1, od1, .func (PySem.W.fnOf "resolve" "resolve" (defArgs s_resolve) (defBody s_resolve) (defScope s_resolve) .none kV1 dc1 pm1 an1 cd1 ct1), sl1⟩) (c1 : PySem.W.codeIn K cd1 "resolve" = true) (k1 : PySem.W.keepIn K (.ref f1) = true)
    (a2 : PySem.W.nsIn K mainGlobals "_law_pool" = some (some (.ref f2))) (l2 : K.lookup f2 = some ⟨oc2, od2, .func (PySem.W.fnOf "_law_pool" "_law_pool" (defArgs s__law_pool) (defBody s__law_pool) (defScope s__law_pool) .none kV2 dc2 pm2 an2 cd2 ct2), sl2⟩) (c2 : PySem.W.codeIn K cd2 "_law_pool" = true) (k2 : PySem.W.keepIn K (.ref f2) = true)
    (a3 : PySem.W.nsIn K mainGlobals "_law_take" = some (some (.ref f3))) (l3 : K.lookup f3 = some ⟨oc3, od3, .func (PySem.W.fnOf "_law_take" "_law_take" (defArgs s__law_take) (defBody s__law_take) (defScope s__law_take) .none kV3 dc3 pm3 an3 cd3 ct3), sl3⟩) (c3 : PySem.W.codeIn K cd3 "_law_take" = true) (k3 : PySem.W.keepIn K (.ref f3) = true)
    (a4 : PySem.W.nsIn K mainGlobals "_law_turn" = some (some (.ref f4))) (l4 : K.lookup f4 = some ⟨oc4, od4, .func (PySem.W.fnOf "_law_turn" "_law_turn" (defArgs s__law_turn) (defBody s__law_turn) (defScope s__law_turn) .none kV4 dc4 pm4 an4 cd4 ct4), sl4⟩) (c4 : PySem.W.codeIn K cd4 "_law_turn" = true) (k4 : PySem.W.keepIn K (.ref f4) = true)
    (a5 : PySem.W.nsIn K mainGlobals "_law_pick" = some (some (.ref f5))) (l5 : K.lookup f5 = some ⟨oc5, od5, .func (PySem.W.fnOf "_law_pick" "_law_pick" (defArgs s__law_pick) (defBody s__law_pick) (defScope s__law_pick) .none kV5 dc5 pm5 an5 cd5 ct5), sl5⟩) (c5 : PySem.W.codeIn K cd5 "_law_pick" = true) (k5 : PySem.W.keepIn K (.ref f5) = true)
    (a6 : PySem.W.nsIn K mainGlobals "_law_mixed" = some (some (.ref f6))) (l6 : K.lookup f6 = some ⟨oc6, od6, .func (PySem.W.fnOf "_law_mixed" "_law_mixed" (defArgs s__law_mixed) (defBody s__law_mixed) (defScope s__law_mixed) .none kV6 dc6 pm6 an6 cd6 ct6), sl6⟩) (c6 : PySem.W.codeIn K cd6 "_law_mixed" = true) (k6 : PySem.W.keepIn K (.ref f6) = true)
    (a7 : PySem.W.nsIn K mainGlobals "_law_whole" = some (some (.ref f7))) (l7 : K.lookup f7 = some ⟨oc7, od7, .func (PySem.W.fnOf "_law_whole" "_law_whole" (defArgs s__law_whole) (defBody s__law_whole) (defScope s__law_whole) .none kV7 dc7 pm7 an7 cd7 ct7), sl7⟩) (c7 : PySem.W.codeIn K cd7 "_law_whole" = true) (k7 : PySem.W.keepIn K (.ref f7) = true)
    (a8 : PySem.W.nsIn K mainGlobals "_law_alike" = some (some (.ref f8))) (l8 : K.lookup f8 = some ⟨oc8, od8, .func (PySem.W.fnOf "_law_alike" "_law_alike" (defArgs s__law_alike) (defBody s__law_alike) (defScope s__law_alike) .none kV8 dc8 pm8 an8 cd8 ct8), sl8⟩) (c8 : PySem.W.codeIn K cd8 "_law_alike" = true) (k8 : PySem.W.keepIn K (.ref f8) = true)
    (a9 : PySem.W.nsIn K mainGlobals "_law_nodes" = some (some (.ref f9))) (l9 : K.lookup f9 = some ⟨oc9, od9, .func (PySem.W.fnOf "_law_nodes" "_law_nodes" (defArgs s__law_nodes) (defBody s__law_nodes) (defScope s__law_nodes) .none kV9 dc9 pm9 an9 cd9 ct9), sl9⟩) (c9 : PySem.W.codeIn K cd9 "_law_nodes" = true) (k9 : PySem.W.keepIn K (.ref f9) = true)
    (a10 : PySem.W.nsIn K mainGlobals "_law_literals" = some (some (.ref f10))) (l10 : K.lookup f10 = some ⟨oc10, od10, .func (PySem.W.fnOf "_law_literals" "_law_literals" (defArgs s__law_literals) (defBody s__law_literals) (defScope s__law_literals) .none kV10 dc10 pm10 an10 cd10 ct10), sl10⟩) (c10 : PySem.W.codeIn K cd10 "_law_literals" = true) (k10 : PySem.W.keepIn K (.ref f10) = true)
    (a11 : PySem.W.nsIn K mainGlobals "_law_signs" = some (some (.ref f11))) (l11 : K.lookup f11 = some ⟨oc11, od11, .func (PySem.W.fnOf "_law_signs" "_law_signs" (defArgs s__law_signs) (defBody s__law_signs) (defScope s__law_signs) .none kV11 dc11 pm11 an11 cd11 ct11), sl11⟩) (c11 : PySem.W.codeIn K cd11 "_law_signs" = true) (k11 : PySem.W.keepIn K (.ref f11) = true)
    (a12 : PySem.W.nsIn K mainGlobals "_law_dressed" = some (some (.ref f12))) (l12 : K.lookup f12 = some ⟨oc12, od12, .func (PySem.W.fnOf "_law_dressed" "_law_dressed" (defArgs s__law_dressed) (defBody s__law_dressed) (defScope s__law_dressed) .none kV12 dc12 pm12 an12 cd12 ct12), sl12⟩) (c12 : PySem.W.codeIn K cd12 "_law_dressed" = true) (k12 : PySem.W.keepIn K (.ref f12) = true)
    (a13 : PySem.W.nsIn K mainGlobals "_law_drawn" = some (some (.ref f13))) (l13 : K.lookup f13 = some ⟨oc13, od13, .func (PySem.W.fnOf "_law_drawn" "_law_drawn" (defArgs s__law_drawn) (defBody s__law_drawn) (defScope s__law_drawn) .none kV13 dc13 pm13 an13 cd13 ct13), sl13⟩) (c13 : PySem.W.codeIn K cd13 "_law_drawn" = true) (k13 : PySem.W.keepIn K (.ref f13) = true)
    (a14 : PySem.W.nsIn K mainGlobals "_law_clause" = some (some (.ref f14))) (l14 : K.lookup f14 = some ⟨oc14, od14, .func (PySem.W.fnOf "_law_clause" "_law_clause" (defArgs s__law_clause) (defBody s__law_clause) (defScope s__law_clause) .none kV14 dc14 pm14 an14 cd14 ct14), sl14⟩) (c14 : PySem.W.codeIn K cd14 "_law_clause" = true) (k14 : PySem.W.keepIn K (.ref f14) = true)
    (a15 : PySem.W.nsIn K mainGlobals "_law_struck" = some (some (.ref f15))) (l15 : K.lookup f15 = some ⟨oc15, od15, .func (PySem.W.fnOf "_law_struck" "_law_struck" (defArgs s__law_struck) (defBody s__law_struck) (defScope s__law_struck) .none kV15 dc15 pm15 an15 cd15 ct15), sl15⟩) (c15 : PySem.W.codeIn K cd15 "_law_struck" = true) (k15 : PySem.W.keepIn K (.ref f15) = true)
    (a16 : PySem.W.nsIn K mainGlobals "_law_rows" = some (some (.ref f16))) (l16 : K.lookup f16 = some ⟨oc16, od16, .func (PySem.W.fnOf "_law_rows" "_law_rows" (defArgs s__law_rows) (defBody s__law_rows) (defScope s__law_rows) .none kV16 dc16 pm16 an16 cd16 ct16), sl16⟩) (c16 : PySem.W.codeIn K cd16 "_law_rows" = true) (k16 : PySem.W.keepIn K (.ref f16) = true)
    (a17 : PySem.W.nsIn K mainGlobals "_law_holds" = some (some (.ref f17))) (l17 : K.lookup f17 = some ⟨oc17, od17, .func (PySem.W.fnOf "_law_holds" "_law_holds" (defArgs s__law_holds) (defBody s__law_holds) (defScope s__law_holds) .none kV17 dc17 pm17 an17 cd17 ct17), sl17⟩) (c17 : PySem.W.codeIn K cd17 "_law_holds" = true) (k17 : PySem.W.keepIn K (.ref f17) = true)
    (a18 : PySem.W.nsIn K mainGlobals "_law_pair" = some (some (.ref f18))) (l18 : K.lookup f18 = some ⟨oc18, od18, .func (PySem.W.fnOf "_law_pair" "_law_pair" (defArgs s__law_pair) (defBody s__law_pair) (defScope s__law_pair) .none kV18 dc18 pm18 an18 cd18 ct18), sl18⟩) (c18 : PySem.W.codeIn K cd18 "_law_pair" = true) (k18 : PySem.W.keepIn K (.ref f18) = true)
    (a19 : PySem.W.nsIn K mainGlobals "_law_closed" = some (some (.ref f19))) (l19 : K.lookup f19 = some ⟨oc19, od19, .func (PySem.W.fnOf "_law_closed" "_law_closed" (defArgs s__law_closed) (defBody s__law_closed) (defScope s__law_closed) .none kV19 dc19 pm19 an19 cd19 ct19), sl19⟩) (c19 : PySem.W.codeIn K cd19 "_law_closed" = true) (k19 : PySem.W.keepIn K (.ref f19) = true)
    (a20 : PySem.W.nsIn K mainGlobals "_law_asked" = some (some (.ref f20))) (l20 : K.lookup f20 = some ⟨oc20, od20, .func (PySem.W.fnOf "_law_asked" "_law_asked" (defArgs s__law_asked) (defBody s__law_asked) (defScope s__law_asked) .none kV20 dc20 pm20 an20 cd20 ct20), sl20⟩) (c20 : PySem.W.codeIn K cd20 "_law_asked" = true) (k20 : PySem.W.keepIn K (.ref f20) = true)
    (a21 : PySem.W.nsIn K mainGlobals "law" = some (some (.ref f21))) (l21 : K.lookup f21 = some ⟨oc21, od21, .func (PySem.W.fnOf "law" "law" (defArgs s_law) (defBody s_law) (defScope s_law) .none kV21 dc21 pm21 an21 cd21 ct21), sl21⟩) (c21 : PySem.W.codeIn K cd21 "law" = true) (k21 : PySem.W.keepIn K (.ref f21) = true)
    (z0 : PySem.W.nsIn K mainGlobals "len" = some none)
    (z1 : PySem.W.nsIn K mainGlobals "int" = some none)
    (z2 : PySem.W.nsIn K mainGlobals "range" = some none)
    (z3 : PySem.W.nsIn K mainGlobals "sorted" = some none)
    (z4 : PySem.W.nsIn K mainGlobals "isinstance" = some none)
    (z5 : PySem.W.nsIn K mainGlobals "bool" = some none)
    (z6 : PySem.W.nsIn K mainGlobals "list" = some none)
    (z7 : PySem.W.nsIn K mainGlobals "tuple" = some none)
    (z8 : PySem.W.nsIn K mainGlobals "str" = some none)
    (z9 : PySem.W.nsIn K mainGlobals "abs" = some none)
    (z10 : PySem.W.nsIn K mainGlobals "reversed" = some none)
    : ∃ fd : FuncData, (∀ (s : Shared) (v : Value), BindsTo s fd ⟨[v], []⟩ [("script", v)]) ∧ ∀ base : Heap, K.In base → base.Ns mainGlobals mg → FnOk l.prog w K mg base CX0 7 fa fd ["script"] (spLaw K) := by
  have e := hfa.symm.trans (PySem.W.mg_of X G a21)
  cases e
  have D_clause_of : Df K mg "clause_of" s_clause_of P_clause_of := Df.mk' l0 c0 k0 (fun F => F.binds fun _ _ _ _ _ _ us hl => match us, hl with | [_], _ => rfl) (PySem.W.mg_of X G a0)
  have D_resolve : Df K mg "resolve" s_resolve P_resolve := Df.mk' l1 c1 k1 (fun F => F.binds fun _ _ _ _ _ _ us hl => match us, hl with | [_, _, _], _ => rfl) (PySem.W.mg_of X G a1)
  have D__law_pool : Df K mg "_law_pool" s__law_pool P__law_pool := Df.mk' l2 c2 k2 (fun F => F.binds fun _ _ _ _ _ _ us hl => match us, hl with | [_, _], _ => rfl) (PySem.W.mg_of X G a2)
  have D__law_take : Df K mg "_law_take" s__law_take P__law_take := Df.mk' l3 c3 k3 (fun F => F.binds fun _ _ _ _ _ _ us hl => match us, hl with | [_, _], _ => rfl) (PySem.W.mg_of X G a3)
  have D__law_turn : Df K mg "_law_turn" s__law_turn P__law_turn := Df.mk' l4 c4 k4 (fun F => F.binds fun _ _ _ _ _ _ us hl => match us, hl with | [_, _, _], _ => rfl) (PySem.W.mg_of X G a4)
  have D__law_pick : Df K mg "_law_pick" s__law_pick P__law_pick := Df.mk' l5 c5 k5 (fun F => F.binds fun _ _ _ _ _ _ us hl => match us, hl with | [_, _], _ => rfl) (PySem.W.mg_of X G a5)
  have D__law_mixed : Df K mg "_law_mixed" s__law_mixed P__law_mixed := Df.mk' l6 c6 k6 (fun F => F.binds fun _ _ _ _ _ _ us hl => match us, hl with | [_, _], _ => rfl) (PySem.W.mg_of X G a6)
  have D__law_whole : Df K mg "_law_whole" s__law_whole P__law_whole := Df.mk' l7 c7 k7 (fun F => F.binds fun _ _ _ _ _ _ us hl => match us, hl with | [_], _ => rfl) (PySem.W.mg_of X G a7)
  have D__law_alike : Df K mg "_law_alike" s__law_alike P__law_alike := Df.mk' l8 c8 k8 (fun F => F.binds fun _ _ _ _ _ _ us hl => match us, hl with | [_, _], _ => rfl) (PySem.W.mg_of X G a8)
  have D__law_nodes : Df K mg "_law_nodes" s__law_nodes P__law_nodes := Df.mk' l9 c9 k9 (fun F => F.binds fun _ _ _ _ _ _ us hl => match us, hl with | [_], _ => rfl) (PySem.W.mg_of X G a9)
  have D__law_literals : Df K mg "_law_literals" s__law_literals P__law_literals := Df.mk' l10 c10 k10 (fun F => F.binds fun _ _ _ _ _ _ us hl => match us, hl with | [_, _, _], _ => rfl) (PySem.W.mg_of X G a10)
  have D__law_signs : Df K mg "_law_signs" s__law_signs P__law_signs := Df.mk' l11 c11 k11 (fun F => F.binds fun _ _ _ _ _ _ us hl => match us, hl with | [_, _, _], _ => rfl) (PySem.W.mg_of X G a11)
  have D__law_dressed : Df K mg "_law_dressed" s__law_dressed P__law_dressed := Df.mk' l12 c12 k12 (fun F => F.binds fun _ _ _ _ _ _ us hl => match us, hl with | [_, _], _ => rfl) (PySem.W.mg_of X G a12)
  have D__law_drawn : Df K mg "_law_drawn" s__law_drawn P__law_drawn := Df.mk' l13 c13 k13 (fun F => F.binds fun _ _ _ _ _ _ us hl => match us, hl with | [_, _], _ => rfl) (PySem.W.mg_of X G a13)
  have D__law_clause : Df K mg "_law_clause" s__law_clause P__law_clause := Df.mk' l14 c14 k14 (fun F => F.binds fun _ _ _ _ _ _ us hl => match us, hl with | [_, _], _ => rfl) (PySem.W.mg_of X G a14)
  have D__law_struck : Df K mg "_law_struck" s__law_struck P__law_struck := Df.mk' l15 c15 k15 (fun F => F.binds fun _ _ _ _ _ _ us hl => match us, hl with | [_, _, _, _], _ => rfl) (PySem.W.mg_of X G a15)
  have D__law_rows : Df K mg "_law_rows" s__law_rows P__law_rows := Df.mk' l16 c16 k16 (fun F => F.binds fun _ _ _ _ _ _ us hl => match us, hl with | [_], _ => rfl) (PySem.W.mg_of X G a16)
  have D__law_holds : Df K mg "_law_holds" s__law_holds P__law_holds := Df.mk' l17 c17 k17 (fun F => F.binds fun _ _ _ _ _ _ us hl => match us, hl with | [_, _], _ => rfl) (PySem.W.mg_of X G a17)
  have D__law_pair : Df K mg "_law_pair" s__law_pair P__law_pair := Df.mk' l18 c18 k18 (fun F => F.binds fun _ _ _ _ _ _ us hl => match us, hl with | [_, _, _, _], _ => rfl) (PySem.W.mg_of X G a18)
  have D__law_closed : Df K mg "_law_closed" s__law_closed P__law_closed := Df.mk' l19 c19 k19 (fun F => F.binds fun _ _ _ _ _ _ us hl => match us, hl with | [_, _], _ => rfl) (PySem.W.mg_of X G a19)
  have D__law_asked : Df K mg "_law_asked" s__law_asked P__law_asked := Df.mk' l20 c20 k20 (fun F => F.binds fun _ _ _ _ _ _ us hl => match us, hl with | [_, _], _ => rfl) (PySem.W.mg_of X G a20)
  have D_law : Df K mg "law" s_law P_law := Df.mk' l21 c21 k21 (fun F => F.binds fun _ _ _ _ _ _ us hl => match us, hl with | [_], _ => rfl) (PySem.W.mg_of X G a21)
  have b_len : mg "len" = none := PySem.W.mg_none_of X G z0
  have b_int : mg "int" = none := PySem.W.mg_none_of X G z1
  have b_range : mg "range" = none := PySem.W.mg_none_of X G z2
  have b_sorted : mg "sorted" = none := PySem.W.mg_none_of X G z3
  have b_isinstance : mg "isinstance" = none := PySem.W.mg_none_of X G z4
  have b_bool : mg "bool" = none := PySem.W.mg_none_of X G z5
  have b_list : mg "list" = none := PySem.W.mg_none_of X G z6
  have b_tuple : mg "tuple" = none := PySem.W.mg_none_of X G z7
  have b_str : mg "str" = none := PySem.W.mg_none_of X G z8
  have b_abs : mg "abs" = none := PySem.W.mg_none_of X G z9
  have b_reversed : mg "reversed" = none := PySem.W.mg_none_of X G z10
  refine ⟨PySem.W.fnOf "law" "law" (defArgs s_law) (defBody s_law) (defScope s_law) .none kV21 dc21 pm21 an21 cd21 ct21, fun s v => .of_eq rfl, fun base _ _ => ?_⟩
  have p__law_pool : Pr l.prog w K mg base "_law_pool" 1 P__law_pool (spPool K) := by apply ok_pool <;> assumption
  have p__law_take : Pr l.prog w K mg base "_law_take" 1 P__law_take (spTake K) := by apply ok_take <;> assumption
  have p__law_turn : Pr l.prog w K mg base "_law_turn" 2 P__law_turn (spTurn K) := by apply ok_turn <;> assumption
  have p__law_pick : Pr l.prog w K mg base "_law_pick" 2 P__law_pick (spPick K) := by apply ok_pick <;> assumption
  have p__law_mixed : Pr l.prog w K mg base "_law_mixed" 2 P__law_mixed (spMixed K) := by apply ok_mixed <;> assumption
  have p__law_whole : Pr l.prog w K mg base "_law_whole" 1 P__law_whole (spWhole K) := by apply ok_whole <;> assumption
  have p__law_alike : Pr l.prog w K mg base "_law_alike" 3 P__law_alike (spAlike 1) := by refine ok_alike ?_ ?_ ?_ ?_ ?_ ?_ ?_ ?_ ?_ ?_ 1 <;> assumption
  have p__law_clause : Pr l.prog w K mg base "_law_clause" 1 P__law_clause (spClause K) := by apply ok_clause <;> assumption
  have p_clause_of : Pr l.prog w K mg base "clause_of" 1 P_clause_of (spClauseOf K) := by apply ok_clause_of <;> assumption
  have p_resolve : Pr l.prog w K mg base "resolve" 2 P_resolve (spResolve K) := by apply ok_resolve <;> assumption
  have p__law_struck : Pr l.prog w K mg base "_law_struck" 2 P__law_struck (spStruck K) := by apply ok_struck <;> assumption
  have p__law_holds : Pr l.prog w K mg base "_law_holds" 1 P__law_holds (spHolds K) := by apply ok_holds <;> assumption
  have p__law_rows : Pr l.prog w K mg base "_law_rows" 1 P__law_rows (spRows K) := by apply ok_rows <;> assumption
  have p__law_pair : Pr l.prog w K mg base "_law_pair" 4 P__law_pair (spPair K) := by apply ok_pair <;> assumption
  have p__law_closed : Pr l.prog w K mg base "_law_closed" 5 P__law_closed (spClosed K) := by apply ok_closed <;> assumption
  have p__law_asked : Pr l.prog w K mg base "_law_asked" 6 P__law_asked (spAsked K) := by apply ok_asked <;> assumption
  have p__law_nodes : Pr l.prog w K mg base "_law_nodes" 2 P__law_nodes (spNodes K) := by apply ok_nodes <;> assumption
  have p__law_literals : Pr l.prog w K mg base "_law_literals" 3 P__law_literals (spLiterals K) := by apply ok_literals <;> assumption
  have p__law_signs : Pr l.prog w K mg base "_law_signs" 1 P__law_signs (spSigns K) := by apply ok_signs <;> assumption
  have p__law_dressed : Pr l.prog w K mg base "_law_dressed" 3 P__law_dressed (spDressed K) := by apply ok_dressed <;> assumption
  have p__law_drawn : Pr l.prog w K mg base "_law_drawn" 4 P__law_drawn (spDrawn K) := by apply ok_drawn <;> assumption
  have p_law : Pr l.prog w K mg base "law" 7 P_law (spLaw K) := by apply ok_law <;> assumption
  exact p_law.at (PySem.W.mg_of X G a21) l21
end Kf
open PySem PySem.W PyProof.Rows
set_option maxRecDepth 100000 in
set_option maxHeartbeats 0 in
theorem PySem.Challenge.cw_solvedpapers_k06_resolution_decides_holds : PySem.Challenge.rw_solvedpapers_k06_resolution_decides.Holds := by
  w_on; o_law; k_head; (case hw => w_witness2)
  k_fill
  refine L2.walk_of (l := PySem.Challenge.rw_solvedpapers_k06_resolution_decides) (n := 63) (k := 7) (x := "script") (CX := fun _ => L2.CX0) (sp := fun w => Kf.spLaw _) rfl (by decide) rfl ⟨rfl, by decide, by decide⟩ (fun w h Y => PySem.W.kIn_of Y) ?F (fun _ _ a ns hl _ hS => ⟨a, ns, rfl, hS, hl, fun _ => rfl⟩) (fun _ _ _ _ _ h => h)
  case F =>
    intro w mg fa h KX G hmg
    refine' Kf.all_mk KX G hmg ?a0 ?l0 ?c0 ?k0 ?a1 ?l1 ?c1 ?k1 ?a2 ?l2 ?c2 ?k2 ?a3 ?l3 ?c3 ?k3 ?a4 ?l4 ?c4 ?k4 ?a5 ?l5 ?c5 ?k5 ?a6 ?l6 ?c6 ?k6 ?a7 ?l7 ?c7 ?k7 ?a8 ?l8 ?c8 ?k8 ?a9 ?l9 ?c9 ?k9 ?a10 ?l10 ?c10 ?k10 ?a11 ?l11 ?c11 ?k11 ?a12 ?l12 ?c12 ?k12 ?a13 ?l13 ?c13 ?k13 ?a14 ?l14 ?c14 ?k14 ?a15 ?l15 ?c15 ?k15 ?a16 ?l16 ?c16 ?k16 ?a17 ?l17 ?c17 ?k17 ?a18 ?l18 ?c18 ?k18 ?a19 ?l19 ?c19 ?k19 ?a20 ?l20 ?c20 ?k20 ?a21 ?l21 ?c21 ?k21 ?z0 ?z1 ?z2 ?z3 ?z4 ?z5 ?z6 ?z7 ?z8 ?z9 ?z10
    case a0 => k_is
    case l0 => k_is
    case c0 => k_is
    case k0 => k_is
    case a1 => k_is
    case l1 => k_is
    case c1 => k_is
    case k1 => k_is
    case a2 => k_is
    case l2 => k_is
    case c2 => k_is
    case k2 => k_is
    case a3 => k_is
    case l3 => k_is
    case c3 => k_is
    case k3 => k_is
    case a4 => k_is
    case l4 => k_is
    case c4 => k_is
    case k4 => k_is
    case a5 => k_is
    case l5 => k_is
    case c5 => k_is
    case k5 => k_is
    case a6 => k_is
    case l6 => k_is
    case c6 => k_is
    case k6 => k_is
    case a7 => k_is
    case l7 => k_is
    case c7 => k_is
    case k7 => k_is
    case a8 => k_is
    case l8 => k_is
    case c8 => k_is
    case k8 => k_is
    case a9 => k_is
    case l9 => k_is
    case c9 => k_is
    case k9 => k_is
    case a10 => k_is
    case l10 => k_is
    case c10 => k_is
    case k10 => k_is
    case a11 => k_is
    case l11 => k_is
    case c11 => k_is
    case k11 => k_is
    case a12 => k_is
    case l12 => k_is
    case c12 => k_is
    case k12 => k_is
    case a13 => k_is
    case l13 => k_is
    case c13 => k_is
    case k13 => k_is
    case a14 => k_is
    case l14 => k_is
    case c14 => k_is
    case k14 => k_is
    case a15 => k_is
    case l15 => k_is
    case c15 => k_is
    case k15 => k_is
    case a16 => k_is
    case l16 => k_is
    case c16 => k_is
    case k16 => k_is
    case a17 => k_is
    case l17 => k_is
    case c17 => k_is
    case k17 => k_is
    case a18 => k_is
    case l18 => k_is
    case c18 => k_is
    case k18 => k_is
    case a19 => k_is
    case l19 => k_is
    case c19 => k_is
    case k19 => k_is
    case a20 => k_is
    case l20 => k_is
    case c20 => k_is
    case k20 => k_is
    case a21 => k_is
    case l21 => k_is
    case c21 => k_is
    case k21 => k_is
    case z0 => k_is
    case z1 => k_is
    case z2 => k_is
    case z3 => k_is
    case z4 => k_is
    case z5 => k_is
    case z6 => k_is
    case z7 => k_is
    case z8 => k_is
    case z9 => k_is
    case z10 => k_is
#print axioms PySem.Challenge.cw_solvedpapers_k06_resolution_decides_holds


end